import PyProof.Rows.All
import Wide.All
import OpenK.AllK
import Wide.FinOn
import KE.KStateDown
import Lean
import HandS.Base
import HandS.Call
import HandS.List
import HandS.Comp
import HandS.Ends
import HandS.Dict
import HandS.Iter
import HandS.Text
import HandS.More
import HandS.Exc
import HandS.FStr
import KE.KCallOwn
import KE.KOpsOwn
import HandS.ExcOwn
import HandS.TryOnly
import HandS.Words
import HandS.WordsList
import HandS.WordsDict
import HandS.WordsExc
import HandS.Defaults
import HandS.MakeKw
import HandS.IsInst
import HandS.Wide
import HandS.ExcInit
import HandS.ExcField
import HandS.ExcIs
import HandS.SlotsOwn
import HandS.NamedTupSort
import HandS.OwnEq
import HandS.EndBits
import HandS.Head0
import HandS.Head1
import HandS.Head2
import HandS.HeadEnd
import HandS.HeadHook1
import HandS.HeadHook2
import HandS.DictComp
import HandS.Property
import HandS.Deep
import HandS.Walk
import HandS.TupAny
import KE.KEqDict
import KE.DataEq
import KE.LtData
import HandS.Conv
import KE.KDictKeyed
import HandS.GenList
import HandS.GenYield
import HandS.Style
import HandS.Star
import KE.GoesEnumKw
import HandS.HotCalls
import PySem.Challenge.RW_seenshares_k50_inside
set_option Elab.async false
set_option linter.all false
set_option maxRecDepth 100000
set_option maxHeartbeats 4000000
namespace S
open PySem PySem.Spec PyProof.Rows L2
/-! the head's facts as plain Bools over the written part -/
abbrev Frag := PySem.W.Frag
abbrev Ck := Frag → Bool
/-- the function behind a property -/
def gA (K : Frag) (p : Str × Option Str) : Addr := match PySem.W.recIn K (He.fAd K p) "property" with
  | some (.ref g :: _) => g
  | _ => 0
def gnW (K : Frag) (p : Str × Option Str) : He.FnW := match K.lookup (gA K p) with
  | some ⟨_, _, .func fd, _⟩ => some (fd.name, fd.qualname, fd.params, fd.body, fd.scope, fd.globals, fd.closure, fd.builtins)
  | _ => none
def gok (K : Frag) (d : He.DefD) : Bool := PySem.W.keepIn K (.ref (gA K d.at_)) && (match K.lookup (gA K d.at_) with
  | some ⟨_, _, .func fd, _⟩ => PySem.W.codeIn K fd.code d.qual && (He.dflB K fd.defaults (d.dvs K) && He.kwdB K fd.kwdefaults (d.kws K))
  | _ => false)
theorem funG {K : Frag} {d : He.DefD} (e : gnW K d.at_ = d.val) (c : gok K d = true) : ∃ fd, FunD K d.name d.qual d.params d.body d.scope (d.dvs K) (d.kws K) (gA K d.at_) fd := by
  obtain ⟨kp, c2⟩ := He.ba c
  unfold gnW at e
  cases q : K.lookup (gA K d.at_) with
  | none => rw [q] at c2; cases c2
  | some o =>
    obtain ⟨o1, o2, o3, o4⟩ := o
    rw [q] at c2 e
    cases o3 with
    | func fd =>
      obtain ⟨x1, x2, x3, x4, x5, x6, x7, x8, x9, x10, x11, x12, x13, x14, x15⟩ := fd
      have e2 : (some (x1, x2, x3, x4, x5, x6, x7, x15) : He.FnW) = some (d.name, d.qual, d.params, .stmts d.body, d.scope, mainGlobals, [], builtinsNs) := e
      simp only [Option.some.injEq, Prod.mk.injEq] at e2
      obtain ⟨y1, y2, y3, y4, y5, y6, y7, y8⟩ := e2
      subst y1 y2 y3 y4 y5 y6 y7 y8
      have c3 : (PySem.W.codeIn K x13 d.qual && (He.dflB K x8 (d.dvs K) && He.kwdB K x9 (d.kws K))) = true := c2
      obtain ⟨k1, k2⟩ := He.ba c3
      obtain ⟨k3, k4⟩ := He.ba k2
      exact ⟨_, ⟨o1, o2, x8, x9, x10, x11, x12, x13, x14, o4, rfl, q, k1, He.dflB_ok k3, He.kwdB_ok k4⟩, kp⟩
    | _ => cases c2
def obsX (ck : List Ck) (fn gt : List He.DefD) (K : Frag) : He.AlD :=
  (ck.all (fun c => c K) && (fn.all (fun d => d.ok K) && gt.all (fun d => gok K d)), fn.map (fun d => He.fnW K d.at_) ++ gt.map (fun d => gnW K d.at_))
def valX (fn gt : List He.DefD) : He.AlD := (true, fn.map He.DefD.val ++ gt.map He.DefD.val)
def obsXG (n : Nat) (ck : List Ck) (fn gt : List He.DefD) (g : Addr → Option Obj) : He.AlD :=
  obsX ck fn gt (He.frG g (He.asD g n))
def SaysX (ck : List Ck) (fn gt : List He.DefD) (K : Frag) : Prop := obsX ck fn gt K = valX fn gt
def hookX (n : Nat) (ck : List Ck) (fn gt : List He.DefD) : PySem.W.Hook where
  α := He.AlD
  obs := fun s => obsXG n ck fn gt s.heap.get?
  val := fun _ => valX fn gt
  says := fun _ h => ∃ K : Frag, K.In h ∧ SaysX ck fn gt K
  of := fun _ _ e => ⟨_, He.frG_in, e⟩
  keeps := fun _ _ _ ⟨K, hK, c⟩ k => ⟨K, PySem.W.Frag.In.keeps hK k, c⟩
theorem obsXG_eq {n : Nat} {ck : List Ck} {fn gt : List He.DefD} {g : Addr → Option Obj} {s : Shared}
    (h : ∀ a, g a = s.heap.get? a) : obsXG n ck fn gt g = (hookX n ck fn gt).obs s := by
  have e : g = s.heap.get? := funext h
  subst e
  exact rfl
theorem SaysX.bools {ck : List Ck} {fn gt : List He.DefD} {K : Frag} (c : SaysX ck fn gt K) :
    (ck.all (fun c => c K) && (fn.all (fun d => d.ok K) && gt.all (fun d => gok K d))) = true := congrArg Prod.fst c
theorem SaysX.fact {ck : List Ck} {fn gt : List He.DefD} {K : Frag} (c : SaysX ck fn gt K) (i : Nat) {f : Ck}
    (h : ck[i]? = some f := by rfl) : f K = true :=
  List.all_eq_true.mp (He.ba c.bools).1 f (List.mem_of_getElem? h)
/-- the function object that stands there -/
def fdOf (K : Frag) (a : Addr) : FuncData := match K.lookup a with
  | some ⟨_, _, .func fd, _⟩ => fd
  | _ => PySem.W.fnOf "" "" ⟨[], [], none, [], [], none, []⟩ [] ⟨.function, [], false, false, []⟩ .none .none .none .none none .none .none
def fdA (K : Frag) (p : Str × Option Str) : FuncData := fdOf K (He.fAd K p)
def gdA (K : Frag) (p : Str × Option Str) : FuncData := fdOf K (gA K p)
abbrev FunA (K : Frag) (d : He.DefD) : Prop :=
  FunD K d.name d.qual d.params d.body d.scope (d.dvs K) (d.kws K) (He.fAd K d.at_) (fdA K d.at_)
abbrev FunG (K : Frag) (d : He.DefD) : Prop :=
  FunD K d.name d.qual d.params d.body d.scope (d.dvs K) (d.kws K) (gA K d.at_) (gdA K d.at_)
theorem SaysX.def_ {ck : List Ck} {fn gt : List He.DefD} {K : Frag} (c : SaysX ck fn gt K) (i : Nat) {d : He.DefD}
    (h : fn[i]? = some d := by rfl) : FunA K d := by
  have e : fn.map (fun d => He.fnW K d.at_) ++ gt.map (fun d => gnW K d.at_) = fn.map He.DefD.val ++ gt.map He.DefD.val := congrArg Prod.snd c
  have e1 := (List.append_inj e (by rw [List.length_map, List.length_map])).1
  have e2 := congrArg (fun l => l[i]?) e1
  simp only [List.getElem?_map, h, Option.map_some, Option.some.injEq] at e2
  obtain ⟨fd, F⟩ := He.DefD.funD e2 (List.all_eq_true.mp (He.ba (He.ba c.bools).2).1 d (List.mem_of_getElem? h))
  have q : fdA K d.at_ = fd := by
    obtain ⟨oc, od, dV, kV, doc, pm, an, cdv, ct, osl, r, lk, _⟩ := F.ex
    unfold fdA fdOf
    rw [lk]
  unfold FunA
  rw [q]
  exact F
theorem SaysX.get_ {ck : List Ck} {fn gt : List He.DefD} {K : Frag} (c : SaysX ck fn gt K) (i : Nat) {d : He.DefD}
    (h : gt[i]? = some d := by rfl) : FunG K d := by
  have e : fn.map (fun d => He.fnW K d.at_) ++ gt.map (fun d => gnW K d.at_) = fn.map He.DefD.val ++ gt.map He.DefD.val := congrArg Prod.snd c
  have e1 := (List.append_inj e (by rw [List.length_map, List.length_map])).2
  have e2 := congrArg (fun l => l[i]?) e1
  simp only [List.getElem?_map, h, Option.map_some, Option.some.injEq] at e2
  obtain ⟨fd, F⟩ := funG e2 (List.all_eq_true.mp (He.ba (He.ba c.bools).2).2 d (List.mem_of_getElem? h))
  have q : gdA K d.at_ = fd := by
    obtain ⟨oc, od, dV, kV, doc, pm, an, cdv, ct, osl, r, lk, _⟩ := F.ex
    unfold gdA fdOf
    rw [lk]
  unfold FunG
  rw [q]
  exact F
/-- a property of a class -/
def proB (K : Frag) (C : Addr) (f : Str) : Bool := He.eqO (PySem.W.findIn K (.ref C) f) (some (some (.ref (He.ma K C f)))) &&
  (He.eqO (PySem.W.specialIn K (.ref (He.ma K C f)) "__get__") (some (some (.builtin "property.__get__"))) &&
  (decide (PySem.W.takesIn K (.ref (He.ma K C f)) = some true) && (match PySem.W.recIn K (He.ma K C f) "property" with | some (.ref _ :: _) => true | _ => false)))
theorem proB_ok {K : Frag} {x f : Str} (q : proB K (He.ga K x) f = true) : PropOf K (He.ga K x) f (He.ma K (He.ga K x) f) (gA K (x, some f)) := by
  obtain ⟨a, q⟩ := He.ba q
  obtain ⟨b, q⟩ := He.ba q
  obtain ⟨c, d⟩ := He.ba q
  refine ⟨He.eqO_ok a, He.eqO_ok b, of_decide_eq_true c, ?_⟩
  show ∃ rest, PySem.W.recIn K (He.ma K (He.ga K x) f) "property" = some (.ref (gA K (x, some f)) :: rest)
  have e : gA K (x, some f) = (match PySem.W.recIn K (He.ma K (He.ga K x) f) "property" with
    | some (.ref g :: _) => g
    | _ => 0) := rfl
  rw [e]
  split at d
  · rename_i g r h
    rw [h]
    exact ⟨r, rfl⟩
  · cases d
/-! own exception classes, over ValueError at any depth -/
def oexO (K : Frag) (C : Addr) : Bool := (match K.lookup C with
  | some ⟨.type "type", _, .cls cd, sl⟩ => (match cd.mro, sl.toList with
    | .ref C' :: bm, [_, _, _, _, some (.builtin n), _] =>
      C' == C && (n == "ValueError.__new__" && (!cd.hasDel && (cd.hasDict && PySem.HandSPX.refsVE bm)))
    | _, _ => false)
  | _ => false)
theorem oexO_ok {K : Frag} {C : Addr} (q : oexO K C = true) :
    ∃ nm qn N bs bm sn sub ab col dd k0 k1 k2 k3 k5, K.lookup C = some (excClassObj nm qn C N bs bm true sn sub ab col dd k0 k1 k2 k3 k5 "ValueError.__new__") ∧ PySem.HandSPX.refsVE bm = true := by
  unfold oexO at q
  split at q
  · rename_i dd cd sl ho
    split at q
    · rename_i c1 bm k0 k1 k2 k3 n k5 hm hs
      simp only [Bool.and_eq_true, beq_iff_eq, Bool.not_eq_true'] at q
      obtain ⟨e1, e2, e3, e4, e5⟩ := q
      subst e1 e2
      obtain ⟨nm, bs, mro, ns, qn, hd, sn, sub, ab, col, dl⟩ := cd
      simp only at hm e3 e4
      subst hm e3 e4
      obtain ⟨l⟩ := sl
      simp only at hs
      subst hs
      exact ⟨nm, qn, ns, bs, bm, sn, sub, ab, col, dd, k0, k1, k2, k3, k5, ho, e5⟩
    · cases q
  · cases q
def oexB (K : Frag) (C : Addr) : Bool := oexO K C && (He.eqO (PySem.W.findIn K (.ref C) "__setattr__") (some (some (.builtin "object.__setattr__"))) &&
  (decide (PySem.W.subIn K (.ref C) (.type "BaseException") = some true) && (decide (PySem.W.typeIn K (.ref C) = some (.type "type")) && PySem.W.keepIn K (.ref C))))
theorem oexB_ok {K : Frag} {C : Addr} (q : oexB K C = true) : OexC K C := by
  obtain ⟨a, q⟩ := He.ba q
  obtain ⟨b, q⟩ := He.ba q
  obtain ⟨c, q⟩ := He.ba q
  obtain ⟨d, e⟩ := He.ba q
  exact ⟨oexO_ok a, He.eqO_ok b, of_decide_eq_true c, of_decide_eq_true d, e⟩
def excB (K : Frag) (D : Addr) : Bool := xfB K D && (He.eqO (PySem.W.findIn K (.ref D) "__class__") (some (some (.builtin "object.__class__"))) &&
  (He.eqO (PySem.W.specialIn K (.builtin "object.__class__") "__get__") (some (some (.builtin "getset_descriptor.__get__"))) &&
  (decide (PySem.W.takesIn K (.builtin "object.__class__") = some true) && decide (PySem.W.mroIn K D (.type "object") = some true))))
theorem excB_ok {K : Frag} {D : Addr} (q : excB K D = true) : ExcC K D := by
  obtain ⟨a, q⟩ := He.ba q
  obtain ⟨b, q⟩ := He.ba q
  obtain ⟨c, q⟩ := He.ba q
  obtain ⟨d, e⟩ := He.ba q
  have x := xfB_ok a
  exact ⟨x.ga, x.gg, x.exC, x.hdC, He.eqO_ok b, He.eqO_ok c, of_decide_eq_true d, of_decide_eq_true e⟩
end S
namespace S
open PySem PySem.Spec PyProof.Rows L2
/-! promises by their number of arguments -/
def Sp1 (f : V → Hp → VK → XK → Prop) : Sp := fun vs H Q E => ∃ x, vs = [x] ∧ f x H Q E
def Sp2 (f : V → V → Hp → VK → XK → Prop) : Sp := fun vs H Q E => ∃ x y, vs = [x, y] ∧ f x y H Q E
def Sp3 (f : V → V → V → Hp → VK → XK → Prop) : Sp := fun vs H Q E => ∃ x y z, vs = [x, y, z] ∧ f x y z H Q E
def Sp4 (f : V → V → V → V → Hp → VK → XK → Prop) : Sp := fun vs H Q E => ∃ x y z u, vs = [x, y, z, u] ∧ f x y z u H Q E
def Sp5 (f : V → V → V → V → V → Hp → VK → XK → Prop) : Sp := fun vs H Q E => ∃ x y z u v, vs = [x, y, z, u, v] ∧ f x y z u v H Q E
section
variable {vs : List V} {H : Hp} {Q : VK} {E : XK}
theorem splen1 {f} (h : Sp1 f vs H Q E) : vs.length = 1 := by obtain ⟨_, rfl, _⟩ := h; rfl
theorem splen2 {f} (h : Sp2 f vs H Q E) : vs.length = 2 := by obtain ⟨_, _, rfl, _⟩ := h; rfl
theorem splen3 {f} (h : Sp3 f vs H Q E) : vs.length = 3 := by obtain ⟨_, _, _, rfl, _⟩ := h; rfl
theorem splen4 {f} (h : Sp4 f vs H Q E) : vs.length = 4 := by obtain ⟨_, _, _, _, rfl, _⟩ := h; rfl
theorem splen5 {f} (h : Sp5 f vs H Q E) : vs.length = 5 := by obtain ⟨_, _, _, _, _, rfl, _⟩ := h; rfl
end
/-! built-ins by name -/
theorem boot_int : bootBuiltins "int" = some (.type "int") := by decide +kernel
theorem boot_bool : bootBuiltins "bool" = some (.type "bool") := by decide +kernel
theorem boot_str : bootBuiltins "str" = some (.type "str") := by decide +kernel
theorem boot_list : bootBuiltins "list" = some (.type "list") := by decide +kernel
theorem boot_tuple : bootBuiltins "tuple" = some (.type "tuple") := by decide +kernel
theorem boot_dict : bootBuiltins "dict" = some (.type "dict") := by decide +kernel
theorem boot_len : bootBuiltins "len" = some (.builtin "len") := by decide +kernel
theorem boot_abs : bootBuiltins "abs" = some (.builtin "abs") := by decide +kernel
theorem boot_isinstance : bootBuiltins "isinstance" = some (.builtin "isinstance") := by decide +kernel
section
variable {X : Cx} {CX : CXT} {k n : Nat} {f C : Addr} {fd : FuncData} {ps ks : List Str} {sp : Sp} {E : L2.St → XK} {x m : Str} {p pos apos : Pos} {o e : Expr} {es : List Expr} {kws : List Keyword} {ta : TE} {t tk : TA} {g : List Value → List Value → List Value} {gV : List V → List V → List V}
theorem pe_globI {i : Int} (hg : Gl X x) (h : ∃ t, X.mg x = some (.int i t)) (hd : (x == ("__debug__" : Str)) = false := by decide) : PE X (.Name x pos) (tC (.int i)) := by
  obtain ⟨t, h⟩ := h
  exact pe_glob hg h ⟨t, rfl⟩ hd
theorem pe_globS {z : Str} (hg : Gl X x) (h : ∃ t, X.mg x = some (.str z t)) (hd : (x == ("__debug__" : Str)) = false := by decide) : PE X (.Name x pos) (tC (.str z)) := by
  obtain ⟨t, h⟩ := h
  exact pe_glob hg h ⟨t, rfl⟩ hd
/-! what is raised, wished for at the slots -/
theorem pas0 {X : Cx} : ∀ σ : L2.St, PassesAt (L2.CX X.prog X.w) X σ E0 := fun σ pins H s e s' I c => passL pins σ H s e s' I c
theorem pasE {X : Cx} {W : WX} (tk : Takes X W) : ∀ σ : L2.St, PassesAt (L2.CX X.prog X.w) X σ (fun cls d H => W cls d σ H) := fun σ => passAt tk σ
theorem own_of {K : Value → Shared → Prop} {E1 : Value → Shared → Prop} (hx : X.xe = fun e s' => wpAny (model X.prog X.w) X.A (leaving X.env e) (fun _ s2 => K e s2) E1 s') : PassesOwn (model X.prog X.w) X.A X.env X.xe := passes_of hx
theorem kb_of_binds {K : Frag} {ds : List Value} {dvs : List V} (hb : Binds K fd ps ds) (hd : Vals dvs ds) (hl : n + dvs.length = ps.length) : KBn K fd ps n [] (fun us _ => us ++ ds) (fun vs _ => vs ++ dvs) where
  to := fun s us ws k l1 l2 => by
    have e : ([] : List Str).zip ws = [] := rfl
    rw [e]
    exact hb s us k (by rw [List.length_append, l1, ← hd.length]; exact hl)
  rel := fun r _ => r.append hd
/-! f(e, .., k = v, ..); C(e, .., k = v, ..); o.m(e, .., k = v, ..) -/
def tFnS (n m : Nat) (sp : Sp) (gV : List V → List V → List V) (E : L2.St → XK) (t tk : TA) : TE := fun σ H Q =>
  t σ H fun vs H1 => tk σ H1 fun zs H2 => vs.length = n ∧ zs.length = m ∧ sp (gV vs zs) H2 Q (E σ)
def tMkS (C : Addr) (n m : Nat) (sp : Sp) (gV : List V → List V → List V) (E : L2.St → XK) (t tk : TA) : TE := fun σ H Q =>
  t σ H fun vs H1 => tk σ H1 fun zs H2 => vs.length = n ∧ zs.length = m ∧ ∀ x dx, H2 x = none → H2 dx = none → dx ≠ x →
    sp (gV (.ref x :: vs) zs) (upd (upd H2 dx (.own x)) x (.ins C dx [])) (fun v H3 => v = .non ∧ Q (.ref x) H3) (E σ)
def tMtS (C : Addr) (m : Str) (n l : Nat) (sp : Sp) (gV : List V → List V → List V) (E : L2.St → XK) (ta : TE) (t tk : TA) : TE := fun σ H Q =>
  ta σ H fun x H1 => ∃ a dx fs, x = .ref a ∧ H1 a = some (.ins C dx fs) ∧ fs.lookup m = none ∧
    t σ H1 fun vs H2 => tk σ H2 fun zs H3 => vs.length = n ∧ zs.length = l ∧ sp (gV (x :: vs) zs) H3 Q (E σ)
section
variable {pins : List (Addr × Obj)} {σ : L2.St} {H : Hp} {s : Shared} {Q : VK} {us ws : List Value} {vs zs : List V}
theorem run_S (F : FnOk X.prog X.w X.K X.mg X.base CX k f fd ps sp) (hr : Room k X.A) (hb : KBn X.K fd ps n ks g gV) (hx : PassesAt CX X σ (E σ)) (I : Inv X pins σ H s) (r : Vals vs us) (rz : Vals zs ws)
    (l1 : vs.length = n) (l2 : zs.length = ks.length) (h : sp (gV vs zs) H Q (E σ)) : wpAny (model X.prog X.w) X.A (call (.ref f) us (ks.zip ws)) (EP X pins σ Q) X.xe s := by
  have a1 : us.length = n := r.length.symm.trans l1
  have a2 : ws.length = ks.length := rz.length.symm.trans l2
  refine wpAny_call (codeAny_mono (F.run X.A X.stack s H ⟨us, ks.zip ws⟩ (g us ws) (gV vs zs) Q (E σ) hr I.env0 (hb.to s us ws I.kIn a1 a2) (hb.rel r rz) h) fun r s' hq => ?_)
  match r, hq with
  | .error e, hq => exact hx pins H s e s' I hq
  | .ok (.ret u), hq => exact I.after hq
  | .ok .next, hq => exact hq.elim
  | .ok .brk, hq => exact hq.elim
  | .ok .cont, hq => exact hq.elim
theorem run_mkS (M : Mk X.K C f) (F : FnOk X.prog X.w X.K X.mg X.base CX k f fd ps sp) (hr : Room (k + 1) X.A) (hb : KBn X.K fd ps (n + 1) ks g gV) (hx : PassesAt CX X σ (E σ)) (I : Inv X pins σ H s) (r : Vals vs us) (rz : Vals zs ws)
    (l1 : vs.length = n) (l2 : zs.length = ks.length) (h : ∀ x dx, H x = none → H dx = none → dx ≠ x → sp (gV (.ref x :: vs) zs) (upd (upd H dx (.own x)) x (.ins C dx [])) (fun v H2 => v = .non ∧ Q (.ref x) H2) (E σ)) :
    wpAny (model X.prog X.w) X.A (call (.ref C) us (ks.zip ws)) (EP X pins σ Q) X.xe s := by
  have hq := h (s.heap.objs.size + 1) s.heap.objs.size (I.hok.fresh (Nat.le_succ _)) (I.hok.fresh (Nat.le_refl _)) (Nat.ne_of_lt (Nat.lt_succ_self _))
  have J := Inv.made (C := C) I
  have r1 : Vals (V.ref (s.heap.objs.size + 1) :: vs) (Value.ref (s.heap.objs.size + 1) :: us) := .cons rfl r
  have a1 : (Value.ref (s.heap.objs.size + 1) :: us).length = n + 1 := by rw [← r1.length]; exact congrArg Nat.succ l1
  have a2 : ws.length = ks.length := rz.length.symm.trans l2
  have run := F.run _ X.stack _ _ ⟨Value.ref (s.heap.objs.size + 1) :: us, ks.zip ws⟩ (g (Value.ref (s.heap.objs.size + 1) :: us) ws) _ _ (E σ) (hr.make C us (ks.zip ws)) (J.env0.make C us (ks.zip ws)) (hb.to _ _ ws J.kIn a1 a2) (hb.rel r1 rz) hq
  refine wpAny_call (make_map (f := f) I.kIn M.makes M.init (beq_iff_eq.mp M.fn) (codeAny_mono run fun r s' hq2 => ?_))
  match r, hq2 with
  | .error e, hq2 => exact hx pins _ _ e s' J hq2
  | .ok (.ret u), hq2 =>
    obtain ⟨v, H2, J2, rv, ev, q3⟩ := J.after hq2
    subst ev
    exact ⟨rv, ⟨V.ref (s.heap.objs.size + 1), H2, J2, rfl, q3⟩⟩
  | .ok .next, hq2 => exact hq2.elim
  | .ok .brk, hq2 => exact hq2.elim
  | .ok .cont, hq2 => exact hq2.elim
end
theorem pe_fnS (F : FnOk X.prog X.w X.K X.mg X.base CX k f fd ps sp) (hr : Room k X.A) (hg : Gl X x) (hm : X.mg x = some (.ref f)) (hk : PySem.W.keepIn X.K (.ref f) = true) (hb : KBn X.K fd ps n ks g gV) (hx : ∀ σ, PassesAt CX X σ (E σ))
    (ha : PA X (e :: es) t) (hkw : PK X kws tk) (hall : (backToKw pos (keywordEach kws X.env)).all (·.1.isSome) = true) (hks : (backToKw pos (keywordEach kws X.env)).filterMap (·.1) = ks)
    (hdb : (x == ("__debug__" : Str)) = false := by decide) (he : starEach (e :: es) X.env = (false, eval e X.env) :: starEach es X.env := by rfl)
    (hpl : ((backTo pos (starEach (e :: es) X.env)).any (·.1) || (backToKw pos (keywordEach kws X.env)).any (·.1.isNone)) = false := by rfl) :
    PE X (.Call (.Name x p) (e :: es) kws pos) (tFnS n ks.length sp gV E t tk) := ⟨fun pins s σ H Q I h =>
  wpAny_Call_Name_kw (ld_glob I hg hm (PySem.W.callWith_KW (h₀ := X.base) I.ok.mod.kin hk hall (thn (ha.run pos pins s σ H _ I h) fun us s1 ⟨vs, H1, I1, r, q⟩ =>
    thn (hkw.run pos pins s1 σ H1 _ I1 q) fun ws s2 ⟨zs, H2, I2, rz, l1, l2, q2⟩ => ⟨I2.kIn, by rw [hks]; exact run_S F hr hb (hx σ) I2 r rz l1 l2 q2⟩) hpl he) hdb)⟩
theorem pe_mkS (M : Mk X.K C f) (F : FnOk X.prog X.w X.K X.mg X.base CX k f fd ps sp) (hr : Room (k + 1) X.A) (hg : Gl X x) (hm : X.mg x = some (.ref C)) (hb : KBn X.K fd ps (n + 1) ks g gV) (hx : ∀ σ, PassesAt CX X σ (E σ))
    (ha : PA X (e :: es) t) (hkw : PK X kws tk) (hall : (backToKw pos (keywordEach kws X.env)).all (·.1.isSome) = true) (hks : (backToKw pos (keywordEach kws X.env)).filterMap (·.1) = ks)
    (hdb : (x == ("__debug__" : Str)) = false := by decide) (he : starEach (e :: es) X.env = (false, eval e X.env) :: starEach es X.env := by rfl)
    (hpl : ((backTo pos (starEach (e :: es) X.env)).any (·.1) || (backToKw pos (keywordEach kws X.env)).any (·.1.isNone)) = false := by rfl) :
    PE X (.Call (.Name x p) (e :: es) kws pos) (tMkS C n ks.length sp gV E t tk) := ⟨fun pins s σ H Q I h =>
  wpAny_Call_Name_kw (ld_glob I hg hm (PySem.W.callWith_KW (h₀ := X.base) I.ok.mod.kin M.kp hall (thn (ha.run pos pins s σ H _ I h) fun us s1 ⟨vs, H1, I1, r, q⟩ =>
    thn (hkw.run pos pins s1 σ H1 _ I1 q) fun ws s2 ⟨zs, H2, I2, rz, l1, l2, q2⟩ => ⟨I2.kIn, by rw [hks]; exact run_mkS M F hr hb (hx σ) I2 r rz l1 l2 q2⟩) hpl he) hdb)⟩
theorem pe_mtS {pl : Sem Bool} (he : PE X o ta) (c : Cls X.K C) (hm : Meth X.K C m f) (F : FnOk X.prog X.w X.K X.mg X.base CX k f fd ps sp) (hr : Room k X.A) (hb : KBn X.K fd ps (n + 1) ks g gV) (hx : ∀ σ, PassesAt CX X σ (E σ))
    (ha : PA X (e :: es) t) (hkw : PK X kws tk) (hall : (backToKw pos (keywordEach kws X.env)).all (·.1.isSome) = true) (hks : (backToKw pos (keywordEach kws X.env)).filterMap (·.1) = ks)
    (hst : starEach (e :: es) X.env = (false, eval e X.env) :: starEach es X.env := by rfl)
    (hpl : ((backTo pos (starEach (e :: es) X.env)).any (·.1) || (backToKw pos (keywordEach kws X.env)).any (·.1.isNone)) = false := by rfl)
    (ht : eval (.Call (.Attribute o m apos) (e :: es) kws pos) X.env = (do
      let ov ← eval o X.env
      standAt apos.atName
      let (f, first) ← holding [ov] (getMethod ov m pl)
      callWith pos f first (backTo pos (starEach (e :: es) X.env)) (backToKw pos (keywordEach kws X.env))) := by rfl) :
    PE X (.Call (.Attribute o m apos) (e :: es) kws pos) (tMtS C m n ks.length sp gV E ta t tk) := by
  refine ⟨fun pins s σ H Q I h => PySem.W.methodCall_KW (pl := pl) (thn (he.run pins s σ H _ I h) fun u s1 ⟨x, H1, I1, rx, a, dx, fs, ex, ea, l, q⟩ => ?_) ht⟩
  subst ex
  cases (show u = Value.ref a from rx)
  refine getmeth_ok I1 ea c hm l (PySem.W.callWith_KW (first := [.ref a]) (h₀ := X.base) I.ok.mod.kin hm.kp hall (thn (ha.run pos pins s1 σ H1 _ I1 q) fun us s2 ⟨vs, H2, I2, r, q2⟩ =>
    thn (hkw.run pos pins s2 σ H2 _ I2 q2) fun ws s3 ⟨zs, H3, I3, rz, l1, l2, q3⟩ => ⟨I3.kIn, ?_⟩) hpl hst)
  rw [hks]
  exact run_S (us := .ref a :: us) (vs := .ref a :: vs) F hr hb (hx σ) I3 (.cons rfl r) rz (congrArg Nat.succ l1) l2 q3
theorem pe_mtS0 {pl : Sem Bool} (he : PE X o ta) (c : Cls X.K C) (hm : Meth X.K C m f) (F : FnOk X.prog X.w X.K X.mg X.base CX k f fd ps sp) (hr : Room k X.A) (hb : KBn X.K fd ps (0 + 1) ks g gV) (hx : ∀ σ, PassesAt CX X σ (E σ))
    (hkw : PK X kws tk) (hall : (backToKw pos (keywordEach kws X.env)).all (·.1.isSome) = true) (hks : (backToKw pos (keywordEach kws X.env)).filterMap (·.1) = ks)
    (hpl : ((backTo pos (starEach [] X.env)).any (·.1) || (backToKw pos (keywordEach kws X.env)).any (·.1.isNone)) = false := by rfl)
    (ht : eval (.Call (.Attribute o m apos) [] kws pos) X.env = (do
      let ov ← eval o X.env
      standAt apos.atName
      let (f, first) ← holding [ov] (getMethod ov m pl)
      callWith pos f first (backTo pos (starEach [] X.env)) (backToKw pos (keywordEach kws X.env))) := by rfl) :
    PE X (.Call (.Attribute o m apos) [] kws pos) (tMtS C m 0 ks.length sp gV E ta tNil tk) := by
  refine ⟨fun pins s σ H Q I h => PySem.W.methodCall_KW (pl := pl) (thn (he.run pins s σ H _ I h) fun u s1 ⟨x, H1, I1, rx, a, dx, fs, ex, ea, l, q⟩ => ?_) ht⟩
  subst ex
  cases (show u = Value.ref a from rx)
  refine getmeth_ok I1 ea c hm l (PySem.W.callWith_KW0 (first := [.ref a]) (h₀ := X.base) I.ok.mod.kin hm.kp hall
    (thn (hkw.run pos pins s1 σ H1 _ I1 q) fun ws s3 ⟨zs, H3, I3, rz, l1, l2, q3⟩ => ⟨I3.kIn, ?_⟩) hpl)
  rw [hks]
  exact run_S (us := [.ref a]) (vs := [.ref a]) F hr hb (hx σ) I3 (.cons rfl .nil) rz rfl l2 q3
/-! raise C(e, ..), C with an own __init__ -/
theorem ps_raiseO {W : WX} {fI : Addr} {pos2 : Pos} (hc : X.calm = true) (tk : Takes X W) (T : OexC X.K C) (iC : PySem.W.findIn X.K (.ref C) "__init__" = some (some (.ref fI))) (tI : PySem.W.typeIn X.K (.ref fI) = some (.type "function"))
    (F : FnOk X.prog X.w X.K X.mg X.base (L2.CX X.prog X.w) k fI fd ps sp) (hr : Room (k + 1) X.A) (hb : KBn X.K fd ps n [] (fun us _ => us ++ []) (fun vs _ => vs ++ [])) (hg : Gl X x) (hm : X.mg x = some (.ref C)) (ha : PA X (e :: es) t)
    (hn : n = ps.length := by rfl)
    (hdb : (x == ("__debug__" : Str)) = false := by decide) (he : starEach (e :: es) X.env = (false, eval e X.env) :: starEach es X.env := by rfl) (hpl : (backTo pos (starEach es X.env)).any (·.1) = false := by rfl) :
    PS X (.Raise (some (.Call (.Name x p) (e :: es) [] pos)) none pos2) (fun _ σ H => tMkO C sp [] t σ H fun cls d H' => W cls d σ H') := by
  refine ps_raise hc tk (pmk_oex (ds := []) (dvs := []) T iC tI F hr (fun s us k hl => ?_) .nil passL hg hm ha hdb he hpl)
  exact hb.to s us [] k (by rw [List.append_nil] at hl; rw [hl, hn]) rfl
end
/-! isinstance of the caught error, with a dict of its own -/
section
open PySem.W PySem.Calls
variable {prog : Program} {w : World} {A : Around} {Ex : Value → Shared → Prop} {s : Shared} {K : Frag} {x D : Addr} {ox : Obj} {od : Option Obj}
theorem findObj_dataX {C : Addr} {name : Str} {a g : Value} {od : Option Obj} (hc : (clsIn K C).isSome = true) (ha : findIn K (.ref C) name = some (some a)) (hg : specialIn K a "__get__" = some (some g)) (ht : takesIn K a = some true) : findObj K C od name = some (.bind g a) := by
  obtain ⟨cd, hc⟩ := Option.isSome_iff_exists.mp hc
  unfold findObj
  simp [hc, ha, hg, ht]
theorem kin_classX (c : ExcC K D) {Q : Option Value → Shared → Prop} (X : K.In s.heap) (I : InstAt s.heap x ox D od) (h : Q (some (.ref D)) { s with toks := s.toks + 1 }) : wpAny (model prog w) A (getAttr? (.ref x) "__class__") Q Ex s := by
  have hf : findObj K D od "__class__" = some (.bind (.builtin "getset_descriptor.__get__") (.builtin "object.__class__")) :=
    findObj_dataX (by obtain ⟨cd, hc, _⟩ := any_some c.hd; rw [hc]; rfl) c.ha c.hn c.ht
  obtain ⟨hp, g, d, t, os⟩ := s
  have a0 := I.type (M := model prog w)
  have a1 := looks_findIn (M := model prog w) X c.hg
  have a2 := looks_findIn (M := model prog w) X c.hk
  have a3 := looks_find (M := model prog w) X I hf
  have sub : Looks (model prog w) hp (isInstance (.ref x) (.type "BaseException")) true := a0.andThen (looks_subIn X c.hs)
  have hx2 : (Value.builtin "BaseException.__getattribute__" == Value.builtin "object.__getattribute__") = false := by decide +kernel
  unfold getAttr? getAttrBy? getAttrBy
  refine wpAny_bind (wpAny_mkText (wpAny_bind (wpAny_attempt (wpAny_holding (wpAny_bind (a0.at (wpAny_bind (a1.at ?_))))))))
  have hx1 : (onTheHeap (Value.ref D) && Value.builtin "BaseException.__getattribute__" == Value.builtin "object.__getattribute__") = false := by
    rw [hx2]; rfl
  dsimp only
  rw [hx1, if_neg Bool.false_ne_true]
  unfold getAttrByItsOwn hookBefore
  refine wpAny_bind ?_
  rw [if_pos (show onTheHeap (Value.ref D) = true from rfl)]
  refine a2.at (wpAny_bind (wpAny_attempt (wpAny_holding ?_)))
  unfold callGetattribute
  have hx0 : ∀ z : Bool, (false && z) = false := fun _ => rfl
  rw [hx0, if_neg Bool.false_ne_true]
  unfold boundAndCalled
  rw [PySem.F.excAttr_ValueError.ga.bind (.ref x)]
  refine wpAny_bind (wpAny_pure ?_)
  refine wpAny_call (codeAny_call_builtin PySem.F.excAttr_ValueError.ga.plain PySem.F.entry_bexc_ga ?_)
  refine @check_slot (model prog w) _ _ ⟨hp, g, d, t + 1, os⟩ "BaseException.__getattribute__" "BaseException" "__getattribute__" (.ref x) [.str "__class__" t] [] _ (by decide +kernel) (by decide +kernel) sub (PySem.F.args_bexc_ga (.ref x) (.str "__class__" t)) ?_
  unfold Builtin.«object.__getattribute__»
  refine wpAny_bind (wpAny_of_eq (a := ((Value.ref x : Value), [Value.str "__class__" t])) (by first | rfl | (simp only [slotArgs]; rfl)) ?_)
  refine wpAny_bind (wpAny_pure (wpAny_bind (a0.at (wpAny_bind (a3.at ?_)))))
  refine wpAny_bind (wpAny_holding (wpAny_call (class_get (s := ⟨hp, g, d, t + 1, os⟩) (ox := ox) (od := od) X I c.hm ?_)))
  refine wpAny_pure ?_
  dsimp only
  rw [handedOut_of (v := .ref D) rfl]
  first
    | exact wpAny_pure (wpAny_pure h) | exact wpAny_pure h | exact wpAny_pure (wpAny_bind (wpAny_pure (wpAny_pure h)))
theorem kitx_excX (c : ExcC K D) : KitX K (.ref x) (.ref D) (fun h => InstAt h x ox D od) where
  ty := fun _ _ _ I => I.type
  it := fun _ _ X _ A' Q' E' s' k q => by
    obtain ⟨cd, hc, _⟩ := any_some c.hd
    unfold clsIn at hc
    split at hc
    · rename_i ho
      unfold isType loadHead
      exact wpAny_bind (wpAny_loadPart (k _ _ (X _ _ ho)) (wpAny_pure q))
    · cases hc
  ne := fun h tp dd its n sl X htp => (handS_kitx_exc (x := x) (ox := ox) c.hg c.hk c.hs c.hd c.ha c.hn c.ht c.hm).ne h tp dd its n sl X htp
  ca := fun X I k => kin_classX c X I k
end
/-- isinstance(e, c), e the error that the suite holds (class D, dict d) -/
def rIsX (K : Frag) (D a : Addr) (cls : Value) (d : Option Addr) : List V → Hp → VK → Prop := fun xs H Q => cls = .ref D ∧
  (d = none ∨ ∃ dd fs, d = some dd ∧ H dd = some (.xd fs)) ∧ ∃ (c : V) (cv : Value) (b : Bool), xs = [.ref a, c] ∧ ClsV c cv ∧ PySem.W.kitOne K (.ref D) cv = some b ∧ Q (.bl b) H
theorem call_isX {X : Cx} {a D : Addr} {oe : Obj} {cls : Value} {d : Option Addr} {pn : List (Addr × Obj)} (C : ExcC X.K D) (hz : Zc cls d oe) (hf : ∃ vs, oe.data = .fields vs) :
    CallR (X.suite a ((a, oe) :: pn)) (.builtin "isinstance") (rIsX X.K D a cls d) := by
  intro pins s σ H xs us Q I r h
  obtain ⟨ec, hd, c, cv, b, rfl, hcv, e, q⟩ := h
  obtain ⟨u1, u2, rfl, r1, r2⟩ := vals2 r
  cases (show u1 = Value.ref a from r1)
  cases hcv.eq r2
  obtain ⟨ha, _⟩ := I.pin (a, oe) (List.mem_append_left _ List.mem_cons_self)
  obtain ⟨vs, hv⟩ := hf
  have nc : PySem.W.notCls oe = true := by unfold PySem.W.notCls; rw [hv]
  obtain ⟨h1, h2⟩ := hz
  subst ec
  obtain ⟨od, J⟩ : ∃ od, PySem.W.InstAt s.heap a oe D od := by
    rcases hd with rfl | ⟨dd, fs, rfl, hx⟩
    · exact ⟨none, ha, h1, nc, by rw [h2]; trivial⟩
    · obtain ⟨mA, hns, _⟩ := (show ObjOk X.prog X.w H s.heap dd (.xd fs) from I.hok dd _ hx)
      obtain ⟨od, ho, _⟩ := lookIn_ns hns
      exact ⟨some od, ha, h1, nc, by rw [h2]; exact ho⟩
  exact PySem.W.kia_one (kitx_excX C) I.kIn J e (fun z => nomatch z) fun tk => ⟨.bl b, H, I.tok tk, rfl, q⟩
/-! an instance of an own class: what isinstance asks of its class -/
structure InsT (K : Frag) (C : Addr) : Prop where
  ha : PySem.W.findIn K (.ref C) "__class__" = some (some (.builtin "object.__class__"))
  hn : PySem.W.specialIn K (.builtin "object.__class__") "__get__" = some (some (.builtin "getset_descriptor.__get__"))
  ht : PySem.W.takesIn K (.builtin "object.__class__") = some true
  hm : PySem.W.mroIn K C (.type "object") = some true
def insB (K : Frag) (C : Addr) : Bool := He.eqO (PySem.W.findIn K (.ref C) "__class__") (some (some (.builtin "object.__class__"))) &&
  (He.eqO (PySem.W.specialIn K (.builtin "object.__class__") "__get__") (some (some (.builtin "getset_descriptor.__get__"))) &&
  (decide (PySem.W.takesIn K (.builtin "object.__class__") = some true) && decide (PySem.W.mroIn K C (.type "object") = some true)))
theorem insB_ok {K : Frag} {C : Addr} (q : insB K C = true) : InsT K C := by
  obtain ⟨b, q⟩ := He.ba q
  obtain ⟨c, q⟩ := He.ba q
  obtain ⟨d, e⟩ := He.ba q
  exact ⟨He.eqO_ok b, He.eqO_ok c, of_decide_eq_true d, of_decide_eq_true e⟩
theorem InsT.ty {K : Frag} {C a dx : Addr} {H : Hp} {fs : List (Str × V)} (i : InsT K C) (c : Cls K C) (h : H a = some (.ins C dx fs)) : TyX K H (.ref a) (.ref C) := .base (.ins h c i.ha i.hn i.ht i.hm)
/-! * where one factor is small, or both have less than a million bits together -/
def CMulA (i j : Int) : Prop := CMul i j ∨ CMulW i j
theorem op_mulA {X : Cx} : OpR X (binaryOp .Mult) (rI CMulA fun i j => .int (i * j)) := opI fun _ _ _ _ _ _ _ hc q =>
  hc.elim (fun h => mul_int q h.ok) (fun h => mul_int q h.ok)
/-- x is an int (no bool), or known to be none -/
inductive IsI (K : Frag) (H : Hp) : V → Bool → Prop where
  | int (i : Int) : IsI K H (.int i) true
  | bl (b : Bool) : IsI K H (.bl b) false
  | oth {x : V} {t : Value} (h : TyX K H x t) (e : PySem.W.kitOne K t (.type "int") = some false) : IsI K H x false
/-! the end of a law: a head by facts, the script's bits told -/
theorem walk_X {l : PySem.W.OpenLaw} {n k : Nat} {q : Program} {loose : List Str} {XP : (Str → Option Value) → Heap → Prop} {YP : World → Heap → Prop} {d : DefRec} {x : Str}
    (hn : l.most = some n) (hn2 : n ≤ sizeLine) (hdf : d.params.defaults = []) (hr : Room k callerA)
    (F : ∀ (w : World) (mg : Str → Option Value) (fa : Addr) (h : Heap), YP w h → h.Ns mainGlobals mg → mg d.name = some (.ref fa) →
      ∃ (K : Frag) (fd : FuncData) (sp : Sp), K.In h ∧ (∀ (s : Shared) (u : Value), BindsTo s fd ⟨[u], []⟩ [(x, u)]) ∧
        (∀ (H : Hp) (a : Addr) (ns : List Int), ns.length ≤ n → (∀ z ∈ ns, Builtin.Int.intBits z ≤ 1048576) → Only H → SqL K H a (ns.map V.int) → sp [.ref a] H (fun v _ => v = .bl true) E0) ∧
        ∀ base : Heap, K.In base → base.Ns mainGlobals mg → FnOk l.prog w K mg base (L2.CX l.prog w) k fa fd [x] sp) :
    PySem.W.WalkO q loose XP YP l.row.toRowW d [] (fun f vs => PySem.call f vs) := by
  refine Att.attach_callB hn hdf fun w s0 s1 mg mb fa o pm cd doc a vs ns G Y ho hd hcd hmg hobj hints hlen hbits hg => ?_
  obtain ⟨K, fd, sp, KX, hb, hsp, hF⟩ := F w mg fa _ Y G.T.g hmg
  refine law_call KX G.T.g G.T.b G.T.builtins G.T.nolimit hg hobj hints (Nat.le_trans hlen hn2) hr hF hb (fun H hO hS => hsp H a ns hlen hbits hO hS) fun H e s' c => ?_
  obtain ⟨_, _, _, _, _, _, _, _, _, _, _, _, z⟩ := c
  exact z
end S
namespace S
open PySem PySem.Spec PyProof.Rows L2
section
open PySem.W PySem.Calls
variable {prog : Program} {w : World} {A : Around} {Ex : Value → Shared → Prop} {s : Shared} {K : Frag} {x C f : Addr} {ox : Obj} {od : Option Obj} {b tb : Value}
/-- object.__ne__ over an own __eq__ that gives a bool -/
theorem objNe_K {Q : Fin → Shared → Prop} (hu : A.units < cLine) (X : K.In s.heap) (I : InstAt s.heap x ox C od) (hs : findIn K (.ref C) "__eq__" = some (some (.ref f))) (hf : isFn K (.ref f) = true)
    (h : wpAny (model prog w) A (call (.ref f) [.ref x, b]) (fun v s' => ∃ r, v = .bool r ∧ Q (.done (.ret (.bool (!r)))) s') Ex s) :
    wpAny (model prog w) A (Builtin.«object.__ne__» ⟨[.ref x, b], []⟩) Q Ex s := by
  unfold Builtin.«object.__ne__»
  refine wpAny_bind (wpAny_of_eq (a := ((Value.ref x : Value), [b])) (by first | rfl | (simp only [slotArgs]; rfl)) ?_)
  dsimp only
  refine wpAny_bind (wpAny_cRoomFor hu ?_)
  refine wpAny_bind (ifBound_K X I hs hf (wpAny_mono h (fun v s' hv => ?_) fun _ _ e => e))
  obtain ⟨r, rfl, q⟩ := hv
  dsimp only
  refine wpAny_bind (wpAny_truthy_bool ?_)
  first | exact wpAny_pure q | exact q
theorem ne_K {Q : Value → Shared → Prop} (hu : A.units + 1 < cLine) (X : K.In s.heap) (I : InstAt s.heap x ox C od) (hb : Looks (model prog w) s.heap (typeOf b) tb) (hn : notFirst K C tb = true)
    (hne : findIn K (.ref C) "__ne__" = some (some (.builtin "object.__ne__"))) (hm : mroIn K C (.type "object") = some true)
    (hs : findIn K (.ref C) "__eq__" = some (some (.ref f))) (hf : isFn K (.ref f) = true)
    (h : wpAny (model prog w) A.in1 (call (.ref f) [.ref x, b]) (fun v s' => ∃ r, v = .bool r ∧ Q (.bool (!r)) s') Ex s) : wpAny (model prog w) A (richCompare .NotEq (.ref x) b) Q Ex s := by
  have one : wpAny (model prog w) A (tryCompare (.ref x) "__ne__" b) (fun r s' => ∃ v, r = some v ∧ Q v s') Ex s := by
    unfold tryCompare
    refine wpAny_bind (NtL.csib (I.type.andThen (looks_findIn X hne)) (F.cmp_object.ne.bind _) ?_)
    refine wpAny_call (codeAny_call_builtin F.cmp_object.ne.plain F.cmpEntry_ne (check_slot F.cmpKind_ne F.cmpSplit_ne (I.type.andThen (looks_mroIn X hm)) (F.cmpArgs_ne _ _) ?_))
    refine objNe_K (A := A.in1) hu X I hs hf (wpAny_mono h (fun v s' hv => ?_) fun _ _ e => e)
    obtain ⟨r, rfl, q⟩ := hv
    exact ⟨r, rfl, wpAny_pure ⟨_, rfl, q⟩⟩
  unfold richCompare
  simp only [oneThing_ref]
  refine wpAny_holding (wpAny_bind (wpAny_cRoomFor (Nat.lt_of_succ_lt hu) ?_))
  rw [cmpInfo_NotEq]
  dsimp only
  refine wpAny_bind (I.type.here (wpAny_bind (hb.here ?_)))
  split
  · rename_i q
    have e : subIn K tb (.ref C) = some false := by
      rcases Bool.or_eq_true_iff.mp hn with e | e
      · rw [beq_iff_eq.mp e] at q
        simp at q
      · exact beq_iff_eq.mp e
    refine wpAny_bind ((looks_subIn X e).here ?_)
    simp only [Bool.false_eq_true, if_false]
    refine wpAny_bind (wpAny_mono one (fun r s' z => ?_) fun _ _ e => e)
    obtain ⟨v, rfl, hq⟩ := z
    exact wpAny_pure hq
  · refine wpAny_bind (wpAny_pure ?_)
    simp only [Bool.false_eq_true, if_false]
    refine wpAny_bind (wpAny_mono one (fun r s' z => ?_) fun _ _ e => e)
    obtain ⟨v, rfl, hq⟩ := z
    exact wpAny_pure hq
end
section
variable {X : Cx} {n : Nat} {C g : Addr} {sp : Sp}
/-- x op y by x's own method, both instances -/
def rOwnI (K : Frag) (C : Addr) (sp : Sp) : R2 := fun x y H Q => ∃ a dx fs b C' dy gs, x = .ref a ∧ y = .ref b ∧ H a = some (.ins C dx fs) ∧ H b = some (.ins C' dy gs) ∧ PySem.W.notFirst K C (.ref C') = true ∧ sp [x, y] H Q E0
theorem op_ownI {op : CmpOp} (hop : ∀ a b, compareOp op a b = richCompare op a b) (hs : PySem.W.findIn X.K (.ref C) (cmpInfo op).2.1 = some (some (.ref g))) (hf : PySem.W.isFn X.K (.ref g) = true)
    (F : FnR X.prog X.w X.K X.mg X.base (L2.CX X.prog X.w) n g sp) (hr : Room n X.A) : OpR X (compareOp op) (rOwnI X.K C sp) := by
  intro pins s σ H x y v u Q I rx ry h
  obtain ⟨a, dx, fs, b, C', dy, gs, rfl, rfl, ha, hb, hn, q⟩ := h
  cases (show v = Value.ref a from rx)
  cases (show u = Value.ref b from ry)
  obtain ⟨mA, O, _⟩ := ins_get I.hok ha
  obtain ⟨od, J, _⟩ := O.look
  obtain ⟨mB, O2, _⟩ := ins_get I.hok hb
  obtain ⟨od2, J2, _⟩ := O2.look
  obtain ⟨m, hF⟩ := I.fr
  rw [hop]
  refine PySem.W.cmp_K (op := op) (tb := .ref C') hr.units0 hF I.ok.mod.kin J J2.type hn hs hf ?_
  refine wpAny_mono (wpAny_call (run_fnR (us := [.ref a, .ref b]) (vs := [.ref a, .ref b]) F hr passL I (.cons rfl (.cons rfl .nil)) q)) (fun w s' z => ?_) fun _ _ x => x
  obtain ⟨z2, H2, I2, rz, qz⟩ := z
  exact SlX.cmpback rz ⟨z2, H2, I2, rz, qz⟩
/-- x != y by x's own == -/
def rNeI (K : Frag) (C : Addr) (sp : Sp) : R2 := fun x y H Q => ∃ a dx fs b C' dy gs, x = .ref a ∧ y = .ref b ∧ H a = some (.ins C dx fs) ∧ H b = some (.ins C' dy gs) ∧ PySem.W.notFirst K C (.ref C') = true ∧
  sp [x, y] H (fun z H2 => ∃ r, z = .bl r ∧ Q (.bl (!r)) H2) E0
theorem op_neI (hne : PySem.W.findIn X.K (.ref C) "__ne__" = some (some (.builtin "object.__ne__"))) (hm : PySem.W.mroIn X.K C (.type "object") = some true)
    (hs : PySem.W.findIn X.K (.ref C) "__eq__" = some (some (.ref g))) (hf : PySem.W.isFn X.K (.ref g) = true)
    (F : FnR X.prog X.w X.K X.mg X.base (L2.CX X.prog X.w) n g sp) (hr : Room (n + 1) X.A) : OpR X (compareOp .NotEq) (rNeI X.K C sp) := by
  intro pins s σ H x y v u Q I rx ry h
  obtain ⟨a, dx, fs, b, C', dy, gs, rfl, rfl, ha, hb, hn, q⟩ := h
  cases (show v = Value.ref a from rx)
  cases (show u = Value.ref b from ry)
  obtain ⟨mA, O, _⟩ := ins_get I.hok ha
  obtain ⟨od, J, _⟩ := O.look
  obtain ⟨mB, O2, _⟩ := ins_get I.hok hb
  obtain ⟨od2, J2, _⟩ := O2.look
  show wpAny _ _ (richCompare .NotEq (.ref a) (.ref b)) _ _ _
  refine ne_K (tb := .ref C') (hu_of hr) I.kIn J J2.type hn hne hm hs hf ?_
  refine wpAny_mono (wpAny_call (SlX.run_at (us := [.ref a, .ref b]) (ws := [.ref a, .ref b]) F hr.in1 I.env0.in1 passL I (.cons rfl (.cons rfl .nil)) q)) (fun w s' z => ?_) fun _ _ x => x
  obtain ⟨z2, H2, I2, rz, r, rfl, qz⟩ := z
  cases (show w = Value.bool r from rz)
  exact ⟨r, rfl, .bl (!r), H2, I2, rfl, qz⟩
theorem hop_eq : ∀ a b, compareOp .Eq a b = richCompare .Eq a b := fun _ _ => rfl
end
/-! keyword-only defaults and no others: f(e, .., k = v, ..) -/
theorem kbinds0 {K : Frag} {x qual : Str} {params : Arguments} {body : List Stmt} {scope : Scope} {kws : List (Str × V)} {f : Addr} {fd : FuncData} {ps : List Str} (F : FunD K x qual params body scope [] kws f fd) (n : Nat) (ks : List Str) (ms : List (Str × V))
    (g : {α : Type} → List α → List α → List α → List α) (hk : kws ≠ []) (hms : ∀ q ∈ ms, q ∈ kws)
    (hrel : ∀ {vs mz zs : List V} {us mv ws : List Value}, Vals vs us → Vals mz mv → Vals zs ws → Vals (g vs mz zs) (g us mv ws))
    (h : ∀ (D : Addr) (doc pm : Value) (an : Option Addr) (cdv ct : Value) (us mv ws : List Value), us.length = n → mv.length = ms.length → ws.length = ks.length →
      KwChain D ((ms.map (·.1)).zip mv) (bindArgs (PySem.W.fnOf x qual params body scope .none (.ref D) doc pm an cdv ct) ⟨us, ks.zip ws⟩) (ps.zip (g us mv ws))) :
    ∃ mv : List Value, KBn K fd ps n ks (fun us ws => g us mv ws) (fun vs zs => g vs (ms.map (·.2)) zs) := by
  obtain ⟨oc, od, dV, kV, doc, pm, an, cdv, ct, osl, rfl, lk, hcd, hD, hK⟩ := F.ex
  rcases hD with ⟨_, rfl⟩ | ⟨e, _⟩
  · rcases hK with e | ⟨D, rfl, hq⟩
    · exact absurd e hk
    · obtain ⟨mv, hl, rk, hks⟩ := kwd_vals (ms := ms) fun q hm => hq q (hms q hm)
      refine ⟨mv, ⟨fun s us ws X l1 l2 => BindsTo.of_looks fun M => KwChain.looks X hks (h D doc pm an cdv ct us mv ws l1 hl l2), fun r1 r2 => hrel r1 rk r2⟩⟩
  · exact absurd rfl e
/-! a block cut by a word: what follows is shown once -/
def tCut (t u : TS) : TS := fun D σ H => ∃ M : L2.St → Hp → Prop, t { D with nx := M } σ H ∧ ∀ τ J, M τ J → u D τ J
theorem pss_cut {X : Cx} {st : Stmt} {rest : List Stmt} {t u : TS} (h1 : PS X st t) (h2 : PSs X rest u) : PSs X (st :: rest) (tCut t u) :=
  ⟨fun pins s σ H D I ⟨M, hm, hu⟩ => wpAny_execs_cons (thn (h1.run pins s σ H { D with nx := M } I hm) fun f s1 q => by
    match f, q with
    | .next, ⟨τ, J, I2, q⟩ => exact h2.run pins s1 τ J D I2 (hu τ J q)
    | .ret v, q => exact q
    | .brk, q => exact q
    | .cont, q => exact q)⟩
/-! ways -/
theorem iteY {c A B : Prop} [Decidable c] (h : c) (a : A) : if c then A else B := by rw [if_pos h]; exact a
theorem iteN {c A B : Prop} [Decidable c] (h : ¬ c) (b : B) : if c then A else B := by rw [if_neg h]; exact b
theorem iteB {x : Bool} {A B : Prop} (h : if x then A else B) : if x = true then A else B := h
/-! small laws of heaps and fields -/
theorem putF_nil (f : Str) (v : V) : putF f v [] = [(f, v)] := rfl
theorem putF_cons_ne {f k : Str} {v u : V} {r : List (Str × V)} (h : ¬ k = f) : putF f v ((k, u) :: r) = (k, u) :: putF f v r := by
  show (if k = f then _ else _) = _
  rw [if_neg h]
theorem Same.new {H : Hp} {p : Addr} {o : HO} (h : H p = none) : Same H (upd H p o) := fun b u e => by
  rw [upd_ne (ne_of_none e h)]
  exact e
theorem Same.upd {H H' : Hp} {p : Addr} {o : HO} (e : Same H H') (h : H p = none) : Same H (L2.upd H' p o) := fun b u q => by
  rw [upd_ne (ne_of_none q h)]
  exact e b u q
/-! an own error with one field -/
/-- self.f = v in __init__ -/
def sp_err (C : Addr) (f : Str) : Sp := Sp2 fun x y H Q _ => ∃ a, x = .ref a ∧ H a = some (exo a C none) ∧ ∀ dx, H dx = none → dx ≠ a → Q .non (upd (upd H dx (exd dx [(f, y)])) a (exo a C (some dx)))
theorem raise_err {C : Addr} {f : Str} {t : TA} {σ : L2.St} {H : Hp} {Q : XK} (y : V)
    (k : ∀ d H', H d = none → Same H H' → H' d = some (.xd [(f, y)]) → Q (.ref C) (some d) H') (ht : ∀ R, R [y] H → t σ H R := by exact fun R r => r) : tMkO C (sp_err C f) [] t σ H Q := by
  refine ht _ ⟨by show 1 ≤ 1000; decide, fun a ha => ⟨_, _, rfl, a, rfl, upd_same, fun dx hdx hne => ⟨rfl, dx, [(f, y)], ?_, ?_, ?_, ?_⟩⟩⟩
  · exact upd_same
  · rw [upd_ne hne, upd_same]
  · rw [upd_ne hne] at hdx
    exact hdx
  · have h0 : H dx = none := by rw [upd_ne hne] at hdx; exact hdx
    refine k dx _ h0 (fun b o e => ?_) upd_same
    have n1 : b ≠ dx := ne_of_none e h0
    have n2 : b ≠ a := ne_of_none e ha
    rw [upd_ne n1, del_ne n2, upd_ne n2, upd_ne n1, upd_ne n2]
    exact e
/-! the law's own draws -/
/-- a cell is some integer of at least 0 -/
def spCellN (K : Frag) : Sp := Sp2 fun x y H Q _ => ∃ (a : Addr) (ns : List Int) (k : Int), x = .ref a ∧ y = .int k ∧ 0 ≤ k ∧ SqL K H a (ns.map V.int) ∧ ∀ n : Int, 0 ≤ n → Q (.int n) H
theorem int_at {ns : List Int} {k : Nat} (h : k < ns.length) : atI (ns.map V.int) ((k : Nat) : Int) = some (.int (ns.getD k 0)) := by
  refine atI_nat ?_
  rw [List.getElem?_map, List.getElem?_eq_getElem h, List.getD_eq_getElem?_getD, List.getElem?_eq_getElem h]
  rfl
theorem mul_small {i j : Int} (h : -(2 ^ 64) < j ∧ j < 2 ^ 64) : CMulA i j := .inl (.inr h)
theorem mul_smallL {i j : Int} (h : -(2 ^ 64) < i ∧ i < 2 ^ 64) : CMulA i j := .inl (.inl h)
theorem mod_small (x : Int) {m : Int} (h : 0 < m) (h2 : m < 2 ^ 64) : -(2 ^ 64) < x % m ∧ x % m < 2 ^ 64 := by
  have a := Int.emod_nonneg x (show m ≠ 0 by omega)
  have b := Int.emod_lt_of_pos x h
  omega
theorem mod_lo (x : Int) {m : Int} (h : 0 < m) : 0 ≤ x % m := Int.emod_nonneg x (by omega)
theorem mod_hi (x : Int) {m : Int} (h : 0 < m) : x % m < m := Int.emod_lt_of_pos x h
theorem div_small {i j : Int} (h : 0 < j) (h2 : j < 2 ^ 64) : CDivW i j := wide_div (b := 64) h (by omega) (by decide) (by decide)
end S
namespace S
open PySem PySem.Spec PyProof.Rows L2
/-! the rules that lean on the written part, with its own name -/
section
variable {X : Cx} {K : Frag}
theorem ixK (hK : X.K = K) : IxR X (rIx K) := hK ▸ ix_seq
theorem lenK (hK : X.K = K) : CallR X (.builtin "len") (rLen K) := hK ▸ call_len
theorem isiK (hK : X.K = K) : CallR X (.builtin "isinstance") (rIsi K) := hK ▸ call_isi
theorem isiTK (hK : X.K = K) : CallR X (.builtin "isinstance") (rIsiT K) := hK ▸ call_isiT
theorem inK (hK : X.K = K) : OpR X (compareOp .In) (rIn K false) := hK ▸ op_in_seq
theorem notInK (hK : X.K = K) : OpR X (compareOp .NotIn) (rIn K true) := hK ▸ op_notIn_seq
theorem eqDK (hK : X.K = K) (hu : X.A.units + 64 < cLine) : OpR X (compareOp .Eq) (rEqD K) := hK ▸ op_eqD hu
theorem neDK (hK : X.K = K) (hu : X.A.units + 64 < cLine) : OpR X (compareOp .NotEq) (rNeD K) := hK ▸ op_neD hu
theorem slLK (hK : X.K = K) : SlR X (rSlL K) := hK ▸ sl_list
theorem slTK (hK : X.K = K) : SlR X (rSlT K) := hK ▸ sl_tup
variable {e o l value tg a : Expr} {es : List Expr} {ta tv tl : TE} {f : Str} {pos pos' : Pos}
theorem pe_fldK (hK : X.K = K) (he : PE X e ta) (hb : attributeBase e f X.env (eval e X.env) = eval e X.env) : PE X (.Attribute e f pos) (tFld K ta f) := hK ▸ pe_fld he hb
theorem ps_fldK (hK : X.K = K) (ha : PE X o ta) (hv : PE X value tv) (hs : swapsWith value (some (.Attribute o f pos')) pos.line X.env = pure false) : PS X (.Assign [.Attribute o f pos'] value pos) (sFld K ta tv f) := hK ▸ ps_fld ha hv hs
theorem ps_ostK (hK : X.K = K) (ha : PE X o ta) (hv : PE X value tv) (hs : swapsWith value (some (.Attribute o f pos')) pos.line X.env = pure false) : PS X (.Assign [.Attribute o f pos'] value pos) (tOst K f ta tv) := hK ▸ ps_ost ha hv hs
theorem pe_slK (hK : X.K = K) (he : PE X e ta) (hb : attributeBase e f X.env (eval e X.env) = eval e X.env) : PE X (.Attribute e f pos) (SlX.tSl K ta f) := hK ▸ SlX.pe_sl he hb
theorem ps_slK (hK : X.K = K) (ha : PE X o ta) (hv : PE X value tv) (hs : swapsWith value (some (.Attribute o f pos')) pos.line X.env = pure false) : PS X (.Assign [.Attribute o f pos'] value pos) (SlX.sSl K ta tv f) := hK ▸ SlX.ps_sl ha hv hs
theorem pi_listK (hK : X.K = K) (hl : PE X l tl) : PI X tg l (iList K tl) := hK ▸ pi_list hl
theorem pi_tupK (hK : X.K = K) (hl : PE X l tl) : PI X tg l (iTup K tl) := hK ▸ pi_tup hl
def tTruK (K : Frag) (ta : TE) : TT := fun σ H Q => ta σ H fun x H' => ∃ k, TruV K x H' k ∧ Q k H'
theorem pt_truthK (hK : X.K = K) (ha : PE X a ta) (he : ∀ whole, isTrue a X.env whole = (do let v ← whole; standAt a.pos; holding [v] (truthy v))) : PT X a (tTruK K ta) := by
  subst hK
  exact pt_truth ha he
end
end S
namespace S
open PySem PySem.Spec PyProof.Rows L2
/-! flat data: None, bools, ints, texts -/
def sca : V → Bool
  | .non => true
  | .bl _ => true
  | .int _ => true
  | .str x => PyData.strOk x
  | _ => false
def dat : V → PyData
  | .bl b => .bool b
  | .int i => .int i
  | .str x => .str x
  | _ => .none
theorem dp_dat {K : Frag} {H : Hp} {v : V} (h : sca v = true) : Dp K H v (dat v) := by
  cases v with
  | non => exact .non
  | bl b => exact .bl b
  | int i => exact .int i
  | str x => exact .str x
  | _ => cases h
theorem dpAll_dat {K : Frag} {H : Hp} : ∀ {vs : List V}, vs.all sca = true → DpAll K H vs (vs.map dat)
  | [], _ => .nil
  | v :: vs, h => by
    rw [List.all_cons, Bool.and_eq_true] at h
    exact .cons (dp_dat h.1) (dpAll_dat h.2)
theorem lay_dat {v : V} (h : sca v = true) : (dat v).canLay0 = true := by
  cases v with
  | str x => simpa [dat, PyData.canLay0, sca] using h
  | _ => simp [dat, PyData.canLay0]
theorem layAll_dat : ∀ {vs : List V}, vs.all sca = true → PyData.canLayAll0 (vs.map dat) = true
  | [], _ => rfl
  | v :: vs, h => by
    rw [List.all_cons, Bool.and_eq_true] at h
    simp [PyData.canLayAll0, lay_dat h.1, layAll_dat h.2]
theorem depth_dat (v : V) : (dat v).depth = 0 := by cases v <;> simp [dat, PyData.depth]
theorem depthAll_dat : ∀ (vs : List V), PyData.depthAll (vs.map dat) = 0
  | [] => rfl
  | v :: vs => by simp [PyData.depthAll, depth_dat, depthAll_dat vs]
theorem shaped_list {vs : List V} (h : vs.all sca = true) : SeqAt.shaped (.list (vs.map dat)) = true := by
  simp [SeqAt.shaped, PyData.canLay0, layAll_dat h, PyData.depth, depthAll_dat]
theorem shaped_tup {vs : List V} (h : vs.all sca = true) : SeqAt.shaped (.tuple (vs.map dat)) = true := by
  simp [SeqAt.shaped, PyData.canLay0, layAll_dat h, PyData.depth, depthAll_dat]
theorem eqv_refl (v : V) : PyData.eqv (dat v) (dat v) = true := by cases v <;> simp [dat, PyData.eqv]
theorem eqvAll_refl : ∀ (vs : List V), PyData.eqvAll (vs.map dat) (vs.map dat) = true
  | [] => rfl
  | v :: vs => by simp [PyData.eqvAll, eqv_refl, eqvAll_refl vs]
theorem rEqL {K : Frag} {H : Hp} {a b : Addr} {xs ys : List V} {Q : VK} (ha : SqL K H a xs) (hb : SqL K H b ys) (hx : xs.all sca = true) (hy : ys.all sca = true) (q : Q (.bl (PyData.eqvAll (xs.map dat) (ys.map dat))) H) : rEqD K (.ref a) (.ref b) H Q :=
  ⟨_, _, .lst ha (dpAll_dat hx), .lst hb (dpAll_dat hy), shaped_list hx, shaped_list hy, by simpa only [PyData.eqv] using q⟩
theorem rEqT {K : Frag} {H : Hp} {a b : Addr} {xs ys : List V} {Q : VK} (ha : SqT K H a xs) (hb : SqT K H b ys) (hx : xs.all sca = true) (hy : ys.all sca = true) (q : Q (.bl (PyData.eqvAll (xs.map dat) (ys.map dat))) H) : rEqD K (.ref a) (.ref b) H Q :=
  ⟨_, _, .tup ha (dpAll_dat hx), .tup hb (dpAll_dat hy), shaped_tup hx, shaped_tup hy, by simpa only [PyData.eqv] using q⟩
theorem rEqL_true {K : Frag} {H : Hp} {a b : Addr} {xs : List V} {Q : VK} (ha : SqL K H a xs) (hb : SqL K H b xs) (hx : xs.all sca = true) (q : Q (.bl true) H) : rEqD K (.ref a) (.ref b) H Q := rEqL ha hb hx hx (by rw [eqvAll_refl]; exact q)
theorem rEqT_true {K : Frag} {H : Hp} {a b : Addr} {xs : List V} {Q : VK} (ha : SqT K H a xs) (hb : SqT K H b xs) (hx : xs.all sca = true) (q : Q (.bl true) H) : rEqD K (.ref a) (.ref b) H Q := rEqT ha hb hx hx (by rw [eqvAll_refl]; exact q)
/-- a def with all its parameters written, by positional values -/
theorem raw_of {P : Program} {w : World} {K : Frag} {mg : Str → Option Value} {base : Heap} {CX : CXT} {k n : Nat} {f : Addr} {fd : FuncData} {ps : List Str} {sp : Sp} (F : FnOk P w K mg base CX k f fd ps sp)
    (hb : KBn K fd ps n [] (fun us _ => us ++ []) (fun vs _ => vs ++ [])) (hn : n = ps.length := by rfl) : FnR P w K mg base CX k f sp := by
  refine (F.raw (ds := []) (dvs := []) (fun s us k hl => ?_) .nil).imp fun vs H Q E h => ?_
  · exact hb.to s us [] k (by rw [List.append_nil] at hl; rw [hl, hn]) rfl
  · rw [List.append_nil]
    exact h
theorem hu64 {A : Around} {k : Nat} (hr : Room k A) : A.units + 64 < cLine := by have := hr.un; omega
/-! a for over a text's signs -/
theorem for_str {x : Str} {g : TG} {tb : TS} {D : Ends} {σ : L2.St} {H : Hp} (Pv : Nat → L2.St → Hp → Prop) (h0 : Pv 0 σ H)
    (hs : ∀ i c σ H, x.cps[i]? = some c → Pv i σ H → g (.str ⟨#[c]⟩) σ H fun σ2 H2 => tb { D with nx := Pv (i + 1), ct := Pv (i + 1), bk := D.nx } σ2 H2) (hd : ∀ σ H, Pv x.cps.size σ H → D.nx σ H) :
    ∃ Z : Nat → Nat → L2.St → Hp → Prop, (∃ m, Z 0 m σ H) ∧ ∀ i m σ H, Z i m σ H →
      ((Its x).stop i H ∧ D.nx σ H) ∨ ((Its x).go i H ∧ ∃ N : L2.St → Hp → Prop, (∀ σ' H', N σ' H' → ∃ m', m' < m ∧ Z (i + 1) m' σ' H') ∧ ∀ v H', (Its x).yld i H v H' → g v σ H' fun σ2 H2 => tb { D with nx := N, ct := N, bk := D.nx } σ2 H2) := by
  refine ⟨fun i m σ H => m = x.cps.size - i ∧ i ≤ x.cps.size ∧ Pv i σ H, ⟨x.cps.size, by simp, Nat.zero_le _, h0⟩, ?_⟩
  rintro i m σ H ⟨rfl, hi, p⟩
  by_cases hlt : i < x.cps.size
  · refine .inr ⟨hlt, Pv (i + 1), fun σ' H' p' => ⟨x.cps.size - (i + 1), by omega, rfl, hlt, p'⟩, fun v H' y => ?_⟩
    obtain ⟨rfl, c, hc, rfl⟩ := y
    exact hs i c σ H' hc p
  · have e : i = x.cps.size := by omega
    subst e
    exact .inl ⟨Nat.le_refl _, hd σ H p⟩
end S
namespace S
open PySem PySem.Spec PyProof.Rows L2
/-! x in a list whose items' own == may make objects -/
section
open MeetsSeq MeetsSeq2 MeetsSeq3 SeqRoads2
variable {prog : Program} {w : World} {A : Around} {R : Result → Shared → Prop}
/-- at each turn the list is read anew: the items still to come; a hit ends the walk -/
def ContI (prog : Program) (w : World) (A : Around) (R : Result → Shared → Prop) (l : Addr) (x : Value) (N : Nat) (I : Nat → Shared → Prop) : Prop :=
  ∀ i s, I i s → ∃ (its : Array Value) (n : Nat), s.heap.get? l = some { cls := .type "list", data := .seq its n } ∧ its.size = N ∧
    ∀ h1 : i < its.size, wpAny (model prog w) A.in1 (eqBool its[i] x) (fun r s' => if r = true then R (.ok (.ret (.bool true))) s' else I (i + 1) s') (fun e s' => R (.error e) s') s
theorem cont_loop (l : Addr) (x : Value) (N : Nat) (I : Nat → Shared → Prop) (hl : ContI prog w A R l x N I) (fin : ∀ s, I N s → R (.ok (.ret (.bool false))) s) (k : Nat) :
    ∀ i : Nat, N - i = k → i ≤ N → ∀ s, I i s →
      wpAny (model prog w) A.in1 (Builtin.«list.__contains__.loop» ⟨[.ref l, x, rawInt i], []⟩) (GQ.FinOf prog w A R) (fun e s' => R (.error e) s') s := by
  induction k with
  | zero =>
    intro i hk hi s h
    obtain ⟨its, n, h1, hs, _⟩ := hl _ _ h
    have e : i = N := by omega
    have hR : R (.ok (.ret (.bool false))) s := fin s (e ▸ h)
    obtain ⟨hp, g, d, tk, os⟩ := s
    wp_walk using wpAny_loadPart' h1
    have hn : its[((i : Nat) : Int).toNat]? = none := by simp; omega
    rw [hn]
    wp_walk
    exact hR
  | succ k ih =>
    intro i hk hi s h
    obtain ⟨its, n, h1, hs, turn⟩ := hl _ _ h
    have hlt : i < its.size := by omega
    have ht := turn hlt
    obtain ⟨hp, g, d, tk, os⟩ := s
    wp_walk using wpAny_loadPart' h1
    have hn : its[((i : Nat) : Int).toNat]? = some its[i] := by simp [hlt]
    rw [hn]
    refine wpAny_bind (wpAny_mono ht (fun r s2 h2 => ?_) fun _ _ z => z)
    cases r with
    | true =>
      rw [if_pos rfl] at h2
      obtain ⟨hp2, g2, d2, tk2, os2⟩ := s2
      wp_walk
      exact h2
    | false =>
      rw [if_neg Bool.false_ne_true] at h2
      have hc : ((i : Int) + 1) = ((i + 1 : Nat) : Int) := by omega
      have hrec := ih (i + 1) (by omega) (by omega) s2 h2
      obtain ⟨hp2, g2, d2, tk2, os2⟩ := s2
      wp_walk
      rw [hc]
      exact ⟨plainId_quiet plain_contains_loop _, codeAny_builtin entry_contains_loop (by rw [Around.under_plainId plain_contains_loop _]; exact hrec)⟩
theorem cont_list (l : Addr) (x : Value) (N : Nat) (I : Nat → Shared → Prop) (hl : ContI prog w A R l x N I) (fin : ∀ s, I N s → R (.ok (.ret (.bool false))) s) {s : Shared} (h : I 0 s) :
    wpAny (model prog w) A.in1 (Builtin.«list.__contains__» ⟨[.ref l, x], []⟩) (GQ.FinOf prog w A R) (fun e s' => R (.error e) s') s := by
  obtain ⟨its, n, h1, hs, _⟩ := hl _ _ h
  have hrec := cont_loop (A := A) (R := R) l x N I hl fin _ 0 rfl (Nat.zero_le _) s h
  obtain ⟨hp, g, d, tk, os⟩ := s
  wp_walk using wpAny_loadPart' h1
  exact ⟨plainId_quiet plain_contains_loop _, codeAny_builtin entry_contains_loop (by rw [Around.under_plainId plain_contains_loop _]; exact hrec)⟩
theorem contains_G {E : Value → Shared → Prop} {s : Shared} {l : Addr} {x : Value} {N : Nat} {Q : Bool → Shared → Prop} (I : Nat → Shared → Prop)
    (hl : ContI prog w A (wants (fun v s' => ∃ b, v = .bool b ∧ Q b s') E) l x N I) (fin : ∀ s, I N s → Q false s) (h : I 0 s) : wpAny (model prog w) A (contains (.ref l) x) Q E s := by
  obtain ⟨its, n, h1, _⟩ := hl _ _ h
  refine wpAny_contains_slot (T := "list") ⟨_, h1, rfl⟩ F.slot_list_contains (wpAny_mono (GQ.call_here (Q := fun v s' => ∃ b, v = .bool b ∧ Q b s') F.slot_list_contains ⟨_, h1, rfl⟩ F.entry_list_contains (F.args_list_contains_2 _ _) ?_) (fun v s' hv => ?_) fun _ _ e => e)
  · exact cont_list l x N I hl (fun s' q => ⟨false, rfl, fin s' q⟩) h
  · obtain ⟨b, rfl, q⟩ := hv
    exact wpAny_truthy_bool q
end
section
variable {X : Cx} {n : Nat} {C g : Addr} {sp : Sp}
/-- x in y, y a list of instances of C that are compared by their own == : e b tells the answer for the item at b -/
def rInO (C : Addr) (sp : Sp) (neg : Bool) : R2 := fun x y H Q => ∃ (a l dx : Addr) (fs : List (Str × V)) (bs : List Addr) (e : Addr → Bool), x = .ref a ∧ y = .ref l ∧ H l = some (.lst (bs.map V.ref)) ∧ H a = some (.ins C dx fs) ∧
  (∀ b ∈ bs, ∃ dy gs, H b = some (.ins C dy gs)) ∧ (∀ b ∈ bs, ∀ H1, Same H H1 → ∀ Z : VK, (∀ H2, Same H1 H2 → Z (.bl (e b)) H2) → sp [.ref b, .ref a] H1 Z E0) ∧
  ∀ H', Same H H' → Q (.bl (if neg then !(bs.any fun b => decide (b = a) || e b) else bs.any fun b => decide (b = a) || e b)) H'
theorem contO (hs : PySem.W.findIn X.K (.ref C) "__eq__" = some (some (.ref g))) (hf : PySem.W.isFn X.K (.ref g) = true) (F : FnR X.prog X.w X.K X.mg X.base (L2.CX X.prog X.w) n g sp) (hr : Room (n + 1) X.A)
    {pins : List (Addr × Obj)} {s : Shared} {σ : L2.St} {H : Hp} {a l dx : Addr} {fs : List (Str × V)} {bs : List Addr} {e : Addr → Bool} (I : Inv X pins σ H s) (hl : H l = some (.lst (bs.map V.ref))) (ha : H a = some (.ins C dx fs))
    (hb : ∀ b ∈ bs, ∃ dy gs, H b = some (.ins C dy gs)) (hsp : ∀ b ∈ bs, ∀ H1, Same H H1 → ∀ Z : VK, (∀ H2, Same H1 H2 → Z (.bl (e b)) H2) → sp [.ref b, .ref a] H1 Z E0) {Q : Bool → Shared → Prop}
    (q : ∀ s' H', Inv X pins σ H' s' → Same H H' → Q (bs.any fun b => decide (b = a) || e b) s') : wpAny (model X.prog X.w) X.A (contains (.ref l) (.ref a)) Q X.xe s := by
  refine contains_G (N := bs.length) (fun i s' => ∃ H1, Inv X pins σ H1 s' ∧ Same H H1 ∧ (bs.take i).any (fun b => decide (b = a) || e b) = false) ?_ ?_ ⟨H, I, fun _ _ z => z, rfl⟩
  · rintro i s1 ⟨H1, I1, sm, no⟩
    obtain ⟨hz, its, m, rv, hg⟩ := (show ObjOk X.prog X.w H1 s1.heap l (.lst (bs.map V.ref)) from I1.hok l _ (sm _ _ hl))
    have hlen : its.length = bs.length := by rw [← rv.length, List.length_map]
    refine ⟨its.toArray, m, hg, by simp [hlen], fun h1 => ?_⟩
    have hi : i < bs.length := by simpa [hlen] using h1
    obtain ⟨u, hu, ru⟩ := rv.get (i := i) (x := .ref bs[i]) (by simp [hi])
    have eu : its.toArray[i] = Value.ref bs[i] := by
      have : its[i]? = some (Value.ref bs[i]) := by rw [hu]; exact congrArg some ru
      have h2 : i < its.length := by omega
      rw [List.getElem?_eq_getElem h2] at this
      simpa using Option.some.inj this
    rw [eu]
    have mem : bs[i] ∈ bs := List.getElem_mem hi
    have step : ∀ r : Bool, (decide (bs[i] = a) || e bs[i]) = r → ∀ s2 H2, Inv X pins σ H2 s2 → Same H H2 → (if r = true then wants (fun v s' => ∃ b, v = .bool b ∧ Q b s') X.xe (.ok (.ret (.bool true))) s2 else ∃ H1, Inv X pins σ H1 s2 ∧ Same H H1 ∧ (bs.take (i + 1)).any (fun b => decide (b = a) || e b) = false) := by
      intro r er s2 H2 I2 sm2
      have tk : bs.take (i + 1) = bs.take i ++ [bs[i]] := by rw [List.take_succ, List.getElem?_eq_getElem hi]; rfl
      cases r with
      | true =>
        rw [if_pos rfl]
        refine ⟨true, rfl, ?_⟩
        have hq := q s2 H2 I2 sm2
        rw [show (bs.any fun b => decide (b = a) || e b) = true from List.any_eq_true.mpr ⟨_, mem, er⟩] at hq
        exact hq
      | false =>
        rw [if_neg Bool.false_ne_true]
        refine ⟨H2, I2, sm2, ?_⟩
        rw [tk, List.any_append, no, List.any_cons, er]
        rfl
    by_cases hab : bs[i] = a
    · rw [hab]
      exact SeqAt.EqAt.same (A := X.A.in1) (s := s1) (.ref a) X.prog X.w _ _ (step true (by simp [hab]) s1 H1 I1 sm)
    · obtain ⟨dy, gs, hbi⟩ := hb _ mem
      refine GQ.eqBool_refG hab ?_
      obtain ⟨mA, O, _⟩ := ins_get I1.hok (sm _ _ hbi)
      obtain ⟨od, J, _⟩ := O.look
      obtain ⟨mB, O2, _⟩ := ins_get I1.hok (sm _ _ ha)
      obtain ⟨od2, J2, _⟩ := O2.look
      obtain ⟨m2, hF⟩ := I1.fr
      refine PySem.W.cmp_K (op := .Eq) (tb := .ref C) hr.in1.units0 hF I1.ok.mod.kin J J2.type (by simp [PySem.W.notFirst]) hs hf ?_
      refine wpAny_mono (wpAny_call (SlX.run_at (us := [.ref bs[i], .ref a]) (ws := [.ref bs[i], .ref a]) (Q := fun z H2 => z = .bl (e bs[i]) ∧ Same H1 H2) F hr.in1 I1.env0.in1 passL I1 (.cons rfl (.cons rfl .nil)) (hsp _ mem H1 sm _ fun H2 s2 => ⟨rfl, s2⟩))) (fun z s2 hz2 => ?_) fun _ _ x => x
      obtain ⟨z2, H2, I2, rz, rfl, sm2⟩ := hz2
      cases (show z = Value.bool (e bs[i]) from rz)
      exact ⟨e bs[i], rfl, step _ (by simp [hab]) s2 H2 I2 (sm.trans sm2)⟩
  · rintro s1 ⟨H1, I1, sm, no⟩
    have hq := q s1 H1 I1 sm
    rw [List.take_length] at no
    rw [no] at hq
    exact hq
theorem op_inO (hs : PySem.W.findIn X.K (.ref C) "__eq__" = some (some (.ref g))) (hf : PySem.W.isFn X.K (.ref g) = true) (F : FnR X.prog X.w X.K X.mg X.base (L2.CX X.prog X.w) n g sp) (hr : Room (n + 1) X.A) : OpR X (compareOp .In) (rInO C sp false) := by
  intro pins s σ H x y v u Q I rx ry h
  obtain ⟨a, l, dx, fs, bs, e, rfl, rfl, hl, ha, hb, hsp, q⟩ := h
  cases (show v = Value.ref a from rx)
  cases (show u = Value.ref l from ry)
  show wpAny _ _ (do return Value.bool (← contains (.ref l) (.ref a))) _ _ _
  exact wpAny_bind (contO hs hf F hr I hl ha hb hsp fun s' H' I' sm => wpAny_pure ⟨.bl _, H', I', rfl, q H' sm⟩)
theorem op_notInO (hs : PySem.W.findIn X.K (.ref C) "__eq__" = some (some (.ref g))) (hf : PySem.W.isFn X.K (.ref g) = true) (F : FnR X.prog X.w X.K X.mg X.base (L2.CX X.prog X.w) n g sp) (hr : Room (n + 1) X.A) : OpR X (compareOp .NotIn) (rInO C sp true) := by
  intro pins s σ H x y v u Q I rx ry h
  obtain ⟨a, l, dx, fs, bs, e, rfl, rfl, hl, ha, hb, hsp, q⟩ := h
  cases (show v = Value.ref a from rx)
  cases (show u = Value.ref l from ry)
  show wpAny _ _ (do return Value.bool (!(← contains (.ref l) (.ref a)))) _ _ _
  exact wpAny_bind (contO hs hf F hr I hl ha hb hsp fun s' H' I' sm => wpAny_pure ⟨.bl _, H', I', rfl, q H' sm⟩)
end
end S
namespace S
open PySem PySem.Spec PyProof.Rows L2
/-! ### classes with slots -/
/-- the descriptor of a slot -/
def slA (K : Frag) (C : Addr) (f : Str) : Addr := match PySem.W.findIn K (.ref C) f with | some (some (.ref p)) => p | _ => 0
def sclB (K : Frag) (C : Addr) : Bool := PySem.W.plainGet K C Str.empty && (PySem.W.isClsIn K C && (PySem.W.plainOver K C && He.eqO (PySem.W.findIn K (.ref C) "__setattr__") (some (some (.builtin "object.__setattr__")))))
theorem sclB_ok {K : Frag} {C : Addr} (q : sclB K C = true) : SlX.SCls K C := by
  obtain ⟨a, q⟩ := He.ba q
  obtain ⟨b, q⟩ := He.ba q
  obtain ⟨c, d⟩ := He.ba q
  exact ⟨a, b, c, He.eqO_ok d⟩
theorem sisB_ok {K : Frag} {C : Addr} (q : insB K C = true) : SlX.SIsi K C := let i := insB_ok q; ⟨i.ha, i.hn, i.ht, i.hm⟩
def sltB (K : Frag) (C : Addr) (f : Str) (i : Nat) : Bool := He.eqO (PySem.W.findIn K (.ref C) f) (some (some (.ref (slA K C f)))) && (He.eqO (PySem.W.specialIn K (.ref (slA K C f)) "__get__") (some (some (.builtin "member_descriptor.__get__"))) &&
  (decide (PySem.W.takesIn K (.ref (slA K C f)) = some true) && (decide (PySem.W.typeIn K (.ref (slA K C f)) = some (.type "member_descriptor")) && decide (PySem.W.slotIn K (slA K C f) C = some i))))
theorem sltB_ok {K : Frag} {C : Addr} {f : Str} {i : Nat} (hi : i < 1000) (q : sltB K C f i = true) : SlX.Slot1 K C f (slA K C f) i := by
  obtain ⟨a, q⟩ := He.ba q
  obtain ⟨b, q⟩ := He.ba q
  obtain ⟨c, q⟩ := He.ba q
  obtain ⟨d, e⟩ := He.ba q
  exact ⟨He.eqO_ok a, He.eqO_ok b, of_decide_eq_true c, of_decide_eq_true d, of_decide_eq_true e, hi⟩
section
variable {X : Cx} {CX : CXT} {k n : Nat} {f C : Addr} {fd : FuncData} {ps ks : List Str} {sp : Sp} {E : L2.St → XK} {m : Str} {pos apos : Pos} {o e : Expr} {es : List Expr} {kws : List Keyword} {ta : TE} {t tk : TA} {g : List Value → List Value → List Value} {gV : List V → List V → List V}
def tMtL (C : Addr) (n l : Nat) (sp : Sp) (gV : List V → List V → List V) (E : L2.St → XK) (ta : TE) (t tk : TA) : TE := fun σ H Q =>
  ta σ H fun x H1 => ∃ a dx fs, x = .ref a ∧ SlX.Slt H1 a C dx fs ∧
    t σ H1 fun vs H2 => tk σ H2 fun zs H3 => vs.length = n ∧ zs.length = l ∧ sp (gV (x :: vs) zs) H3 Q (E σ)
theorem pe_mtL {pl : Sem Bool} (he : PE X o ta) (c : SlX.SCls X.K C) (hm : Meth X.K C m f) (F : FnOk X.prog X.w X.K X.mg X.base CX k f fd ps sp) (hr : Room k X.A) (hb : KBn X.K fd ps (n + 1) ks g gV) (hx : ∀ σ, PassesAt CX X σ (E σ))
    (ha : PA X (e :: es) t) (hkw : PK X kws tk) (hall : (backToKw pos (keywordEach kws X.env)).all (·.1.isSome) = true) (hks : (backToKw pos (keywordEach kws X.env)).filterMap (·.1) = ks)
    (hst : starEach (e :: es) X.env = (false, eval e X.env) :: starEach es X.env := by rfl)
    (hpl : ((backTo pos (starEach (e :: es) X.env)).any (·.1) || (backToKw pos (keywordEach kws X.env)).any (·.1.isNone)) = false := by rfl)
    (ht : eval (.Call (.Attribute o m apos) (e :: es) kws pos) X.env = (do
      let ov ← eval o X.env
      standAt apos.atName
      let (f, first) ← holding [ov] (getMethod ov m pl)
      callWith pos f first (backTo pos (starEach (e :: es) X.env)) (backToKw pos (keywordEach kws X.env))) := by rfl) :
    PE X (.Call (.Attribute o m apos) (e :: es) kws pos) (tMtL C n ks.length sp gV E ta t tk) := by
  refine ⟨fun pins s σ H Q I h => PySem.W.methodCall_KW (pl := pl) (thn (he.run pins s σ H _ I h) fun u s1 ⟨x, H1, I1, rx, a, dx, fs, ex, ea, q⟩ => ?_) ht⟩
  subst ex
  cases (show u = Value.ref a from rx)
  refine SlX.getmethsl_ok I1 ea c hm (PySem.W.callWith_KW (first := [.ref a]) (h₀ := X.base) I.ok.mod.kin hm.kp hall (thn (ha.run pos pins s1 σ H1 _ I1 q) fun us s2 ⟨vs, H2, I2, r, q2⟩ =>
    thn (hkw.run pos pins s2 σ H2 _ I2 q2) fun ws s3 ⟨zs, H3, I3, rz, l1, l2, q3⟩ => ⟨I3.kIn, ?_⟩) hpl hst)
  rw [hks]
  exact run_S (us := .ref a :: us) (vs := .ref a :: vs) F hr hb (hx σ) I3 (.cons rfl r) rz (congrArg Nat.succ l1) l2 q3
theorem pe_mtL0 {pl : Sem Bool} (he : PE X o ta) (c : SlX.SCls X.K C) (hm : Meth X.K C m f) (F : FnOk X.prog X.w X.K X.mg X.base CX k f fd ps sp) (hr : Room k X.A) (hb : KBn X.K fd ps (0 + 1) ks g gV) (hx : ∀ σ, PassesAt CX X σ (E σ))
    (hkw : PK X kws tk) (hall : (backToKw pos (keywordEach kws X.env)).all (·.1.isSome) = true) (hks : (backToKw pos (keywordEach kws X.env)).filterMap (·.1) = ks)
    (hpl : ((backTo pos (starEach [] X.env)).any (·.1) || (backToKw pos (keywordEach kws X.env)).any (·.1.isNone)) = false := by rfl)
    (ht : eval (.Call (.Attribute o m apos) [] kws pos) X.env = (do
      let ov ← eval o X.env
      standAt apos.atName
      let (f, first) ← holding [ov] (getMethod ov m pl)
      callWith pos f first (backTo pos (starEach [] X.env)) (backToKw pos (keywordEach kws X.env))) := by rfl) :
    PE X (.Call (.Attribute o m apos) [] kws pos) (tMtL C 0 ks.length sp gV E ta tNil tk) := by
  refine ⟨fun pins s σ H Q I h => PySem.W.methodCall_KW (pl := pl) (thn (he.run pins s σ H _ I h) fun u s1 ⟨x, H1, I1, rx, a, dx, fs, ex, ea, q⟩ => ?_) ht⟩
  subst ex
  cases (show u = Value.ref a from rx)
  refine SlX.getmethsl_ok I1 ea c hm (PySem.W.callWith_KW0 (first := [.ref a]) (h₀ := X.base) I.ok.mod.kin hm.kp hall
    (thn (hkw.run pos pins s1 σ H1 _ I1 q) fun ws s3 ⟨zs, H3, I3, rz, l1, l2, q3⟩ => ⟨I3.kIn, ?_⟩) hpl)
  rw [hks]
  exact run_S (us := [.ref a]) (vs := [.ref a]) F hr hb (hx σ) I3 (.cons rfl .nil) rz rfl l2 q3
end
/-! str(x) by the class's own def -/
section
variable {X : Cx} {C g : Addr} {n : Nat} {sp : Sp}
def rStrL (C : Addr) (sp : Sp) : List V → Hp → VK → Prop := fun xs H Q => ∃ a dx vs, xs = [V.ref a] ∧ SlX.Slt H a C dx vs ∧ sp [.ref a] H (fun z H' => ∃ y, z = .str y ∧ Q z H') E0
theorem call_strL (hs : PySem.W.findIn X.K (.ref C) "__str__" = some (some (.ref g))) (hf : PySem.W.isFn X.K (.ref g) = true) (F : FnR X.prog X.w X.K X.mg X.base (L2.CX X.prog X.w) n g sp) (hr : Room (n + 2) X.A) : CallR X (.type "str") (rStrL C sp) := by
  intro pins s σ H xs us Q I r h
  obtain ⟨a, dx, vs, rfl, hsl, q⟩ := h
  obtain ⟨u, rfl, ru⟩ := r.one
  cases (show u = Value.ref a from ru)
  obtain ⟨sl, od, _, J, _⟩ := SlX.slt_inst I hsl
  have hr2 : Room n X.A.in1.in1 := (show Room (n + 1) X.A.in1 from Room.in1 hr).in1
  refine PySem.W.kso_call hr2.units0 I.kIn J hs hf (wpAny_mono (wpAny_call (SlX.run_at (us := [.ref a]) (ws := [.ref a]) F hr2 I.env0.in1.in1 passL I (.cons rfl .nil) q)) (fun w s' z => ?_) fun _ _ x => x)
  obtain ⟨z', H', I', rz, y, ey, qz⟩ := z
  subst ey
  obtain ⟨t, e⟩ := (show ∃ t, w = Value.str y t from rz)
  cases e
  exact ⟨.str y, H', I', ⟨t, rfl⟩, qz⟩
end
/-! isinstance of an instance with slots, or of another thing -/
section
variable {X : Cx} {K : Frag}
theorem call_or {v : Value} {r1 r2 : List V → Hp → VK → Prop} (h1 : CallR X v r1) (h2 : CallR X v r2) : CallR X v (fun xs H Q => r1 xs H Q ∨ r2 xs H Q) := by
  intro pins s σ H xs us Q I r h
  rcases h with h | h
  · exact h1 pins s σ H xs us Q I r h
  · exact h2 pins s σ H xs us Q I r h
theorem isiLK (hK : X.K = K) (C : Addr) : CallR X (.builtin "isinstance") (SlX.rIsiSl K (.ref C)) := hK ▸ SlX.call_isiSl (.ref C)
theorem isi2K (hK : X.K = K) (C : Addr) : CallR X (.builtin "isinstance") (fun xs H Q => SlX.rIsiSl K (.ref C) xs H Q ∨ rIsi K xs H Q) := call_or (isiLK hK C) (isiK hK)
end
end S
namespace S
open PySem PySem.Spec PyProof.Rows L2
/-! ### + - * // of own instances with slots, among themselves and with ints -/
theorem ps_never {X : Cx} {st : Stmt} : PS X st (fun _ _ _ => False) := ⟨fun _ _ _ _ _ _ h => h.elim⟩
section
open PySem.W PySem.Calls
variable {prog : Program} {w : World} {A : Around} {E : Value → Shared → Prop} {s : Shared} {K : Frag} {x C f f0 : Addr} {ox : Obj} {od : Option Obj}
/-- at x stands no int -/
def NoInt (x : Addr) (s : Shared) : Prop := ∃ o : Obj, s.heap.get? x = some o ∧ ∀ i t, o.data ≠ .prim (.int i t)
theorem asInt_no {M : Model} {A : Around} {E : Value → Shared → Prop} {s : Shared} {x : Addr} {Q : Option Int → Shared → Prop} (h : NoInt x s) (q : Q none s) : wpAny M A (asInt? (.ref x)) Q E s := by
  obtain ⟨o, ho, hn⟩ := h
  show wpAny M A (load x >>= _) Q E s
  refine wpAny_bind (wpAny_load ho ?_)
  split
  · rename_i i t e
    exact absurd e (hn i t)
  · exact wpAny_pure q
theorem decl_bin {prog : Program} {w : World} {A : Around} {R : Result → Shared → Prop} {s : Shared} {name : String} {f : Int → Int → Sem Fin} {a : Int} {t : Tok} {x : Addr} (h : NoInt x s) (q : R (.ok (.ret .notImplemented)) s) :
    wpAny (model prog w) A.in1 (Builtin.Int.intBinary name f false ⟨[.int a t, .ref x], []⟩) (fun fin s' => match fin with | .done f => R (.ok f) s' | .again c' => c'.quiet = true ∧ codeAny (model prog w) A c' R s') (fun e s' => R (.error e) s') s := by
  unfold Builtin.Int.intBinary
  refine wpAny_bind (wpAny_of_eq (a := (.int a t, [.ref x])) rfl ?_)
  refine wpAny_bind (wpAny_of_eq (a := a) rfl ?_)
  refine wpAny_bind (asInt_no h ?_)
  exact wpAny_bind (wpAny_rule (wpAny_pure q))
theorem decl_add (a : Int) (t : Tok) (x : Addr) : GivesAt (NoInt x) (Builtin.«int.__add__» ⟨[.int a t, .ref x], []⟩) (.val (Value.notImplemented)) := fun prog w A R s h q => decl_bin h q
theorem decl_sub (a : Int) (t : Tok) (x : Addr) : GivesAt (NoInt x) (Builtin.«int.__sub__» ⟨[.int a t, .ref x], []⟩) (.val (Value.notImplemented)) := fun prog w A R s h q => decl_bin h q
theorem decl_mul (a : Int) (t : Tok) (x : Addr) : GivesAt (NoInt x) (Builtin.«int.__mul__» ⟨[.int a t, .ref x], []⟩) (.val (Value.notImplemented)) := fun prog w A R s h q => decl_bin h q
theorem decl_floordiv (a : Int) (t : Tok) (x : Addr) : GivesAt (NoInt x) (Builtin.«int.__floordiv__» ⟨[.int a t, .ref x], []⟩) (.val (Value.notImplemented)) := fun prog w A R s h q => by
  unfold Builtin.«int.__floordiv__»
  refine wpAny_bind ?_
  refine wpAny_bind (m := asInt? (.int a t)) (wpAny_of_eq (a := some a) rfl ?_)
  refine wpAny_bind (m := asInt? (.ref x)) (asInt_no h ?_)
  exact wpAny_pure (decl_bin h q)
/-- what is known of int's own slot for an operator -/
structure IntOp (op : Operator) (idl : String) (B : Builtin) : Prop where
  fl : fillsNumberSlot (.type "int") op.info.2 = pure true
  sl : Slot "int" (PySem.dunder op.info.2) idl
  en : entryFor table idl = some B
  ar : ∀ a b : Value, argsOk idl ⟨[a, b], []⟩
  de : ∀ (a : Int) (t : Tok) (x : Addr), GivesAt (NoInt x) (B ⟨[.int a t, .ref x], []⟩) (.val (Value.notImplemented))
theorem io_add : IntOp .Add "int.__add__" Builtin.«int.__add__» := ⟨PySem.F.fills_int_add, PySem.F.slot_int_add, PySem.F.entry_int_add, PySem.F.args_int_add_2, decl_add⟩
theorem io_sub : IntOp .Sub "int.__sub__" Builtin.«int.__sub__» := ⟨PySem.F.fills_int_sub, PySem.F.slot_int_sub, PySem.F.entry_int_sub, PySem.F.args_int_sub_2, decl_sub⟩
theorem io_mul : IntOp .Mult "int.__mul__" Builtin.«int.__mul__» := ⟨PySem.F.fills_int_mul, PySem.F.slot_int_mul, PySem.F.entry_int_mul, PySem.F.args_int_mul_2, decl_mul⟩
theorem io_fdiv : IntOp .FloorDiv "int.__floordiv__" Builtin.«int.__floordiv__» := ⟨PySem.F.fills_int_floordiv, PySem.F.slot_int_floordiv, PySem.F.entry_int_floordiv, PySem.F.args_int_floordiv_2, decl_floordiv⟩
theorem bin_refl {op : Operator} {idl : String} {B : Builtin} {i : Int} {t : Tok} {Q : Value → Shared → Prop} (io : IntOp op idl B) (X : K.In s.heap) (I : InstAt s.heap x ox C od) (hno : NoInt x s) (hc : selfFirst K C = true)
    (hs : findIn K (.ref C) (PySem.dunder op.info.2) = some (some (.ref f0))) (hsR : findIn K (.ref C) (dunderR op.info.2) = some (some (.ref f))) (hf : isFn K (.ref f) = true) (hsub : subIn K (.ref C) (.type "int") = some false)
    (h : wpAny (model prog w) A (call (.ref f) [.ref x, .int i t]) (PySem.W.CmpBack Q) E s) : wpAny (model prog w) A (binaryOp op (.int i t) (.ref x)) Q E s := by
  obtain ⟨fl, sl, en, ar, de⟩ := io
  obtain ⟨cd, rest, hcd, hm⟩ := ksp_first hc
  rcases hi : op.info with ⟨sym, nm⟩
  rw [hi] at fl sl hs hsR
  simp only [binaryOp, hi]
  refine wpAny_holding (wpAny_bind ?_)
  simp only [binaryOp1]
  have ha := typeIs_int s i t
  refine wpAny_bind (wpAny_typeOf ha (wpAny_bind (I.type.here (wpAny_bind (wpAny_of_eq fl ?_)))))
  have hne : (Value.type "int" == Value.ref C) = false := Bool.eq_false_iff.mpr fun q => by cases beq_iff_eq.mp q
  simp only [hne, Bool.false_eq_true, if_false]
  refine wpAny_bind ((fills_K X hcd hm hs).here ?_)
  simp only [Bool.and_self, if_true]
  refine wpAny_bind ((looks_subIn X hsub).here ?_)
  have hpy : numberSlotInPython (.type "int") nm = pure false := rfl
  simp only [Bool.false_eq_true, if_false, pure_bind, Bool.not_false, Bool.and_self, if_true, hpy]
  simp only [tryMethod]
  refine wpAny_bind (wpAny_bind (wpAny_callSpecial?_slot ha sl (wpAny_mono (call_givesAt (Q := fun v s1 => v = .notImplemented ∧ s1 = s) sl ha en (ar _ _) (de i t x) hno ⟨rfl, rfl⟩) (fun v s1 h1 => ?_) fun _ _ x => x)))
  obtain ⟨rfl, rfl⟩ := h1
  refine wpAny_pure (wpAny_bind (wpAny_bind (special_fn X I hsR (beq_iff_eq.mp hf) (wpAny_mono h (fun v s' hv => ?_) fun _ _ e => e))))
  cases v <;> first | exact hv.elim | exact wpAny_pure (wpAny_bind (wpAny_rule (wpAny_pure (wpAny_pure hv))))
end
/-- what of the text a class must have for an operator -/
structure BinC (K : Frag) (C : Addr) (nm : String) (f g : Addr) : Prop where
  sf : PySem.W.selfFirst K C = true
  at_ : PySem.W.findIn K (.ref C) (PySem.dunder nm) = some (some (.ref f))
  fn : PySem.W.isFn K (.ref f) = true
  atR : PySem.W.findIn K (.ref C) (dunderR nm) = some (some (.ref g))
  fnR : PySem.W.isFn K (.ref g) = true
  su : PySem.W.subIn K (.ref C) (.type "int") = some false
  us : PySem.W.subIn K (.type "int") (.ref C) = some false
  i1 : ∃ fo, PySem.W.findIn K (.type "int") (PySem.dunder nm) = some fo
  i2 : ∃ ro, PySem.W.findIn K (.type "int") (dunderR nm) = some ro
def binB (K : Frag) (C : Addr) (nm : String) (f g : Addr) : Bool := PySem.W.selfFirst K C && (He.eqO (PySem.W.findIn K (.ref C) (PySem.dunder nm)) (some (some (.ref f))) && (PySem.W.isFn K (.ref f) &&
  (He.eqO (PySem.W.findIn K (.ref C) (dunderR nm)) (some (some (.ref g))) && (PySem.W.isFn K (.ref g) && (decide (PySem.W.subIn K (.ref C) (.type "int") = some false) && (decide (PySem.W.subIn K (.type "int") (.ref C) = some false) &&
  ((PySem.W.findIn K (.type "int") (PySem.dunder nm)).isSome && (PySem.W.findIn K (.type "int") (dunderR nm)).isSome)))))))
theorem binB_ok {K : Frag} {C : Addr} {nm : String} {f g : Addr} (q : binB K C nm f g = true) : BinC K C nm f g := by
  obtain ⟨a, q⟩ := He.ba q
  obtain ⟨b, q⟩ := He.ba q
  obtain ⟨c, q⟩ := He.ba q
  obtain ⟨d, q⟩ := He.ba q
  obtain ⟨e, q⟩ := He.ba q
  obtain ⟨f, q⟩ := He.ba q
  obtain ⟨g, q⟩ := He.ba q
  obtain ⟨h, i⟩ := He.ba q
  exact ⟨a, He.eqO_ok b, c, He.eqO_ok d, e, of_decide_eq_true f, of_decide_eq_true g, Option.isSome_iff_exists.mp h, Option.isSome_iff_exists.mp i⟩
/-- x op y, one of them an instance of C, the other too, or an int -/
def rBinL (C : Addr) (sp spR : Sp) (E : XK) : R2 := fun x y H Q =>
  (∃ a dx vs b dy ws, x = .ref a ∧ y = .ref b ∧ SlX.Slt H a C dx vs ∧ SlX.Slt H b C dy ws ∧ sp [x, y] H Q E) ∨
  (∃ a dx vs i, x = .ref a ∧ y = .int i ∧ SlX.Slt H a C dx vs ∧ sp [x, y] H Q E) ∨
  (∃ b dy ws i, x = .int i ∧ y = .ref b ∧ SlX.Slt H b C dy ws ∧ spR [y, x] H Q E)
def tBinL (C : Addr) (sp spR : Sp) (E : L2.St → XK) (ta tb : TE) : TE := fun σ H Q => ta σ H fun x H1 => tb σ H1 fun y H2 => rBinL C sp spR (E σ) x y H2 Q
section
variable {X : Cx} {C f g : Addr} {n k : Nat} {sp spR : Sp} {E : L2.St → XK} {op : Operator} {idl : String} {B : Builtin} {a b : Expr} {ta tb : TE} {pos : Pos}
/-- the callee runs below the running body, what is raised wished for at the slots -/
theorem run_fnAt {CX : CXT} {E : XK} {pins : List (Addr × Obj)} {σ : L2.St} {H : Hp} {s : Shared} {Q : VK} {us : List Value} {ws : List V} (F : FnR X.prog X.w X.K X.mg X.base CX n f sp) (hr : Room n X.A) (hx : PassesAt CX X σ E) (I : Inv X pins σ H s) (r : Vals ws us) (h : sp ws H Q E) :
    codeAny (model X.prog X.w) X.A (.call (.ref f) ⟨us, []⟩) (fun r s' => match r with | .ok (.ret v) => EP X pins σ Q v s' | .ok _ => False | .error e => X.xe e s') s := by
  refine codeAny_mono (F X.A X.stack s H us ws Q E hr I.env0 r h) fun r s' hq => ?_
  match r, hq with
  | .error e, hq => exact hx pins H s e s' I hq
  | .ok (.ret u), hq => exact I.after hq
  | .ok .next, hq => exact hq.elim
  | .ok .brk, hq => exact hq.elim
  | .ok .cont, hq => exact hq.elim
theorem cb_of {pins : List (Addr × Obj)} {σ : L2.St} {Q : VK} {w : Value} {s' : Shared} (z : EP X pins σ Q w s') : PySem.W.CmpBack (EP X pins σ Q) w s' := by
  obtain ⟨v, H', I', rz, qz⟩ := z
  exact SlX.cmpback rz ⟨v, H', I', rz, qz⟩
theorem pe_binL (io : IntOp op idl B) (c : BinC X.K C op.info.2 f g) (F : FnR X.prog X.w X.K X.mg X.base (L2.CX X.prog X.w) n f sp) (hr : Room n X.A) (G : FnR X.prog X.w X.K X.mg X.base (L2.CX X.prog X.w) k g spR) (hr2 : Room k X.A)
    (hx : ∀ σ, PassesAt (L2.CX X.prog X.w) X σ (E σ)) (ha : PE X a ta) (hb : PE X b tb) : PE X (.BinOp a op b pos) (tBinL C sp spR E ta tb) := by
  refine ⟨fun pins s σ H Q I h => wpAny_BinOp (binT ha hb I (R := fun x y H2 => rBinL C sp spR (E σ) x y H2 Q) h fun v u s2 x y H2 I2 rx ry q => ?_)⟩
  obtain ⟨m, hF⟩ := I2.fr
  rcases q with ⟨a, dx, vs, b, dy, ws, rfl, rfl, h1, h2, q⟩ | ⟨a, dx, vs, i, rfl, rfl, h1, q⟩ | ⟨b, dy, ws, i, rfl, rfl, h1, q⟩
  · cases (show v = Value.ref a from rx)
    cases (show u = Value.ref b from ry)
    obtain ⟨sl, od, _, J, _⟩ := SlX.slt_inst I2 h1
    obtain ⟨sl', od', _, J', _⟩ := SlX.slt_inst I2 h2
    exact PySem.W.binop_K hF I2.ok.mod.kin J J'.type c.sf c.at_ c.fn (wpAny_mono (wpAny_call (run_fnAt (us := [.ref a, .ref b]) (ws := [.ref a, .ref b]) F hr (hx σ) I2 (.cons rfl (.cons rfl .nil)) q)) (fun w s' z => cb_of z) fun _ _ x => x)
  · cases (show v = Value.ref a from rx)
    obtain ⟨t, rfl⟩ := (show ∃ t, u = Value.int i t from ry)
    obtain ⟨sl, od, _, J, _⟩ := SlX.slt_inst I2 h1
    obtain ⟨fo, e1⟩ := c.i1
    obtain ⟨ro, e2⟩ := c.i2
    exact PySem.W.ksp_binT (T := "int") hF I2.ok.mod.kin J rfl c.sf c.at_ c.fn c.atR (.inr ⟨_, rfl⟩) e1 e2 c.us (wpAny_mono (wpAny_call (run_fnAt (us := [.ref a, .int i t]) (ws := [.ref a, .int i]) F hr (hx σ) I2 (.cons rfl (.cons ⟨t, rfl⟩ .nil)) q)) (fun w s' z => cb_of z) fun _ _ x => x)
  · obtain ⟨t, rfl⟩ := (show ∃ t, v = Value.int i t from rx)
    cases (show u = Value.ref b from ry)
    obtain ⟨sl, od, _, J, _⟩ := SlX.slt_inst I2 h1
    exact bin_refl io I2.kIn J ⟨_, J.at_, fun _ _ => by intro z; cases z⟩ c.sf c.at_ c.atR c.fnR c.su (wpAny_mono (wpAny_call (run_fnAt (us := [.ref b, .int i t]) (ws := [.ref b, .int i]) G hr2 (hx σ) I2 (.cons rfl (.cons ⟨t, rfl⟩ .nil)) q)) (fun w s' z => cb_of z) fun _ _ x => x)
/-- - x -/
def rNegL (C : Addr) (sp : Sp) : V → Hp → VK → Prop := fun x H Q => ∃ a dx vs, x = .ref a ∧ SlX.Slt H a C dx vs ∧ sp [x] H Q E0
theorem un_negL (hs : PySem.W.findIn X.K (.ref C) "__neg__" = some (some (.ref f))) (hf : PySem.W.isFn X.K (.ref f) = true) (F : FnR X.prog X.w X.K X.mg X.base (L2.CX X.prog X.w) n f sp) (hr : Room n X.A) : UnR X (unaryOp .USub) (rNegL C sp) := by
  intro pins s σ H x v Q I rx h
  obtain ⟨a, dx, vs, rfl, h1, q⟩ := h
  cases (show v = Value.ref a from rx)
  obtain ⟨sl, od, _, J, _⟩ := SlX.slt_inst I h1
  obtain ⟨m, hF⟩ := I.fr
  exact PySem.W.ksp_neg hF I.ok.mod.kin J hs hf (wpAny_call (run_fnR (us := [.ref a]) (vs := [.ref a]) F hr passL I (.cons rfl .nil) q))
/-! raise C(), C a class of the text with no __init__ -/
theorem pmk_own0 {bmB : List Value} {BB newId initId : String} {x : Str} {p : Pos} (F : ExcBaseFacts BB newId initId bmB) (q : PySem.W.excIn X.K C bmB newId = true) (gC : X.mg x = some (.ref C))
    (kC : PySem.W.keepIn X.K (.ref C) = true) (r : Raises X (.ref C)) (hg : Gl X x) (hdb : (x == ("__debug__" : Str)) = false := by decide) :
    PMk X (.Call (.Name x p) [] [] pos) (fun _ H Q => Q (.ref C) none H) := by
  intro pins s σ H Q I h
  refine wpAny_Call_Name_kw (ld_glob I hg gC ?_ hdb)
  refine PySem.W.callWith_K0 (first := []) I.kIn kC ?_
  show wpAny _ _ (call (.ref C) []) _ _ _
  obtain ⟨bm, N, nm, qn, bs, hdct, sn, sub, ab, col, dd, k0, k1, k2, k3, k5, mN, hC, hN, hni, T⟩ := exc_obj I.kIn q
  refine wpAny_call_exc_subT F T hC hN hni (fun h' e hm => ?_) (Nat.zero_le _)
  exact mk_of I hm r h (I.hok.gone hm.new)
end
structure Ex0 (K : Frag) (C : Addr) : Prop where
  ex : PySem.W.excIn K C [.type "ValueError", .type "Exception", .type "BaseException", .type "object"] "ValueError.__new__" = true
  kp : PySem.W.keepIn K (.ref C) = true
  sb : PySem.W.subIn K (.ref C) (.type "BaseException") = some true
  ty : PySem.W.typeIn K (.ref C) = some (.type "type")
def ex0B (K : Frag) (C : Addr) : Bool := PySem.W.excIn K C [.type "ValueError", .type "Exception", .type "BaseException", .type "object"] "ValueError.__new__" && (PySem.W.keepIn K (.ref C) &&
  (decide (PySem.W.subIn K (.ref C) (.type "BaseException") = some true) && decide (PySem.W.typeIn K (.ref C) = some (.type "type"))))
theorem ex0B_ok {K : Frag} {C : Addr} (q : ex0B K C = true) : Ex0 K C := by
  obtain ⟨a, q⟩ := He.ba q
  obtain ⟨b, q⟩ := He.ba q
  obtain ⟨c, d⟩ := He.ba q
  exact ⟨a, b, of_decide_eq_true c, of_decide_eq_true d⟩
theorem ps_raiseP {X : Cx} {C : Addr} {W : WX} {x : Str} {p pos pos2 : Pos} (hc : X.calm = true) (tk : Takes X W) (c : Ex0 X.K C) (hg : Gl X x) (gC : X.mg x = some (.ref C)) (hdb : (x == ("__debug__" : Str)) = false := by decide) :
    PS X (.Raise (some (.Call (.Name x p) [] [] pos)) none pos2) (fun _ σ H => W (.ref C) none σ H) :=
  ps_raise hc tk (pmk_own0 PySem.F.excBase_ValueError c.ex gC c.kp (raises_own c.sb c.ty) hg hdb)
end S
namespace S
open PySem PySem.Spec PyProof.Rows L2
/-! abs(x) by the class's own def -/
section
variable {X : Cx} {C g : Addr} {n : Nat} {sp : Sp}
def rAbsL (C : Addr) (sp : Sp) : List V → Hp → VK → Prop := fun xs H Q => ∃ a dx vs, xs = [V.ref a] ∧ SlX.Slt H a C dx vs ∧ sp [.ref a] H Q E0
theorem call_absL (hs : PySem.W.findIn X.K (.ref C) "__abs__" = some (some (.ref g))) (hf : PySem.W.isFn X.K (.ref g) = true) (F : FnR X.prog X.w X.K X.mg X.base (L2.CX X.prog X.w) n g sp) (hr : Room (n + 1) X.A) : CallR X (.builtin "abs") (rAbsL C sp) := by
  intro pins s σ H xs us Q I r h
  obtain ⟨a, dx, vs, rfl, hsl, q⟩ := h
  obtain ⟨u, rfl, ru⟩ := r.one
  cases (show u = Value.ref a from ru)
  obtain ⟨sl, od, _, J, _⟩ := SlX.slt_inst I hsl
  refine PySem.Calls.call_function_entry kind_abs plain_abs entry_abs (args_abs _) ?_
  unfold Builtin.«abs»
  refine wpAny_bind (wpAny_of_eq (a := .ref a) rfl ?_)
  refine wpAny_bind (PySem.W.special_fn I.kIn J hs (beq_iff_eq.mp hf) (wpAny_mono (wpAny_call (SlX.run_at (us := [.ref a]) (ws := [.ref a]) F hr.in1 I.env0.in1 passL I (.cons rfl .nil) q)) (fun w s' z => ?_) fun _ _ x => x))
  exact wpAny_pure ⟨_, rfl, z⟩
end
end S
namespace S
open PySem PySem.Spec PyProof.Rows L2
/-! // by any divisor but 0 -/
def CDivN (_ j : Int) : Prop := j ≠ 0 ∧ j.natAbs.log2 < 9000
theorem op_fdivN {X : Cx} : OpR X (binaryOp .FloorDiv) (rI CDivN fun i j => .int (i.fdiv j)) := opI fun i j _ _ _ _ _ hc q => floordiv_int hc.1 q (.inl (PyProof.noPylong_of_log2 hc.2))
end S
namespace S
open PySem PySem.Spec PyProof.Rows L2
/-! ### == < .. of slotted instances by their own defs, the right side an instance of the class or an int -/
section
variable {X : Cx} {n : Nat} {C g : Addr} {sp : Sp}
def rCmpL (K : Frag) (C : Addr) (sp : Sp) : R2 := fun x y H Q => ∃ a dx vs, x = .ref a ∧ SlX.Slt H a C dx vs ∧ ((∃ b dy ws, y = .ref b ∧ SlX.Slt H b C dy ws) ∨ ((∃ i, y = .int i) ∧ PySem.W.notFirst K C (.type "int") = true)) ∧ sp [x, y] H Q E0
theorem op_cmpL {op : CmpOp} (hop : ∀ a b, compareOp op a b = richCompare op a b) (hs : PySem.W.findIn X.K (.ref C) (cmpInfo op).2.1 = some (some (.ref g))) (hf : PySem.W.isFn X.K (.ref g) = true)
    (F : FnR X.prog X.w X.K X.mg X.base (L2.CX X.prog X.w) n g sp) (hr : Room n X.A) : OpR X (compareOp op) (rCmpL X.K C sp) := by
  intro pins s σ H x y v u Q I rx ry h
  obtain ⟨a, dx, vs, rfl, h1, hy, q⟩ := h
  cases (show v = Value.ref a from rx)
  obtain ⟨sl, od, _, J, _⟩ := SlX.slt_inst I h1
  obtain ⟨m, hF⟩ := I.fr
  rw [hop]
  rcases hy with ⟨b, dy, ws, rfl, h2⟩ | ⟨⟨i, rfl⟩, hn⟩
  · cases (show u = Value.ref b from ry)
    obtain ⟨sl', od', _, J', _⟩ := SlX.slt_inst I h2
    refine PySem.W.cmp_K (op := op) (tb := .ref C) hr.units0 hF I.ok.mod.kin J J'.type (by simp [PySem.W.notFirst]) hs hf ?_
    refine wpAny_mono (wpAny_call (run_fnR (us := [.ref a, .ref b]) (vs := [.ref a, .ref b]) F hr passL I (.cons rfl (.cons rfl .nil)) q)) (fun w s' z => ?_) fun _ _ x => x
    obtain ⟨z2, H2, I2, rz, qz⟩ := z
    exact SlX.cmpback rz ⟨z2, H2, I2, rz, qz⟩
  · obtain ⟨t, rfl⟩ := (show ∃ t, u = Value.int i t from ry)
    refine PySem.W.cmp_K (op := op) (tb := .type "int") hr.units0 hF I.ok.mod.kin J (PySem.W.Looks.of_pure rfl) hn hs hf ?_
    refine wpAny_mono (wpAny_call (run_fnR (us := [.ref a, .int i t]) (vs := [.ref a, .int i]) F hr passL I (.cons rfl (.cons ⟨t, rfl⟩ .nil)) q)) (fun w s' z => ?_) fun _ _ x => x
    obtain ⟨z2, H2, I2, rz, qz⟩ := z
    exact SlX.cmpback rz ⟨z2, H2, I2, rz, qz⟩
/-- x != y by x's own ==, both of the class -/
def rNeL (C : Addr) (sp : Sp) : R2 := fun x y H Q => ∃ a dx vs b dy ws, x = .ref a ∧ y = .ref b ∧ SlX.Slt H a C dx vs ∧ SlX.Slt H b C dy ws ∧ sp [x, y] H (fun z H2 => ∃ r, z = .bl r ∧ Q (.bl (!r)) H2) E0
theorem op_neL (hne : PySem.W.findIn X.K (.ref C) "__ne__" = some (some (.builtin "object.__ne__"))) (hm : PySem.W.mroIn X.K C (.type "object") = some true)
    (hs : PySem.W.findIn X.K (.ref C) "__eq__" = some (some (.ref g))) (hf : PySem.W.isFn X.K (.ref g) = true)
    (F : FnR X.prog X.w X.K X.mg X.base (L2.CX X.prog X.w) n g sp) (hr : Room (n + 1) X.A) : OpR X (compareOp .NotEq) (rNeL C sp) := by
  intro pins s σ H x y v u Q I rx ry h
  obtain ⟨a, dx, fs, b, dy, gs, rfl, rfl, ha, hb, q⟩ := h
  cases (show v = Value.ref a from rx)
  cases (show u = Value.ref b from ry)
  obtain ⟨sl, od, _, J, _⟩ := SlX.slt_inst I ha
  obtain ⟨sl', od', _, J2, _⟩ := SlX.slt_inst I hb
  show wpAny _ _ (richCompare .NotEq (.ref a) (.ref b)) _ _ _
  refine ne_K (tb := .ref C) (hu_of hr) I.kIn J J2.type (by simp [PySem.W.notFirst]) hne hm hs hf ?_
  refine wpAny_mono (wpAny_call (SlX.run_at (us := [.ref a, .ref b]) (ws := [.ref a, .ref b]) F hr.in1 I.env0.in1 passL I (.cons rfl (.cons rfl .nil)) q)) (fun w s' z => ?_) fun _ _ x => x
  obtain ⟨z2, H2, I2, rz, r, rfl, qz⟩ := z
  cases (show w = Value.bool r from rz)
  exact ⟨r, rfl, .bl (!r), H2, I2, rfl, qz⟩
end
end S
namespace S
open PySem PySem.Spec PyProof.Rows L2
/-! ### [e for x in ..] by an invariant over the turn and the heap -/
section
variable {K : Frag} {a D : Addr} {xs : List V} {g : TG} {te : TE} {σ : L2.St} {H : Hp} {vs : List Nat} {R0 : Hp → Prop}
theorem lc_list (Pv : Nat → Hp → Prop) (h0 : Pv 0 (upd H D (.lst []))) (hl : ∀ i H, i ≤ xs.length → Pv i H → SqL K H a xs)
    (hs : ∀ i x H, xs[i]? = some x → Pv i H → g x (wipe σ vs) H fun σ2 H2 => wipe σ2 vs = wipe σ vs ∧ te σ2 H2 fun y H4 => ∃ acc, H4 D = some (.lst acc) ∧ acc.length < sizeLine ∧ Pv (i + 1) (upd H4 D (.lst (acc ++ [y]))))
    (hd : ∀ H, Pv xs.length H → R0 H)
    (mono : ∀ x H R R', (∀ σ2 H2, R σ2 H2 → R' σ2 H2) → g x (wipe σ vs) H R → g x (wipe σ vs) H R') :
    ∃ W : Nat → Nat → Hp → Prop, (∃ m, W 0 m (upd H D (.lst []))) ∧ ∀ i m H, W i m H →
      ((Itl K a).stop i H ∧ R0 H) ∨ ((Itl K a).go i H ∧ ∃ Nx : Hp → Prop, (∀ H', Nx H' → ∃ m', m' < m ∧ W (i + 1) m' H') ∧ ∀ x H', (Itl K a).yld i H x H' → g x (wipe σ vs) H' fun σ2 H2 => wipe σ2 vs = wipe σ vs ∧ tYes σ2 H2 fun b H3 =>
        if b = true then te σ2 H3 fun y H4 => ∃ acc, H4 D = some (.lst acc) ∧ acc.length < sizeLine ∧ Nx (upd H4 D (.lst (acc ++ [y]))) else Nx H3) := by
  refine ⟨fun i m H => m = xs.length - i ∧ i ≤ xs.length ∧ Pv i H, ⟨xs.length, by simp, Nat.zero_le _, h0⟩, ?_⟩
  rintro i m H ⟨rfl, hi, p⟩
  have q := hl i H hi p
  by_cases hlt : i < xs.length
  · refine .inr ⟨⟨xs, xs[i], q, by simp [hlt]⟩, Pv (i + 1), fun H' p' => ⟨xs.length - (i + 1), by omega, rfl, hlt, p'⟩, fun x H' y => ?_⟩
    obtain ⟨e, y⟩ := y
    subst e
    exact mono _ _ _ _ (fun σ2 H2 z => ⟨z.1, by unfold tYes; exact iteT z.2⟩) (hs i x _ (y xs q) p)
  · have e : i = xs.length := by omega
    subst e
    exact .inl ⟨⟨xs, q, Nat.le_refl _⟩, hd H p⟩
theorem lc_range {lo : Int} {n : Nat} (Pv : Nat → Hp → Prop) (h0 : Pv 0 (upd H D (.lst [])))
    (hs : ∀ i H, i < n → Pv i H → g (.int (lo + i)) (wipe σ vs) H fun σ2 H2 => wipe σ2 vs = wipe σ vs ∧ te σ2 H2 fun y H4 => ∃ acc, H4 D = some (.lst acc) ∧ acc.length < sizeLine ∧ Pv (i + 1) (upd H4 D (.lst (acc ++ [y]))))
    (hd : ∀ H, Pv n H → R0 H)
    (mono : ∀ x H R R', (∀ σ2 H2, R σ2 H2 → R' σ2 H2) → g x (wipe σ vs) H R → g x (wipe σ vs) H R') :
    ∃ W : Nat → Nat → Hp → Prop, (∃ m, W 0 m (upd H D (.lst []))) ∧ ∀ i m H, W i m H →
      ((Itr lo n).stop i H ∧ R0 H) ∨ ((Itr lo n).go i H ∧ ∃ Nx : Hp → Prop, (∀ H', Nx H' → ∃ m', m' < m ∧ W (i + 1) m' H') ∧ ∀ x H', (Itr lo n).yld i H x H' → g x (wipe σ vs) H' fun σ2 H2 => wipe σ2 vs = wipe σ vs ∧ tYes σ2 H2 fun b H3 =>
        if b = true then te σ2 H3 fun y H4 => ∃ acc, H4 D = some (.lst acc) ∧ acc.length < sizeLine ∧ Nx (upd H4 D (.lst (acc ++ [y]))) else Nx H3) := by
  refine ⟨fun i m H => m = n - i ∧ i ≤ n ∧ Pv i H, ⟨n, by simp, Nat.zero_le _, h0⟩, ?_⟩
  rintro i m H ⟨rfl, hi, p⟩
  by_cases hlt : i < n
  · refine .inr ⟨hlt, Pv (i + 1), fun H' p' => ⟨n - (i + 1), by omega, rfl, hlt, p'⟩, fun x H' y => ?_⟩
    obtain ⟨e, y⟩ := y
    subst e y
    exact mono _ _ _ _ (fun σ2 H2 z => ⟨z.1, by unfold tYes; exact iteT z.2⟩) (hs i _ hlt p)
  · have e : i = n := by omega
    subst e
    exact .inl ⟨Nat.le_refl _, hd H p⟩
theorem gName_mono {i : Nat} {σ : L2.St} : ∀ (x : V) (H : Hp) (R R' : L2.St → Hp → Prop), (∀ σ2 H2, R σ2 H2 → R' σ2 H2) → gName i x σ H R → gName i x σ H R' := fun _ _ _ _ k h => k _ _ h
theorem sumK {X : Cx} (hK : X.K = K) (hc : X.calm = true) : CallR X (.builtin "sum") (rSum K) := hK ▸ cr_sum hc
theorem boot_sum : bootBuiltins "sum" = some (.builtin "sum") := by decide +kernel
end
end S
namespace S
open PySem PySem.Spec PyProof.Rows L2
/-! ### == of any data, by what the parts answer -/
section
variable {K : Frag} {H : Hp} {n m : Nat} {x y : V} {b : Bool}
def EqOk (K : Frag) (H : Hp) (n : Nat) (x y : V) (b : Bool) : Prop := ∀ (X : Cx) (pins : List (Addr × Obj)) (σ : L2.St) (s : Shared) (A : Around) (v u : Value), X.K = K → Inv X pins σ H s → A.units + n < cLine → RelV x v → RelV y u → SeqAt.EqAt A s v u b
def RcOk (K : Frag) (H : Hp) (n : Nat) (x y : V) (b : Bool) : Prop := ∀ (X : Cx) (pins : List (Addr × Obj)) (σ : L2.St) (s : Shared) (A : Around) (v u : Value), X.K = K → Inv X pins σ H s → A.units + n < cLine → RelV x v → RelV y u → ∀ (E Q : Value → Shared → Prop), Q (.bool b) s → wpAny (model X.prog X.w) A (richCompare .Eq v u) Q E s
def NeOk (K : Frag) (H : Hp) (n : Nat) (x y : V) (b : Bool) : Prop := ∀ (X : Cx) (pins : List (Addr × Obj)) (σ : L2.St) (s : Shared) (A : Around) (v u : Value), X.K = K → Inv X pins σ H s → A.units + n < cLine → RelV x v → RelV y u → ∀ (E Q : Value → Shared → Prop), Q (.bool (!b)) s → wpAny (model X.prog X.w) A (richCompare .NotEq v u) Q E s
structure EqG (K : Frag) (H : Hp) (n : Nat) (x y : V) (b : Bool) : Prop where
  eq : RcOk K H n x y b
  ne : NeOk K H n x y b
  at_ : EqOk K H n x y b
theorem EqOk.up (h : EqOk K H n x y b) (l : n ≤ m) : EqOk K H m x y b := fun X pins σ s A v u k I hu => h X pins σ s A v u k I (Nat.lt_of_le_of_lt (Nat.add_le_add_left l _) hu)
theorem EqOk.to {c : Bool} (h : EqOk K H n x y b) (e : b = c) : EqOk K H n x y c := e ▸ h
theorem EqG.to {c : Bool} (h : EqG K H n x y b) (e : b = c) : EqG K H n x y c := e ▸ h
theorem EqG.up (h : EqG K H n x y b) (l : n ≤ m) : EqG K H m x y b :=
  ⟨fun X pins σ s A v u k I hu => h.eq X pins σ s A v u k I (Nat.lt_of_le_of_lt (Nat.add_le_add_left l _) hu), fun X pins σ s A v u k I hu => h.ne X pins σ s A v u k I (Nat.lt_of_le_of_lt (Nat.add_le_add_left l _) hu), h.at_.up l⟩
theorem eg_same {a : Addr} : EqOk K H n (.ref a) (.ref a) true := fun X pins σ s A v u k I hu rv ru => by
  cases rv
  cases ru
  exact SeqAt.EqAt.same _
theorem eg_dat {d e : PyData} (hd : Dp K H x d) (he : Dp K H y e) (pd : d.plain = true) (pe : e.plain = true) : EqG K H (min d.depth e.depth) x y (PyData.eqv d e) where
  eq := fun X pins σ s A v u k I hu rv ru => by
    subst k
    obtain ⟨as, r1⟩ := Dp.reads I d x v hd rv
    obtain ⟨bs, r2⟩ := Dp.reads I e y u he ru
    exact SeqAt.rcAt_plain r1 r2 pd pe hu X.prog X.w
  ne := fun X pins σ s A v u k I hu rv ru => by
    subst k
    obtain ⟨as, r1⟩ := Dp.reads I d x v hd rv
    obtain ⟨bs, r2⟩ := Dp.reads I e y u he ru
    exact SeqAt.rcNe_plain r1 r2 pd pe hu X.prog X.w
  at_ := fun X pins σ s A v u k I hu rv ru => by
    subst k
    obtain ⟨as, r1⟩ := Dp.reads I d x v hd rv
    obtain ⟨bs, r2⟩ := Dp.reads I e y u he ru
    exact SeqAt.eqAt_plain _ _ _ _ _ _ _ _ r1 r2 pd pe hu
theorem vals_at {xs : List V} {us : List Value} (r : Vals xs us) {j : Nat} (h : j < us.length) : ∃ x, xs[j]? = some x ∧ RelV x us[j] := by
  have hx : j < xs.length := by rw [r.length]; exact h
  obtain ⟨u, e, q⟩ := r.get (List.getElem?_eq_getElem hx)
  rw [List.getElem?_eq_getElem h] at e
  cases e
  exact ⟨_, List.getElem?_eq_getElem hx, q⟩
/-- pair by pair -/
def pairs (e : Nat → Bool) (xs ys : List V) : Bool := decide (xs.length = ys.length) && (List.range xs.length).all e
theorem eg_list {a c : Addr} {xs ys : List V} {e : Nat → Bool} (ha : SqL K H a xs) (hc : SqL K H c ys) (he : ∀ i p q, xs[i]? = some p → ys[i]? = some q → EqOk K H n p q (e i)) (hab : a = c → pairs e xs ys = true) : EqG K H (n + 1) (.ref a) (.ref c) (pairs e xs ys) := by
  have rc : ∀ (X : Cx) (pins : List (Addr × Obj)) (σ : L2.St) (s : Shared) (A : Around) (v u : Value), X.K = K → Inv X pins σ H s → A.units + (n + 1) < cLine → RelV (.ref a) v → RelV (.ref c) u → SeqAt.RcAt A s v u (pairs e xs ys) := fun X pins σ s A v u k I hu rv ru => by
    subst k
    cases rv
    cases ru
    obtain ⟨its, r, pl, _⟩ := I.list ha
    obtain ⟨its2, r2, pl2, _⟩ := I.list hc
    unfold pairs
    by_cases hl : xs.length = ys.length
    · rw [decide_eq_true hl, Bool.true_and]
      have := SeqAt.RcAt.lists (A := A) (e := e) pl.isList pl2.isList (by simp only [List.size_toArray]; rw [← r.length, ← r2.length, hl]) (by omega) (fun j h1 h2 => by
        obtain ⟨p, hp, rp⟩ := vals_at r (j := j) (by simpa using h1)
        obtain ⟨q, hq, rq⟩ := vals_at r2 (j := j) (by simpa using h2)
        simpa using he j p q hp hq X pins σ s A.in1 _ _ rfl I (by show A.units + 1 + n < cLine; omega) rp rq)
      rw [List.size_toArray, ← r.length] at this
      exact this
    · rw [decide_eq_false hl, Bool.false_and]
      exact SeqAt.RcAt.lists_lengths pl.isList pl2.isList (by simp only [List.size_toArray]; rw [← r.length, ← r2.length]; simpa using hl) (by omega)
  refine ⟨fun X pins σ s A v u k I hu rv ru => rc X pins σ s A v u k I hu rv ru X.prog X.w, fun X pins σ s A v u k I hu rv ru => ?_, fun X pins σ s A v u k I hu rv ru => ?_⟩
  · subst k
    cases rv
    cases ru
    obtain ⟨its, r, pl, _⟩ := I.list ha
    obtain ⟨its2, r2, pl2, _⟩ := I.list hc
    unfold pairs
    by_cases hl : xs.length = ys.length
    · rw [decide_eq_true hl, Bool.true_and]
      have := SeqAt.RcNeAt.lists (A := A) (e := e) pl.isList pl2.isList (by simp only [List.size_toArray]; rw [← r.length, ← r2.length, hl]) (by omega) (fun j h1 h2 => by
        obtain ⟨p, hp, rp⟩ := vals_at r (j := j) (by simpa using h1)
        obtain ⟨q, hq, rq⟩ := vals_at r2 (j := j) (by simpa using h2)
        simpa using he j p q hp hq X pins σ s A.in1 _ _ rfl I (by show A.units + 1 + n < cLine; omega) rp rq)
      rw [List.size_toArray, ← r.length] at this
      exact this X.prog X.w
    · rw [decide_eq_false hl, Bool.false_and]
      exact SeqAt.RcNeAt.lists_lengths pl.isList pl2.isList (by simp only [List.size_toArray]; rw [← r.length, ← r2.length]; simpa using hl) (by omega) X.prog X.w
  · have z := rc X pins σ s A v u k I hu rv ru
    cases rv
    cases ru
    by_cases e0 : a = c
    · subst e0
      rw [hab rfl]
      exact SeqAt.EqAt.same _
    · exact SeqAt.EqAt.of_refs e0 z
theorem eg_tup {a c : Addr} {xs ys : List V} {e : Nat → Bool} (ha : SqT K H a xs) (hc : SqT K H c ys) (he : ∀ i p q, xs[i]? = some p → ys[i]? = some q → EqOk K H n p q (e i)) (hab : a = c → pairs e xs ys = true) : EqG K H (n + 1) (.ref a) (.ref c) (pairs e xs ys) := by
  have flag : ∀ {p q : Nat}, p = xs.length → q = ys.length → ((List.range (min p q)).all e && p == q) = pairs e xs ys := fun {p q} h1 h2 => by
    subst h1 h2
    unfold pairs
    by_cases hl : xs.length = ys.length
    · rw [← hl]; simp
    · simp [hl]
  have rc : ∀ (X : Cx) (pins : List (Addr × Obj)) (σ : L2.St) (s : Shared) (A : Around) (v u : Value), X.K = K → Inv X pins σ H s → A.units + (n + 1) < cLine → RelV (.ref a) v → RelV (.ref c) u → SeqAt.RcAt A s v u (pairs e xs ys) := fun X pins σ s A v u k I hu rv ru => by
    subst k
    cases rv
    cases ru
    obtain ⟨its, r, pl, _⟩ := I.tuple ha
    obtain ⟨its2, r2, pl2, _⟩ := I.tuple hc
    have := SeqAt.RcAt.tuples (A := A) (e := e) pl pl2 (by omega) (fun j h1 h2 => by
      obtain ⟨p, hp, rp⟩ := vals_at r (j := j) (by simpa using h1)
      obtain ⟨q, hq, rq⟩ := vals_at r2 (j := j) (by simpa using h2)
      simpa using he j p q hp hq X pins σ s A.in1 _ _ rfl I (by show A.units + 1 + n < cLine; omega) rp rq)
    rw [flag (by simp [r.length]) (by simp [r2.length])] at this
    exact this
  refine ⟨fun X pins σ s A v u k I hu rv ru => rc X pins σ s A v u k I hu rv ru X.prog X.w, fun X pins σ s A v u k I hu rv ru => ?_, fun X pins σ s A v u k I hu rv ru => ?_⟩
  · subst k
    cases rv
    cases ru
    obtain ⟨its, r, pl, _⟩ := I.tuple ha
    obtain ⟨its2, r2, pl2, _⟩ := I.tuple hc
    have := SeqAt.RcNeAt.tuples (A := A) (e := e) pl pl2 (by omega) (fun j h1 h2 => by
      obtain ⟨p, hp, rp⟩ := vals_at r (j := j) (by simpa using h1)
      obtain ⟨q, hq, rq⟩ := vals_at r2 (j := j) (by simpa using h2)
      simpa using he j p q hp hq X pins σ s A.in1 _ _ rfl I (by show A.units + 1 + n < cLine; omega) rp rq)
    rw [flag (by simp [r.length]) (by simp [r2.length])] at this
    exact this X.prog X.w
  · have z := rc X pins σ s A v u k I hu rv ru
    cases rv
    cases ru
    by_cases e0 : a = c
    · subst e0
      rw [hab rfl]
      exact SeqAt.EqAt.same _
    · exact SeqAt.EqAt.of_refs e0 z
/-- two dicts: as many keys, and each of the first at the second -/
def hitsV (f : V → V → Bool) (ks ls : List (Key × V)) : Bool := ks.all fun p => match valV ls p.1 with | some y => f p.2 y | none => false
theorem hits_G {A : Around} {s : Shared} {f : V → V → Bool} {ls : List (Key × V)} {vb : List (Key × Value)} (rb : KV ls vb) {ks : List (Key × V)} {va : List (Key × Value)} (ra : KV ks va) :
    (∀ p ∈ ks, ∀ z, valV ls p.1 = some z → ∀ v u, RelV p.2 v → RelV z u → SeqAt.EqAt A s v u (f p.2 z)) → PySem.W.KeqHits A s vb va (hitsV f ks ls) := by
  unfold KV at ra
  induction ra with
  | nil => intro _; exact .nil
  | @cons p q ps qs h t ih =>
    intro hp
    obtain ⟨h1, h2⟩ := h
    obtain ⟨k, v⟩ := q
    have h1' : p.1 = k := h1
    have ih := ih fun p' hm => hp p' (List.mem_cons_of_mem _ hm)
    unfold hitsV
    rw [List.all_cons]
    cases e : valV ls p.1 with
    | none =>
      have rr : RelO none (valueAt vb p.1) := by rw [← e]; exact rb.val p.1
      have hn : valueAt vb p.1 = none := by
        cases hv : valueAt vb p.1 with
        | none => rfl
        | some w => rw [hv] at rr; cases rr
      rw [h1'] at hn
      simp only [Bool.false_and]
      exact .miss hn
    | some z =>
      have rr : RelO (some z) (valueAt vb p.1) := by rw [← e]; exact rb.val p.1
      obtain ⟨y, hy, ry⟩ := rr.some_of
      rw [h1'] at hy
      exact .hit hy (hp p List.mem_cons_self z e v y h2 ry) ih
theorem eg_dict {a c : Addr} {ks ls : List (Key × V)} {f : V → V → Bool} (ha : H a = some (.dK ks)) (hc : H c = some (.dK ls)) (he : ∀ p ∈ ks, ∀ z, valV ls p.1 = some z → EqOk K H n p.2 z (f p.2 z)) :
    RcOk K H (n + 1) (.ref a) (.ref c) (decide (ks.length = ls.length) && hitsV f ks ls) ∧ NeOk K H (n + 1) (.ref a) (.ref c) (decide (ks.length = ls.length) && hitsV f ks ls) := by
  refine ⟨fun X pins σ s A v u k I hu rv ru E Q q => ?_, fun X pins σ s A v u k I hu rv ru E Q q => ?_⟩
  · cases rv
    cases ru
    obtain ⟨_, ya, va, ra, da⟩ := (show ObjOk X.prog X.w H s.heap a (.dK ks) from I.hok a _ ha)
    obtain ⟨_, yb, vb, rb, db⟩ := (show ObjOk X.prog X.w H s.heap c (.dK ls) from I.hok c _ hc)
    refine PySem.W.keq_eq (knd := mixKind X.prog X.w) (r := hitsV f ks ls) ya yb da db (by omega) (fun _ => hits_G rb ra fun p hp z hz v u rv ru => he p hp z hz X pins σ s A.in1 v u k I (by show A.units + 1 + n < cLine; omega) rv ru) ?_
    rw [← ra.length, ← rb.length]
    exact q
  · cases rv
    cases ru
    obtain ⟨_, ya, va, ra, da⟩ := (show ObjOk X.prog X.w H s.heap a (.dK ks) from I.hok a _ ha)
    obtain ⟨_, yb, vb, rb, db⟩ := (show ObjOk X.prog X.w H s.heap c (.dK ls) from I.hok c _ hc)
    refine PySem.W.keq_ne (knd := mixKind X.prog X.w) (r := hitsV f ks ls) ya yb da db (by omega) (fun _ => hits_G rb ra fun p hp z hz v u rv ru => he p hp z hz X pins σ s A.in1 v u k I (by show A.units + 1 + n < cLine; omega) rv ru) ?_
    rw [← ra.length, ← rb.length]
    exact q
def toV : Value → V
  | .none => .non
  | .bool b => .bl b
  | .int i _ => .int i
  | .str z _ => .str z
  | .bytes b _ => .byt b
  | .float b _ => .flt b
  | .ref a => .ref a
  | .type n => .ty n
  | _ => .non
theorem toV_of {x : V} {u : Value} (h : L2.RelV x u) : toV u = x := by cases x <;> first | (cases h; rfl) | (obtain ⟨t, rfl⟩ := h; rfl)
theorem relV_one {x y : V} {u : Value} (h : L2.RelV x u) (k : L2.RelV y u) : x = y := (toV_of h).symm.trans (toV_of k)
/-- x == y, x != y, by their parts -/
def rEqG (K : Frag) : R2 := fun x y H Q => ∃ n b, n ≤ 60 ∧ RcOk K H n x y b ∧ Q (.bl b) H
def rNeG (K : Frag) : R2 := fun x y H Q => ∃ n b, n ≤ 60 ∧ NeOk K H n x y b ∧ Q (.bl (!b)) H
theorem eqGK {X : Cx} (hK : X.K = K) (hu : X.A.units + 64 < cLine) : OpR X (compareOp .Eq) (rEqG K) := by
  intro pins s σ H x y v u Q I rx ry h
  obtain ⟨n, b, hn, h, q⟩ := h
  exact h X pins σ s X.A v u hK I (by omega) rx ry _ _ ⟨.bl b, H, I, rfl, q⟩
theorem neGK {X : Cx} (hK : X.K = K) (hu : X.A.units + 64 < cLine) : OpR X (compareOp .NotEq) (rNeG K) := by
  intro pins s σ H x y v u Q I rx ry h
  obtain ⟨n, b, hn, h, q⟩ := h
  exact h X pins σ s X.A v u hK I (by omega) rx ry _ _ ⟨.bl (!b), H, I, rfl, q⟩
/-- x in ys, a list or a tuple: f tells which item equals x -/
def rInG (K : Frag) (neg : Bool) : R2 := fun x y H Q => ∃ p ys n f, y = .ref p ∧ (SqL K H p ys ∨ SqT K H p ys) ∧ n ≤ 60 ∧ (∀ z ∈ ys, EqOk K H n z x (f z)) ∧ Q (.bl (if neg then !ys.any f else ys.any f)) H
def eU (_ : List V) (f : V → Bool) (u : Value) : Bool := f (toV u)
theorem eU_of {ys : List V} {f : V → Bool} {z : V} {u : Value} (hz : z ∈ ys) (r : L2.RelV z u) : eU ys f u = f z := by
  unfold eU
  rw [toV_of r]
theorem any_eU {f : V → Bool} {ys0 : List V} : ∀ {ys : List V} {us : List Value}, Vals ys us → (∀ z ∈ ys, z ∈ ys0) → us.any (eU ys0 f) = ys.any f
  | _, _, .nil, _ => rfl
  | y :: ys, u :: us, .cons r t, h => by
    rw [List.any_cons, List.any_cons, eU_of (h y List.mem_cons_self) r, any_eU t fun z hz => h z (List.mem_cons_of_mem _ hz)]
theorem vals_mem : ∀ {ys : List V} {us : List Value}, Vals ys us → ∀ u ∈ us, ∃ z ∈ ys, RelV z u
  | _, _, .nil, u, h => by cases h
  | y :: ys, u :: us, .cons r t, u', h => by
    rcases List.mem_cons.mp h with rfl | h
    · exact ⟨y, List.mem_cons_self, r⟩
    · obtain ⟨z, hz, q⟩ := vals_mem t u' h
      exact ⟨z, List.mem_cons_of_mem _ hz, q⟩
theorem inGK {X : Cx} (hK : X.K = K) (hu : X.A.units + 64 < cLine) : OpR X (compareOp .In) (rInG K false) := by
  intro pins s σ H x y v u Q I rx ry h
  subst hK
  obtain ⟨p, ys, n, f, rfl, hq, hn, he, q⟩ := h
  cases ry
  rcases hq with hq | hq
  · obtain ⟨its, r, pl, hz⟩ := I.list hq
    refine SeqAt.in_listAt (eU ys f) pl.isList (fun w hw => ?_) ⟨.bl _, H, I, rfl, ?_⟩
    · obtain ⟨z, hz, rz⟩ := vals_mem r w (by simpa using hw)
      rw [eU_of hz rz]
      exact he z hz X pins σ s X.A.in1 _ _ rfl I (by show X.A.units + 1 + n < cLine; omega) rz rx
    · rw [show its.toArray.any (eU ys f) = its.any (eU ys f) by simp, any_eU r fun _ h => h]
      exact q
  · obtain ⟨its, r, pl, hz⟩ := I.tuple hq
    refine SeqAt.in_tupleAt (eU ys f) pl (fun w hw => ?_) ⟨.bl _, H, I, rfl, ?_⟩
    · obtain ⟨z, hz, rz⟩ := vals_mem r w (by simpa using hw)
      rw [eU_of hz rz]
      exact he z hz X pins σ s X.A.in1 _ _ rfl I (by show X.A.units + 1 + n < cLine; omega) rz rx
    · rw [show its.toArray.any (eU ys f) = its.any (eU ys f) by simp, any_eU r fun _ h => h]
      exact q
theorem notInGK {X : Cx} (hK : X.K = K) (hu : X.A.units + 64 < cLine) : OpR X (compareOp .NotIn) (rInG K true) := by
  intro pins s σ H x y v u Q I rx ry h
  subst hK
  obtain ⟨p, ys, n, f, rfl, hq, hn, he, q⟩ := h
  cases ry
  rcases hq with hq | hq
  · obtain ⟨its, r, pl, hz⟩ := I.list hq
    refine SeqAt.notIn_listAt (eU ys f) pl.isList (fun w hw => ?_) ⟨.bl _, H, I, rfl, ?_⟩
    · obtain ⟨z, hz, rz⟩ := vals_mem r w (by simpa using hw)
      rw [eU_of hz rz]
      exact he z hz X pins σ s X.A.in1 _ _ rfl I (by show X.A.units + 1 + n < cLine; omega) rz rx
    · rw [show its.toArray.any (eU ys f) = its.any (eU ys f) by simp, any_eU r fun _ h => h]
      exact q
  · obtain ⟨its, r, pl, hz⟩ := I.tuple hq
    refine SeqAt.notIn_tupleAt (eU ys f) pl (fun w hw => ?_) ⟨.bl _, H, I, rfl, ?_⟩
    · obtain ⟨z, hz, rz⟩ := vals_mem r w (by simpa using hw)
      rw [eU_of hz rz]
      exact he z hz X pins σ s X.A.in1 _ _ rfl I (by show X.A.units + 1 + n < cLine; omega) rz rx
    · rw [show its.toArray.any (eU ys f) = its.any (eU ys f) by simp, any_eU r fun _ h => h]
      exact q
end
end S
namespace S
open PySem PySem.Spec PyProof.Rows L2
/-! ### a list or a tuple that stands still, walked -/
section
variable {X : Cx} {K : Frag}
abbrev SqX (K : Frag) (H : Hp) (a : Addr) (xs : List V) : Prop := SqL K H a xs ∨ SqT K H a xs
theorem SqX.same {H H' : Hp} {a : Addr} {xs : List V} (h : SqX K H a xs) (s : Same H H') : SqX K H' a xs := by
  rcases h with (h | h) | (h | h)
  · rcases h with h | ⟨o, h⟩
    · exact .inl (.inl (.inl (s _ _ h)))
    · exact .inl (.inl (.inr ⟨o, s _ _ h⟩))
  · exact .inl (.inr h)
  · rcases h with h | ⟨o, h⟩
    · exact .inr (.inl (.inl (s _ _ h)))
    · exact .inr (.inl (.inr ⟨o, s _ _ h⟩))
  · exact .inr (.inr h)
theorem sqL_same {H H' : Hp} {a : Addr} {xs : List V} (h : SqL K H a xs) (s : Same H H') : SqL K H' a xs := by
  rcases h with (h | ⟨o, h⟩) | h
  · exact .inl (.inl (s _ _ h))
  · exact .inl (.inr ⟨o, s _ _ h⟩)
  · exact .inr h
theorem sqT_same {H H' : Hp} {a : Addr} {xs : List V} (h : SqT K H a xs) (s : Same H H') : SqT K H' a xs := by
  rcases h with (h | ⟨o, h⟩) | h
  · exact .inl (.inl (s _ _ h))
  · exact .inl (.inr ⟨o, s _ _ h⟩)
  · exact .inr h
def iSeq (K : Frag) (tl : TE) : TI := fun σ H R => tl σ H fun x H1 => ∃ a xs, x = .ref a ∧ SqX K H1 a xs ∧ ∀ J, Walk J xs.length (fun H => Same H1 H) (YAt xs) → R J H1
theorem pi_seqK {tg l : Expr} {tl : TE} (hK : X.K = K) (hl : PE X l tl) : PI X tg l (iSeq K tl) := by
  subst hK
  refine ⟨fun pins s σ H R I h => ?_⟩
  refine thn (hl.run pins s σ H _ I h) fun v s1 ⟨x, H1, I1, r1, q1⟩ => ?_
  obtain ⟨a, xs, e, hq, q⟩ := q1
  subst e
  cases r1
  have fp : ∀ b ∈ [s1.heap.objs.size], FpOk X pins H1 b := fun b hb => by
    have e : b = s1.heap.objs.size := by simpa using hb
    subst e
    exact I1.fpOk (Nat.le_refl _) (I1.hok.fresh (Nat.le_refl _))
  rcases hq with hq | hq
  · obtain ⟨its, rv, p, hz⟩ := I1.list hq
    refine wpAny_pyIter_list p.isList ?_
    exact ⟨s1.heap.objs.size, [s1.heap.objs.size], _, Itl X.K a, H1, rfl, I1.kept (t' := s1.toks) fun b o e => Heap.get?_push_of_some _ e, turn_list a _, ⟨_, Heap.get?_push_size _ rfl, rfl, rfl⟩, fp, q _ (walk_list.mono (fun H s => sqL_same hq s) fun _ _ _ _ _ _ y => y)⟩
  · obtain ⟨its, rv, p, hz⟩ := I1.tuple hq
    refine wpAny_pyIter_tuple (show s1.heap.IsTuple a its.toArray from p) ?_
    exact ⟨s1.heap.objs.size, [s1.heap.objs.size], _, Itt X.K a, H1, rfl, I1.kept (t' := s1.toks) fun b o e => Heap.get?_push_of_some _ e, turn_tuple a _, ⟨_, Heap.get?_push_size _ rfl, rfl, rfl⟩, fp, q _ (walk_tup.mono (fun H s => sqT_same hq s) fun _ _ _ _ _ _ y => y)⟩
theorem slSeqK (hK : X.K = K) : SlR X (fun x lo hi H Q => rSlL K x lo hi H Q ∨ rSlT K x lo hi H Q) := hK ▸ sl_list.or sl_tup
/-- a for over what stands still: one turn reads the item at its place -/
theorem for_seq {J : It} {xs : List V} {H0 : Hp} (w : Walk J xs.length (fun H => Same H0 H) (YAt xs)) {g : TG} {tb : TS} {D : Ends} {σ : L2.St} {H : Hp} (Pv : Nat → L2.St → Hp → Prop) (h0 : Pv 0 σ H) (hG : ∀ i σ H, i ≤ xs.length → Pv i σ H → Same H0 H)
    (hs : ∀ i x σ H, xs[i]? = some x → Pv i σ H → g x σ H fun σ2 H2 => tb { D with nx := Pv (i + 1), ct := Pv (i + 1), bk := D.nx } σ2 H2) (hd : ∀ σ H, Pv xs.length σ H → D.nx σ H) :
    ∃ W : Nat → Nat → L2.St → Hp → Prop, (∃ m, W 0 m σ H) ∧ ∀ i m σ H, W i m σ H →
      (J.stop i H ∧ D.nx σ H) ∨ (J.go i H ∧ ∃ N : L2.St → Hp → Prop, (∀ σ' H', N σ' H' → ∃ m', m' < m ∧ W (i + 1) m' σ' H') ∧ ∀ x H', J.yld i H x H' → g x σ H' fun σ2 H2 => tb { D with nx := N, ct := N, bk := D.nx } σ2 H2) :=
  for_it w Pv h0 hG (fun i x σ H H' _ p y => by obtain ⟨rfl, e⟩ := y; exact hs i x σ _ e p) hd
theorem lc_seq {J : It} {xs : List V} {H0 : Hp} (w : Walk J xs.length (fun H => Same H0 H) (YAt xs)) {g : TG} {tt : TT} {te : TE} {vs : List Nat} {σ : L2.St} {H1 : Hp} {D : Addr} {Qd : Hp → Prop} (Pv : Nat → Hp → Prop) (h0 : Pv 0 (upd H1 D (.lst []))) (hG : ∀ i H, i ≤ xs.length → Pv i H → Same H0 H)
    (hs : ∀ i x H, xs[i]? = some x → Pv i H → g x (wipe σ vs) H fun σ2 H2 => wipe σ2 vs = wipe σ vs ∧ tt σ2 H2 fun b H3 =>
      if b = true then te σ2 H3 fun y H4 => ∃ acc, H4 D = some (.lst acc) ∧ acc.length < sizeLine ∧ Pv (i + 1) (upd H4 D (.lst (acc ++ [y]))) else Pv (i + 1) H3) (hd : ∀ H, Pv xs.length H → Qd H) :
    ∃ W : Nat → Nat → Hp → Prop, (∃ m, W 0 m (upd H1 D (.lst []))) ∧ ∀ i m H, W i m H →
      (J.stop i H ∧ Qd H) ∨ (J.go i H ∧ ∃ Nx : Hp → Prop, (∀ H', Nx H' → ∃ m', m' < m ∧ W (i + 1) m' H') ∧ ∀ x H', J.yld i H x H' → g x (wipe σ vs) H' fun σ2 H2 => wipe σ2 vs = wipe σ vs ∧ tt σ2 H2 fun b H3 =>
        if b = true then te σ2 H3 fun y H4 => ∃ acc, H4 D = some (.lst acc) ∧ acc.length < sizeLine ∧ Nx (upd H4 D (.lst (acc ++ [y]))) else Nx H3) :=
  lc_it w Pv h0 hG (fun i x H H' _ p y => by obtain ⟨rfl, e⟩ := y; exact hs i x _ e p) hd
theorem dc_it {J : It} {n : Nat} {G : Hp → Prop} {Y : Nat → Hp → V → Hp → Prop} (w : Walk J n G Y) {g : TG} {tt : TT} {tk tv : TE} {vs : List Nat} {σ : L2.St} {H1 : Hp} {D : Addr} {Qd : Hp → Prop} (Pv : Nat → Hp → Prop) (h0 : Pv 0 (upd H1 D (.dK []))) (hG : ∀ i H, i ≤ n → Pv i H → G H)
    (hs : ∀ i x H H', i < n → Pv i H → Y i H x H' → g x (wipe σ vs) H' fun σ2 H2 => wipe σ2 vs = wipe σ vs ∧ tt σ2 H2 fun b H3 =>
      if b = true then tk σ2 H3 fun y H4 => tv σ2 H4 fun z H5 => ∃ kvs k, y = kV k ∧ H5 D = some (.dK kvs) ∧ kvs.length < sizeLine ∧ Pv (i + 1) (upd H5 D (.dK (putK kvs k z))) else Pv (i + 1) H3) (hd : ∀ H, Pv n H → Qd H) :
    ∃ W : Nat → Nat → Hp → Prop, (∃ m, W 0 m (upd H1 D (.dK []))) ∧ ∀ i m H, W i m H →
      (J.stop i H ∧ Qd H) ∨ (J.go i H ∧ ∃ Nx : Hp → Prop, (∀ H', Nx H' → ∃ m', m' < m ∧ W (i + 1) m' H') ∧ ∀ x H', J.yld i H x H' → g x (wipe σ vs) H' fun σ2 H2 => wipe σ2 vs = wipe σ vs ∧ tt σ2 H2 fun b H3 =>
        if b = true then tk σ2 H3 fun y H4 => tv σ2 H4 fun z H5 => ∃ kvs k, y = kV k ∧ H5 D = some (.dK kvs) ∧ kvs.length < sizeLine ∧ Nx (upd H5 D (.dK (putK kvs k z))) else Nx H3) := by
  refine ⟨fun i m H => m = n - i ∧ i ≤ n ∧ Pv i H, ⟨n, by simp, Nat.zero_le _, h0⟩, ?_⟩
  rintro i m H ⟨rfl, hi, p⟩
  have q := hG i H hi p
  by_cases hlt : i < n
  · exact .inr ⟨w.goes i H hlt q, Pv (i + 1), fun H' p' => ⟨n - (i + 1), by omega, rfl, hlt, p'⟩, fun x H' y => hs i x H H' hlt p (w.yields i H x H' hlt q y)⟩
  · have e : i = n := by omega
    subst e
    exact .inl ⟨w.stops H q, hd H p⟩
end
/-! ### o[i], x in o, len(o), by own defs of a plain class -/
section
variable {X : Cx} {n : Nat} {C g : Addr} {sp : Sp} {E : L2.St → XK}
theorem run_in1 {pins : List (Addr × Obj)} {σ : L2.St} {H : Hp} {s : Shared} {Q : VK} {us : List Value} {vs : List V} (F : FnR X.prog X.w X.K X.mg X.base (L2.CX X.prog X.w) n g sp) (hr : Room n X.A.in1) (I : Inv X pins σ H s) (hx : PassesAt (L2.CX X.prog X.w) X σ (E σ)) (r : Vals vs us) (h : sp vs H Q (E σ)) :
    codeAny (model X.prog X.w) X.A.in1 (.call (.ref g) ⟨us, []⟩) (fun r s' => match r with | .ok (.ret v) => EP X pins σ Q v s' | .ok _ => False | .error e => X.xe e s') s := by
  refine codeAny_mono (F X.A.in1 X.stack s H us vs Q (E σ) hr I.env0.in1 r h) fun r s' hq => ?_
  cases r with
  | error e => exact hx pins H s e s' I hq
  | ok fl =>
    cases fl with
    | ret u => exact I.after hq
    | next => exact False.elim hq
    | brk => exact False.elim hq
    | cont => exact False.elim hq
theorem run_at0 {pins : List (Addr × Obj)} {σ : L2.St} {H : Hp} {s : Shared} {Q : VK} {us : List Value} {vs : List V} (F : FnR X.prog X.w X.K X.mg X.base (L2.CX X.prog X.w) n g sp) (hr : Room n X.A) (I : Inv X pins σ H s) (hx : PassesAt (L2.CX X.prog X.w) X σ (E σ)) (r : Vals vs us) (h : sp vs H Q (E σ)) :
    codeAny (model X.prog X.w) X.A (.call (.ref g) ⟨us, []⟩) (fun r s' => match r with | .ok (.ret v) => EP X pins σ Q v s' | .ok _ => False | .error e => X.xe e s') s := by
  refine codeAny_mono (F X.A X.stack s H us vs Q (E σ) hr I.env0 r h) fun r s' hq => ?_
  cases r with
  | error e => exact hx pins H s e s' I hq
  | ok fl =>
    cases fl with
    | ret u => exact I.after hq
    | next => exact False.elim hq
    | brk => exact False.elim hq
    | cont => exact False.elim hq
def tIxO (C : Addr) (sp : Sp) (E : L2.St → XK) (ta tb : TE) : TE := fun σ H Q => ta σ H fun x H1 => tb σ H1 fun y H2 => ∃ a dx fs, x = .ref a ∧ H2 a = some (.ins C dx fs) ∧ sp [.ref a, y] H2 Q (E σ)
theorem pe_ixO {a b : Expr} {ta tb : TE} {pos : Pos} (hs : PySem.W.findIn X.K (.ref C) "__getitem__" = some (some (.ref g))) (hf : PySem.W.fnIn X.K g = true) (hfn : PySem.W.isFn X.K (.ref g) = true)
    (F : FnR X.prog X.w X.K X.mg X.base (L2.CX X.prog X.w) n g sp) (hr : Room (n + 1) X.A) (hx : ∀ σ, PassesAt (L2.CX X.prog X.w) X σ (E σ)) (ha : PE X a ta) (hb : PE X b tb)
    (hsl : ∀ v i, subscripted b true v i = runValue (.builtin "lifetime.subscript" ⟨[v, i], []⟩) := by intro _ _; with_unfolding_all rfl) : PE X (.Subscript a b pos) (tIxO C sp E ta tb) := by
  refine ⟨fun pins s σ H Q I h => ?_⟩
  refine Subscript_ (binT ha hb I h fun v u s2 x y H2 I2 rx ry q => ?_)
  obtain ⟨p, dx, fs, rfl, ep, q⟩ := q
  cases (show v = Value.ref p from rx)
  obtain ⟨mA, O, _⟩ := ins_get I2.hok ep
  obtain ⟨od, J, _⟩ := O.look
  obtain ⟨m, hF⟩ := I2.fr
  refine PySem.W.sub_K hF I2.ok.mod.kin J hs hf hfn ?_ (hsl _ _)
  exact wpAny_call (run_in1 (us := [.ref p, u]) (vs := [.ref p, y]) F hr.in1 I2 (hx σ) (.cons rfl (.cons ry .nil)) q)
/-- x in o: the own def answers with a bool -/
def rInC (C : Addr) (sp : Sp) (neg : Bool) : R2 := fun x y H Q => ∃ a dx fs, y = .ref a ∧ H a = some (.ins C dx fs) ∧ sp [.ref a, x] H (fun z H2 => ∃ r, z = .bl r ∧ Q (.bl (if neg then !r else r)) H2) E0
theorem op_inC (hs : PySem.W.findIn X.K (.ref C) "__contains__" = some (some (.ref g))) (hfn : PySem.W.isFn X.K (.ref g) = true) (F : FnR X.prog X.w X.K X.mg X.base (L2.CX X.prog X.w) n g sp) (hr : Room n X.A) : OpR X (compareOp .In) (rInC C sp false) := by
  intro pins s σ H x y v u Q I rx ry h
  obtain ⟨a, dx, fs, rfl, ea, q⟩ := h
  cases (show u = Value.ref a from ry)
  obtain ⟨mA, O, _⟩ := ins_get I.hok ea
  obtain ⟨od, J, _⟩ := O.look
  obtain ⟨m, hF⟩ := I.fr
  refine PySem.W.in_K hF I.ok.mod.kin J hs hfn ?_
  refine wpAny_mono (wpAny_call (run_at0 (E := fun _ => E0) (us := [.ref a, v]) (vs := [.ref a, x]) F hr I (pas0 σ) (.cons rfl (.cons rx .nil)) q)) (fun w s' z => ?_) fun _ _ x => x
  obtain ⟨z2, H2, I2, rz, r, rfl, qz⟩ := z
  cases (show w = Value.bool r from rz)
  exact wpAny_truthy_bool ⟨.bl r, H2, I2, rfl, qz⟩
theorem op_notInC (hs : PySem.W.findIn X.K (.ref C) "__contains__" = some (some (.ref g))) (hfn : PySem.W.isFn X.K (.ref g) = true) (F : FnR X.prog X.w X.K X.mg X.base (L2.CX X.prog X.w) n g sp) (hr : Room n X.A) : OpR X (compareOp .NotIn) (rInC C sp true) := by
  intro pins s σ H x y v u Q I rx ry h
  obtain ⟨a, dx, fs, rfl, ea, q⟩ := h
  cases (show u = Value.ref a from ry)
  obtain ⟨mA, O, _⟩ := ins_get I.hok ea
  obtain ⟨od, J, _⟩ := O.look
  obtain ⟨m, hF⟩ := I.fr
  refine PySem.W.notIn_K hF I.ok.mod.kin J hs hfn ?_
  refine wpAny_mono (wpAny_call (run_at0 (E := fun _ => E0) (us := [.ref a, v]) (vs := [.ref a, x]) F hr I (pas0 σ) (.cons rfl (.cons rx .nil)) q)) (fun w s' z => ?_) fun _ _ x => x
  obtain ⟨z2, H2, I2, rz, r, rfl, qz⟩ := z
  cases (show w = Value.bool r from rz)
  exact wpAny_truthy_bool ⟨.bl (!r), H2, I2, rfl, qz⟩
def rLenO (C : Addr) (sp : Sp) : List V → Hp → VK → Prop := fun xs H Q => ∃ a dx fs, xs = [.ref a] ∧ H a = some (.ins C dx fs) ∧ sp [.ref a] H (fun z H2 => ∃ i : Int, z = .int i ∧ 0 ≤ i ∧ i < 2 ^ 63 ∧ Q (.int i) H2) E0
theorem call_lenO (hs : PySem.W.findIn X.K (.ref C) "__len__" = some (some (.ref g))) (hfn : PySem.W.isFn X.K (.ref g) = true) (F : FnR X.prog X.w X.K X.mg X.base (L2.CX X.prog X.w) n g sp) (hr : Room (n + 1) X.A) : CallR X (.builtin "len") (rLenO C sp) := by
  intro pins s σ H xs us Q I r h
  obtain ⟨a, dx, fs, rfl, ea, q⟩ := h
  cases r with
  | cons r1 r2 =>
    cases r2
    cases r1
    obtain ⟨mA, O, _⟩ := ins_get I.hok ea
    obtain ⟨od, J, _⟩ := O.look
    obtain ⟨m, hF⟩ := I.fr
    refine PySem.W.len_K hF I.ok.mod.kin J hs hfn ?_
    refine wpAny_mono (wpAny_call (run_in1 (E := fun _ => E0) (us := [.ref a]) (vs := [.ref a]) F hr.in1 I (pas0 σ) (.cons rfl .nil) q)) (fun w s' z => ?_) fun _ _ x => x
    obtain ⟨z2, H2, I2, rz, i, rfl, l0, l1, qz⟩ := z
    obtain ⟨t, rfl⟩ := (show ∃ t, w = Value.int i t from rz)
    exact ⟨⟨l0, l1⟩, .int i, H2, I2.tok _, ⟨_, rfl⟩, qz⟩
end
end S
namespace S
open PySem PySem.Spec PyProof.Rows L2
section
variable {X : Cx} {K : Frag}
theorem yesT {σ : L2.St} {H : Hp} {R : Bool → Hp → Prop} (h : R true H) : tYes σ H R := h
theorem listOfK (hK : X.K = K) : CallR X (.type "list") (fun xs H Q => ∃ p ys, xs = [.ref p] ∧ (SqL K H p ys ∨ SqT K H p ys) ∧ ∀ l, H l = none → Q (.ref l) (upd H l (.lst ys))) := hK ▸ call_list_of
theorem tupOfK (hK : X.K = K) : CallR X (.type "tuple") (fun xs H Q => ∃ p ys, xs = [.ref p] ∧ ((SqL K H p ys ∧ ∀ l, H l = none → Q (.ref l) (upd H l (.tup ys))) ∨ (SqT K H p ys ∧ Q (.ref p) H))) := hK ▸ call_tuple_of
/-! readings of a list or tuple that stands -/
theorem ixX {H : Hp} {a : Addr} {xs : List V} {v : V} {i : Int} {Q : VK} (h : SqX K H a xs) (e : atI xs i = some v) (q : Q v H) : rIx K (.ref a) (.int i) H Q := by
  rcases h with h | h
  · exact .inl ⟨a, _, _, _, rfl, rfl, h, e, q⟩
  · exact .inr (.inl ⟨a, _, _, _, rfl, rfl, h, e, q⟩)
theorem lenVX {H : Hp} {a : Addr} {xs : List V} (h : SqX K H a xs) : LenV K (.ref a) H xs.length := by
  rcases h with h | h
  · exact .inl ⟨_, h, rfl⟩
  · exact .inr ⟨_, h, rfl⟩
theorem sIx_nat {n d i : Nat} (h : i ≤ n) : HT.sIx n d (some (i : Int)) = i := by
  simp only [HT.sIx]
  split <;> omega
theorem cut_take (xs : List V) {i : Nat} (h : i ≤ xs.length) : cutV xs none (some (i : Int)) = xs.take i := by
  unfold cutV
  have e1 : HT.sIx xs.length 0 none = 0 := rfl
  have e2 : HT.sIx xs.length xs.length (some (i : Int)) = i := sIx_nat h
  rw [e1, e2]
  simp
theorem cut_drop (xs : List V) {i : Nat} (h : i ≤ xs.length) : cutV xs (some (i : Int)) none = xs.drop i := by
  unfold cutV
  have e1 : HT.sIx xs.length xs.length none = xs.length := rfl
  have e2 : HT.sIx xs.length 0 (some (i : Int)) = i := sIx_nat h
  rw [e1, e2]
  rw [List.take_of_length_le (by rw [List.length_drop]; exact Nat.le_refl _)]
theorem sl_takeX {H : Hp} {a : Addr} {xs : List V} {i : Nat} {Q : VK} (h : SqX K H a xs) (hi : i < xs.length) (q : ∀ p H', H p = none → Same H H' → SqX K H' p (xs.take i) → Q (.ref p) H') : rSlL K (.ref a) none (some (i : Int)) H Q ∨ rSlT K (.ref a) none (some (i : Int)) H Q := by
  rcases h with h | h
  · refine .inl ⟨a, xs, rfl, h, fun p hp => q p _ hp (Same.new hp) (.inl (.inl (.inl ?_)))⟩
    rw [cut_take xs (Nat.le_of_lt hi), upd_same]
  · refine .inr ⟨a, xs, rfl, h, ?_, fun p hp => q p _ hp (Same.new hp) (.inr (.inl (.inl ?_)))⟩
    · rintro ⟨_, e⟩
      have e2 : HT.sIx xs.length xs.length (some (i : Int)) = i := sIx_nat (Nat.le_of_lt hi)
      omega
    · rw [cut_take xs (Nat.le_of_lt hi), upd_same]
/-! flat things -/
theorem eg_str {H : Hp} {n : Nat} {a b : Str} : EqG K H n (.str a) (.str b) (decide (a = b)) := by
  have h := eg_dat (K := K) (H := H) (.str a) (.str b) rfl rfl
  refine (h.to ?_).up (by simp [PyData.depth])
  simp only [PyData.eqv]
  rw [Bool.eq_iff_iff]
  simp
theorem eg_int {H : Hp} {n : Nat} {a b : Int} : EqG K H n (.int a) (.int b) (decide (a = b)) := by
  have h := eg_dat (K := K) (H := H) (.int a) (.int b) rfl rfl
  refine (h.to ?_).up (by simp [PyData.depth])
  simp only [PyData.eqv]
  rw [Bool.eq_iff_iff]
  simp
theorem eg_bl {H : Hp} {n : Nat} {a b : Bool} : EqG K H n (.bl a) (.bl b) (decide (a = b)) := by
  have h := eg_dat (K := K) (H := H) (.bl a) (.bl b) rfl rfl
  refine (h.to ?_).up (by simp [PyData.depth])
  simp only [PyData.eqv]
  rw [Bool.eq_iff_iff]
  simp
/-- texts, pair by pair -/
theorem pairs_str {ws zs : List Str} : pairs (fun i => decide (ws[i]? = zs[i]?)) (ws.map V.str) (zs.map V.str) = decide (ws = zs) := by
  unfold pairs
  rw [List.length_map, List.length_map, Bool.eq_iff_iff]
  simp only [Bool.and_eq_true, decide_eq_true_eq, List.all_eq_true, List.mem_range]
  constructor
  · rintro ⟨hl, h⟩
    refine List.ext_getElem? fun i => ?_
    by_cases c : i < ws.length
    · exact h i c
    · rw [List.getElem?_eq_none (by omega), List.getElem?_eq_none (by omega)]
  · rintro rfl
    exact ⟨rfl, fun _ _ => rfl⟩
theorem str_pair {H : Hp} {n : Nat} {ws zs : List Str} (i : Nat) (p q : V) (hp : (ws.map V.str)[i]? = some p) (hq : (zs.map V.str)[i]? = some q) : EqOk K H n p q (decide (ws[i]? = zs[i]?)) := by
  rw [List.getElem?_map] at hp hq
  obtain ⟨a, ha, rfl⟩ := Option.map_eq_some_iff.mp hp
  obtain ⟨b, hb, rfl⟩ := Option.map_eq_some_iff.mp hq
  rw [ha, hb]
  refine eg_str.at_.to ?_
  simp
/-- two tuples of texts, two lists of texts -/
theorem eg_tups {H : Hp} {n : Nat} {a c : Addr} {ws zs : List Str} (ha : SqT K H a (ws.map V.str)) (hc : SqT K H c (zs.map V.str)) (hab : a = c → ws = zs) : EqG K H (n + 1) (.ref a) (.ref c) (decide (ws = zs)) :=
  (eg_tup ha hc str_pair fun e => by rw [pairs_str]; exact decide_eq_true (hab e)).to pairs_str
theorem eg_lsts {H : Hp} {n : Nat} {a c : Addr} {ws zs : List Str} (ha : SqL K H a (ws.map V.str)) (hc : SqL K H c (zs.map V.str)) (hab : a = c → ws = zs) : EqG K H (n + 1) (.ref a) (.ref c) (decide (ws = zs)) :=
  (eg_list ha hc str_pair fun e => by rw [pairs_str]; exact decide_eq_true (hab e)).to pairs_str
theorem mapS_inj {ws zs : List Str} (h : ws.map V.str = zs.map V.str) : ws = zs := (List.map_inj_right (fun _ _ e => by injection e)).mp h
theorem eg_flat {H : Hp} {n : Nat} {x y : V} (hx : flatV x = true) (hy : flatV y = true) : EqOk K H n x y (eqV x y) := fun X pins σ s A v u _ I hu rv ru => eqAt_V rv ru hx hy
end
end S
namespace S
open PySem PySem.Spec PyProof.Rows L2
section
variable {X : Cx} {K : Frag}
theorem slTwK (hK : X.K = K) : SlR X (rSlA K) := hK ▸ sl_tupA
theorem catTK (hK : X.K = K) : OpR X (binaryOp .Add) (rCatA K) := hK ▸ op_catA
theorem sl_Tt {H : Hp} {a : Addr} {xs : List V} {lo hi : Option Int} {Q : VK} (h : H a = some (.tup xs)) (q : ∀ p H', Same H H' → H' p = some (.tup (cutV xs lo hi)) → Q (.ref p) H') : rSlA K (.ref a) lo hi H Q := by
  refine ⟨a, xs, rfl, .inl (.inl h), fun e => q a H (fun _ _ z => z) ?_, fun _ p hp => q p _ (Same.new hp) upd_same⟩
  rw [h]
  unfold cutV
  rw [e.1, e.2]
  simp
theorem cat_Tt {H : Hp} {a b : Addr} {xs ys : List V} {Q : VK} (h : H a = some (.tup xs)) (h' : H b = some (.tup ys)) (hl : xs.length + ys.length ≤ 1000) (q : ∀ p H', Same H H' → H' p = some (.tup (xs ++ ys)) → Q (.ref p) H') : rCatA K (.ref a) (.ref b) H Q := by
  refine ⟨a, b, xs, ys, rfl, rfl, .inl (.inl h), .inl (.inl h'), Nat.le_trans hl (by decide), fun e => q b H (fun _ _ z => z) ?_, fun _ e => q a H (fun _ _ z => z) ?_, fun _ _ p hp => q p _ (Same.new hp) upd_same⟩
  · rw [h', e]; rfl
  · rw [h, e, List.append_nil]
end
end S
namespace S
open PySem PySem.Spec PyProof.Rows L2
/-! ### several except clauses, each with a name or with none -/
/-- an error of the body has come to the clauses -/
structure Lnd (X : Cx) (pins : List (Addr × Obj)) (σ : L2.St) (H : Hp) (a : Addr) (cls : Value) (d : Option Addr) (B : Heap) (t s : Shared) : Prop where
  inv : Inv X pins σ H t
  nb : ∀ b o, t.heap.get? b = some o → b ∉ frs X.stack → B.get? b = some o
  up : t.heap.UpToSlots s.heap
  fl : HandSPX.FlyingZ B (X.env :: X.outer) a (Zc cls d) s.heap
  na : H a = none
  os : s.os = t.os
  ag : AllBare s.gens
section
variable {X : Cx} {pins : List (Addr × Obj)} {σ : L2.St} {H : Hp} {a : Addr} {cls : Value} {d : Option Addr} {B : Heap} {t s : Shared}
theorem Lnd.here (l : Lnd X pins σ H a cls d B t s) : Inv X pins σ H s := by
  exact l.inv.landed l.nb l.fl.1 l.up l.os l.ag
theorem Lnd.lay (hs : X.stack = X.env :: X.outer) (hf : X.env.frame = some X.env.locals) (l : Lnd X pins σ H a cls d B t s) :
    ∃ o, s.heap.get? a = some o ∧ Zc cls d o ∧ (∃ vs, o.data = .fields vs) ∧ Inv (X.suite a ((a, o) :: (X.pn ++ pins))) [] σ H s := by
  obtain ⟨o, vs, e1, e2, e3⟩ := l.fl.there
  have out : a ∉ frs (X.env :: X.outer) := fun m => by
    obtain ⟨_, o2, e4, no⟩ := l.fl.2.2.1.mem m
    rw [e1] at e4
    cases e4
    exact no _ e3
  have n1 : a ≠ X.env.locals := fun z => out (List.mem_filterMap.mpr ⟨X.env, List.mem_cons_self, by rw [hf, z]⟩)
  have n2 : a ∉ X.fs := fun m => by
    obtain ⟨v, hv, z⟩ := List.mem_filterMap.mp m
    exact out (List.mem_filterMap.mpr ⟨v, List.mem_cons_of_mem _ hv, z⟩)
  exact ⟨o, e1, e2, ⟨vs, e3⟩, l.here.suite e1 e3 l.na n1 n2⟩
theorem Lnd.again {M : Model} {A : Around} {E : Value → Shared → Prop} {Q : Unit → Shared → Prop} (l : Lnd X pins σ H a cls d B t s)
    (q : ∀ h', Lnd X pins σ H a cls d B t { s with heap := h' } → Q () { s with heap := h' }) : wpAny M A (setFlight (.ref a) none) Q E s :=
  HandSPX.lands_againZ l.fl fun h' f u => q h' ⟨l.inv, l.nb, l.up.trans u, f, l.na, l.os, l.ag⟩
theorem Lnd.pass {W : WX} {D : Ends} (hs : X.stack = X.env :: X.outer) (hf : X.env.frame = some X.env.locals) (tk : Takes X W) (l : Lnd X pins σ H a cls d B t s) (w : W cls d σ H) :
    wpAny (model X.prog X.w) X.A (handleBy (.ref a) X.env []) (SP X pins D) X.xe s := by
  refine wpAny_handleBy_nil ?_
  obtain ⟨_, _, _, _, vs, T, _, _, g1, _, g2, g3, _⟩ := id l.fl
  unfold PySem.passOn
  refine wpAny_bind (wpAny_field g1 g2 g3 ?_)
  rw [if_neg (by simp : ¬ ((Value.ref T == Value.none) = true))]
  have last : wpAny (model X.prog X.w) X.A (setFlight (.ref a) X.env.frame) (fun _ s4 => wpAny (model X.prog X.w) X.A (throw (.ref a) : Sem Flow) (SP X pins D) X.xe s4) X.xe s := by
    rw [hf]
    exact HandSPX.setFlight_upZ l.fl fun h4 g u => wpAny_throw (tk _ _ ⟨a, B, t, pins, σ, H, cls, d, rfl, l.inv, l.nb, l.up.trans u, .inr (.inr (by rw [hs]; exact g)), l.na, l.os, l.ag, w⟩)
  first
    | exact wpAny_bind last
    | exact wpAny_bind (wpAny_pure (wpAny_bind last))
end
/-- a clause: its class, the slot of its name, its suite -/
structure Cl where
  c : Value
  i : Option Nat
  ts : Addr → Value → Option Addr → TS
/-- what the clauses wish of an error of the body -/
def wCl (K : Frag) (W : WX) (D : Ends) : List Cl → WX
  | [] => W
  | ⟨c, some i, ts⟩ :: r => fun cls d σ H => ∃ b, PySem.W.exmOne K cls c = some b ∧
      (b = true → ∀ a, H a = none → ts a cls d { nx := fun τ J => D.nx (τ.set i none) J, rt := D.rt, bk := fun τ J => D.bk (τ.set i none) J, ct := fun τ J => D.ct (τ.set i none) J } (σ.set i (some (.ref a))) H) ∧ (b = false → wCl K W D r cls d σ H)
  | ⟨c, none, ts⟩ :: r => fun cls d σ H => ∃ b, PySem.W.exmOne K cls c = some b ∧ (b = true → ∀ a, H a = none → ts a cls d D σ H) ∧ (b = false → wCl K W D r cls d σ H)
inductive ClOk (X : Cx) : List ExceptHandler → List Cl → Prop
  | nil : ClOk X [] []
  | as_ {x n : Str} {c : Value} {i : Nat} {ts : Addr → Value → Option Addr → TS} {b : Stmt} {bs : List Stmt} {np p : Pos} {hds : List ExceptHandler} {l : List Cl} (hN : X.N.Nodup) (hi : X.N[i]? = some n) (hl : X.env.kindOf n = some .local) (hc : Names X x c)
      (hsu : ∀ (a : Addr) (oe : Obj) (cls : Value) (d : Option Addr) (pn : List (Addr × Obj)), Zc cls d oe → (∃ vs, oe.data = .fields vs) → PSs (X.suite a ((a, oe) :: pn)) (b :: bs) (ts a cls d)) (r : ClOk X hds l) :
      ClOk X (.ExceptHandler (some (.Name x np)) (some n) (b :: bs) p :: hds) (⟨c, some i, ts⟩ :: l)
  | only {x : Str} {c : Value} {ts : Addr → Value → Option Addr → TS} {b : Stmt} {bs : List Stmt} {np p : Pos} {hds : List ExceptHandler} {l : List Cl} (hc : Names X x c)
      (hsu : ∀ (a : Addr) (oe : Obj) (cls : Value) (d : Option Addr) (pn : List (Addr × Obj)), Zc cls d oe → (∃ vs, oe.data = .fields vs) → PSs (X.suite a ((a, oe) :: pn)) (b :: bs) (ts a cls d)) (r : ClOk X hds l) :
      ClOk X (.ExceptHandler (some (.Name x np)) none (b :: bs) p :: hds) (⟨c, none, ts⟩ :: l)
section
variable {X : Cx} {pins : List (Addr × Obj)} {σ : L2.St} {H : Hp} {a : Addr} {cls : Value} {d : Option Addr} {B : Heap} {t s : Shared}
/-- the class that a clause names is looked at -/
theorem Lnd.name {x : Str} {np : Pos} {c : Value} {Q : Value → Shared → Prop} {E : Value → Shared → Prop} (hs : X.stack = X.env :: X.outer) (hf : X.env.frame = some X.env.locals) (l : Lnd X pins σ H a cls d B t s) (hc : Names X x c) (q : Q c s) :
    wpAny (model X.prog X.w) (X.A.mark (some (.ref a))) (eval (.Name x np) X.env) Q E s := by
  obtain ⟨o, e1, e2, _, I⟩ := l.lay hs hf
  obtain ⟨g1, g2, g3 | ⟨g3, g4, g5⟩⟩ := hc
  · exact ld_glob (X := X.suite a ((a, o) :: (X.pn ++ pins))) I g1 g3 q g2
  · exact ld_blt (X := X.suite a ((a, o) :: (X.pn ++ pins))) I g1 g3 g4 q g5 g2
theorem Lnd.asks {A : Around} {c : Value} {b : Bool} {Q : Bool → Shared → Prop} {E : Value → Shared → Prop} (hs : X.stack = X.env :: X.outer) (hf : X.env.frame = some X.env.locals) (l : Lnd X pins σ H a cls d B t s) (e : PySem.W.exmOne X.K cls c = some b) (q : Q b s) :
    wpAny (model X.prog X.w) A (excMatches (.ref a) c) Q E s := by
  obtain ⟨o, e1, e2, _, I⟩ := l.lay hs hf
  have ty : PySem.W.Looks (model X.prog X.w) s.heap (typeOf (.ref a)) cls := fun A Q E s' k z => wpAny_typeOf_ref (k _ _ e1) (by rw [e2.1]; exact z)
  exact (PySem.W.exm_one (M := model X.prog X.w) l.here.kIn ty e).here q
theorem Lnd.by_ {W : WX} {D : Ends} (hs : X.stack = X.env :: X.outer) (hf : X.env.frame = some X.env.locals) (tk : Takes X W) :
    ∀ {hds : List ExceptHandler} {l : List Cl}, ClOk X hds l → ∀ {s : Shared}, Lnd X pins σ H a cls d B t s → wCl X.K W D l cls d σ H → wpAny (model X.prog X.w) X.A (handleBy (.ref a) X.env hds) (SP X pins D) X.xe s := by
  intro hds l hk
  induction hk with
  | nil => exact fun L w => L.pass hs hf tk w
  | as_ hN hi hl hc hsu r ih =>
    intro s L w
    obtain ⟨b, e, yes, no⟩ := w
    refine wpAny_handleBy_cons (codeAny_handlers_test (L.name hs hf hc (L.asks hs hf e ?_))) (by intro q; cases q)
    cases b with
    | false => exact ih L (no rfl)
    | true =>
      refine codeAny_handlers_suite_as (L.again fun h' L' => ?_)
      obtain ⟨o, _, hz, hv, I⟩ := L'.lay hs hf
      refine store_ok (X := X.suite a ((a, o) :: (X.pn ++ pins))) (v := .ref a) I hN hi (.inl hl) rfl (fun s5 I5 => ?_) (.inr hl)
      refine wpAny_mono ((hsu a o cls d _ hz hv).run [] s5 _ H _ I5 (yes rfl a L.na)) (fun f s6 z => ?_) fun _ _ z => False.elim z
      match f, z with
      | .next, ⟨τ, J, I6, k⟩ => exact gone_ok (I6.unsuite L.inv.ok) hN hi hl fun s7 I7 => ⟨_, _, I7, k⟩
      | .brk, ⟨τ, J, I6, k⟩ => exact gone_ok (I6.unsuite L.inv.ok) hN hi hl fun s7 I7 => ⟨_, _, I7, k⟩
      | .cont, ⟨τ, J, I6, k⟩ => exact gone_ok (I6.unsuite L.inv.ok) hN hi hl fun s7 I7 => ⟨_, _, I7, k⟩
      | .ret u, ⟨v, τ, J, I6, rv, k⟩ => exact gone_ok (I6.unsuite L.inv.ok) hN hi hl fun s7 I7 => ⟨_, _, _, I7, rv, k⟩
  | only hc hsu r ih =>
    intro s L w
    obtain ⟨b, e, yes, no⟩ := w
    refine wpAny_handleBy_cons (codeAny_handlers_test (L.name hs hf hc (L.asks hs hf e ?_))) (by intro q; cases q)
    cases b with
    | false => exact ih L (no rfl)
    | true =>
      refine codeAny_handlers_suite (L.again fun h' L' => ?_)
      obtain ⟨o, _, hz, hv, I⟩ := L'.lay hs hf
      refine wpAny_mono ((hsu a o cls d _ hz hv).run [] _ _ H _ I (yes rfl a L.na)) (fun f s6 z => ?_) fun _ _ z => False.elim z
      match f, z with
      | .next, ⟨τ, J, I6, k⟩ => exact ⟨_, _, I6.unsuite L.inv.ok, k⟩
      | .brk, ⟨τ, J, I6, k⟩ => exact ⟨_, _, I6.unsuite L.inv.ok, k⟩
      | .cont, ⟨τ, J, I6, k⟩ => exact ⟨_, _, I6.unsuite L.inv.ok, k⟩
      | .ret u, ⟨v, τ, J, I6, rv, k⟩ => exact ⟨_, _, _, I6.unsuite L.inv.ok, rv, k⟩
theorem ps_try_cl {W : WX} {body : List Stmt} {h0 : ExceptHandler} {hds : List ExceptHandler} {l : List Cl} {tb : WX → TS} {pos : Pos} (hs : X.stack = X.env :: X.outer) (hf : X.env.frame = some X.env.locals) (tk : Takes X W)
    (hb : ∀ (W' : WX) (pn : List (Addr × Obj)) (xe : Value → Shared → Prop), Takes (X.tr pn xe) W' → PassesOwn (model X.prog X.w) X.A X.env xe → PSs (X.tr pn xe) body (tb W'))
    (hh : ClOk X (h0 :: hds) l) : PS X (.Try body (h0 :: hds) [] [] pos) (fun D σ H => tb (wCl X.K W D l) D σ H) := by
  refine ⟨fun pins s σ H D I h => wpAny_Try_except ?_⟩
  have fr : X.A.frames = some (X.env :: X.outer) := by rw [I.ok.frames, hs]
  refine wpAny_mono ((hb (wCl X.K W D l) (X.pn ++ pins) (fun e s1 => wpAny (model X.prog X.w) X.A (noteFrame e X.env) (fun _ s2 => wpAny (model X.prog X.w) X.A (setFlight e none) (fun _ s3 =>
    wpAny (model X.prog X.w) X.A (handleBy e X.env (h0 :: hds)) (SP X pins D) X.xe s3) X.xe s2) X.xe s1) (fun u s' xx => ?_) PassesOwn.looking).run [] s σ H D (I.toTry _) h) (fun f s1 z => ?_) fun _ _ z => z
  · obtain ⟨a, B, t, pins2, τ, J, cls, d, rfl, I2, nb, up, sky, na, os, ag, w⟩ := xx
    refine Sky.land Zc.steady fr hf (by rw [← hs]; exact sky) fun h3 f3 u3 => ?_
    exact Lnd.by_ (a := a) (cls := cls) (d := d) (B := B) (t := t) hs hf tk hh ⟨I2.ofTry I.ok, nb, up.trans u3, f3, na, os, ag⟩ w
  · match f, z with
    | .next, ⟨τ, J, I2, k⟩ => exact wpAny_execs_nil ⟨τ, J, I2.ofTry I.ok, k⟩
    | .brk, ⟨τ, J, I2, k⟩ => exact ⟨τ, J, I2.ofTry I.ok, k⟩
    | .cont, ⟨τ, J, I2, k⟩ => exact ⟨τ, J, I2.ofTry I.ok, k⟩
    | .ret u, ⟨v, τ, J, I2, rv, k⟩ => exact ⟨v, τ, J, I2.ofTry I.ok, rv, k⟩
end
end S
namespace S
open PySem PySem.Spec PyProof.Rows L2
/-! ### a dict beside a thing of another kind: not equal -/
section
open PySem.SeqAt
variable {prog : Program} {w : World} {A : Around} {E : Value → Shared → Prop} {s : Shared}
/-- a dict stands at d -/
def DkO (s : Shared) (d : Addr) : Prop := ∃ es ep, s.heap.get? d = some ⟨.type "dict", none, .dict es ep, #[]⟩
theorem DkO.ty {d : Addr} (h : DkO s d) : s.TypeIs (.ref d) "dict" := by
  obtain ⟨es, ep, e⟩ := h
  exact ⟨_, e, rfl⟩
theorem dict_no {d : Addr} {y : Value} {T : String} {Q : Value → Shared → Prop} (hd : s.TypeIs (.ref d) "dict") (hy : s.TypeIs y T) (hs : isSubtype (.type T) (.type "dict") = pure false) (q : Q .notImplemented s)
    {name : Str} (sl : Slot "dict" name "dict.__eq__") : wpAny (model prog w) A (call (.builtin "dict.__eq__") [.ref d, y]) Q E s := by
  refine wpAny_call_entry sl hd PySem.F.entry_dict_eq ?_ (PySem.F.args_dict_eq_2 _ _)
  show wpAny _ _ (Builtin.Dict.dictSlotArgs "__eq__" ⟨[.ref d, y], []⟩ >>= _) _ _ s
  refine wpAny_bind ?_
  unfold Builtin.Dict.dictSlotArgs
  refine wpAny_bind (wpAny_notOrdered_dict hd ?_)
  show wpAny _ _ (pure (Value.ref d, y)) _ _ s
  refine wpAny_pure (wpAny_bind (wpAny_isInstance (T := T) hy hs ?_))
  simp only [Bool.not_false, if_true]
  exact wpAny_bind (wpAny_rule (wpAny_pure ⟨_, rfl, q⟩))
theorem no_int (i : Int) (u : Tok) {d : Addr} {es : Array DictEntry} {ep : Nat} : Meets (Builtin.«int.__eq__» ⟨[.int i u, .ref d], []⟩) (fun _ R s => s.heap.get? d = some ⟨.type "dict", none, .dict es ep, #[]⟩ ∧ R (.ok (.ret .notImplemented)) s) :=
  .of_wp fun prog w A R s ⟨hl, h⟩ => by obtain ⟨hp, g, dd, tk, os⟩ := s; wp_walk using wpAny_loadPart' hl, wpAny_load hl; exact ⟨_, rfl, h⟩
theorem no_bool (b : Bool) {d : Addr} {es : Array DictEntry} {ep : Nat} : Meets (Builtin.«int.__eq__» ⟨[.bool b, .ref d], []⟩) (fun _ R s => s.heap.get? d = some ⟨.type "dict", none, .dict es ep, #[]⟩ ∧ R (.ok (.ret .notImplemented)) s) :=
  .of_wp fun prog w A R s ⟨hl, h⟩ => by obtain ⟨hp, g, dd, tk, os⟩ := s; wp_walk using wpAny_loadPart' hl, wpAny_load hl; exact ⟨_, rfl, h⟩
theorem no_str (z : Str) (u : Tok) {d : Addr} {es : Array DictEntry} {ep : Nat} : Meets (Builtin.«str.__eq__» ⟨[.str z u, .ref d], []⟩) (fun _ R s => s.heap.get? d = some ⟨.type "dict", none, .dict es ep, #[]⟩ ∧ R (.ok (.ret .notImplemented)) s) :=
  .of_wp fun prog w A R s ⟨hl, h⟩ => by obtain ⟨hp, g, dd, tk, os⟩ := s; wp_walk using wpAny_loadPart' hl, wpAny_load hl; exact ⟨_, rfl, h⟩
theorem no_list {l : Addr} {d : Addr} {es : Array DictEntry} {ep : Nat} : Meets (Builtin.«list.__eq__» ⟨[.ref l, .ref d], []⟩) (fun _ R s => s.heap.get? d = some ⟨.type "dict", none, .dict es ep, #[]⟩ ∧ R (.ok (.ret .notImplemented)) s) :=
  .of_wp fun prog w A R s ⟨hl, h⟩ => by obtain ⟨hp, g, dd, tk, os⟩ := s; have f1 := PySem.F.sub_dict_list; wp_walk using wpAny_loadPart' hl, wpAny_load hl; exact ⟨_, rfl, h⟩
theorem no_tuple {l : Addr} {d : Addr} {es : Array DictEntry} {ep : Nat} : Meets (Builtin.«tuple.__eq__» ⟨[.ref l, .ref d], []⟩) (fun _ R s => s.heap.get? d = some ⟨.type "dict", none, .dict es ep, #[]⟩ ∧ R (.ok (.ret .notImplemented)) s) :=
  .of_wp fun prog w A R s ⟨hl, h⟩ => by obtain ⟨hp, g, dd, tk, os⟩ := s; have f1 := PySem.F.sub_dict_tuple; wp_walk using wpAny_loadPart' hl, wpAny_load hl; exact ⟨_, rfl, h⟩
/-- no dict, and its == leaves dicts alone -/
structure NoD (s : Shared) (v : Value) (T id : String) : Prop where
  ty : s.TypeIs v T
  n1 : (Value.type T != Value.type "dict") = true
  n2 : (Value.type "dict" != Value.type T) = true
  s1 : isSubtype (.type T) (.type "dict") = pure false
  s2 : isSubtype (.type "dict") (.type T) = pure false
  sl : Slot T (cmpInfo .Eq).2.1 id
  sr : Slot T (cmpInfo .Eq).2.2 id
  is_ : ∀ d, (∃ l, v = .ref l) ∨ (isSame (.ref d) v = pure false ∧ isSame v (.ref d) = pure false)
  no : ∀ (prog : Program) (w : World) (A : Around) (E : Value → Shared → Prop) (Q : Value → Shared → Prop) (d : Addr) (name : Str), Slot T name id → DkO s d → Q .notImplemented s → wpAny (model prog w) A (call (.builtin id) [v, .ref d]) Q E s
theorem noD_non : NoD s .none "NoneType" "NoneType.__eq__" := ⟨rfl, by decide, by decide, PySem.F.sub_NoneType_dict, PySem.F.sub_dict_NoneType, PySem.F.slot_NoneType_eq, PySem.F.slot_NoneType_eq_refl, (fun _ => .inr ⟨rfl, rfl⟩),
  fun prog w A E Q d name sl _ q => call_gives sl rfl PySem.F.entry_NoneType_eq (PySem.F.args_NoneType_eq_2 _ _) (NoneType___eq___none_ref_0 d) q⟩
theorem noD_bool (b : Bool) : NoD s (.bool b) "bool" "int.__eq__" := ⟨rfl, by decide, by decide, PySem.F.sub_bool_dict, PySem.F.sub_dict_bool, PySem.F.slot_bool_eq, PySem.F.slot_bool_eq_refl, (fun _ => .inr ⟨rfl, rfl⟩),
  fun prog w A E Q d name sl ⟨es, ep, e⟩ q => call_meets sl rfl PySem.F.entry_int_eq (PySem.F.args_int_eq_2 _ _) (no_bool b) ⟨e, q⟩⟩
theorem noD_int (i : Int) (u : Tok) : NoD s (.int i u) "int" "int.__eq__" := ⟨rfl, by decide, by decide, PySem.F.sub_int_dict, PySem.F.sub_dict_int, PySem.F.slot_int_eq, PySem.F.slot_int_eq_refl, (fun _ => .inr ⟨rfl, rfl⟩),
  fun prog w A E Q d name sl ⟨es, ep, e⟩ q => call_meets sl rfl PySem.F.entry_int_eq (PySem.F.args_int_eq_2 _ _) (no_int i u) ⟨e, q⟩⟩
theorem noD_str (z : Str) (u : Tok) : NoD s (.str z u) "str" "str.__eq__" := ⟨rfl, by decide, by decide, PySem.F.sub_str_dict, PySem.F.sub_dict_str, PySem.F.slot_str_eq, PySem.F.slot_str_eq_refl, (fun _ => .inr ⟨rfl, rfl⟩),
  fun prog w A E Q d name sl ⟨es, ep, e⟩ q => call_meets sl rfl PySem.F.entry_str_eq (PySem.F.args_str_eq_2 _ _) (no_str z u) ⟨e, q⟩⟩
theorem noD_list {l : Addr} (h : s.TypeIs (.ref l) "list") : NoD s (.ref l) "list" "list.__eq__" := ⟨h, by decide, by decide, PySem.F.sub_list_dict, PySem.F.sub_dict_list, PySem.F.slot_list_eq, PySem.F.slot_list_eq_refl, (fun _ => .inl ⟨_, rfl⟩),
  fun prog w A E Q d name sl ⟨es, ep, e⟩ q => call_meets sl h PySem.F.entry_list_eq (PySem.F.args_list_eq_2 _ _) no_list ⟨e, q⟩⟩
theorem noD_tuple {l : Addr} (h : s.TypeIs (.ref l) "tuple") : NoD s (.ref l) "tuple" "tuple.__eq__" := ⟨h, by decide, by decide, PySem.F.sub_tuple_dict, PySem.F.sub_dict_tuple, PySem.F.slot_tuple_eq, PySem.F.slot_tuple_eq_refl, (fun _ => .inl ⟨_, rfl⟩),
  fun prog w A E Q d name sl ⟨es, ep, e⟩ q => call_meets sl h PySem.F.entry_tuple_eq (PySem.F.args_tuple_eq_2 _ _) no_tuple ⟨e, q⟩⟩
/-- no thing of another kind is the dict itself -/
theorem notD {v : Value} {T id : String} {d : Addr} {R : Bool → Shared → Prop} (h : NoD s v T id) (hd : DkO s d) (r : R false s) : wpAny (model prog w) A (isSame (.ref d) v) R E s ∧ wpAny (model prog w) A (isSame v (.ref d)) R E s := by
  obtain ⟨es, ep, e⟩ := hd
  rcases h.is_ d with ⟨l, rfl⟩ | ⟨i1, i2⟩
  · obtain ⟨o, ho, hc⟩ := h.ty
    have ne : d ≠ l := fun z => by
      subst z
      rw [e] at ho
      cases ho
      have := h.n1
      rw [← hc] at this
      simp at this
    constructor
    · show wpAny _ A (if (d == l) = true then pure true else _) R E s
      rw [if_neg (by simpa using ne)]
      refine wpAny_bind (wpAny_load e (wpAny_bind (wpAny_load ho ?_)))
      split
      · rename_i h1 _ _ _; injection h1 with z; exact absurd z (by decide)
      · exact wpAny_pure r
    · show wpAny _ A (if (l == d) = true then pure true else _) R E s
      rw [if_neg (by simpa using ne.symm)]
      refine wpAny_bind (wpAny_load ho (wpAny_bind (wpAny_load e ?_)))
      split
      · rename_i _ h1 _ _; injection h1 with z; exact absurd z (by decide)
      · exact wpAny_pure r
  · exact ⟨wpAny_of_eq i1 r, wpAny_of_eq i2 r⟩
theorem rcD1 {v : Value} {T id : String} {d : Addr} (h : NoD s v T id) (hd : DkO s d) (hu : A.units < cLine) : RcAt A s (.ref d) v false := fun prog w E Q q =>
  rc_eq_decline_or (k := false) hd.ty h.ty h.n2 h.s1 PySem.F.slot_dict_eq h.sr (fun _ z => dict_no hd.ty h.ty h.s1 z PySem.F.slot_dict_eq) (fun _ z => h.no prog w A E _ d _ h.sr hd z) (fun _ z => (notD h hd z).1) (.inr hu) q
theorem rcD2 {v : Value} {T id : String} {d : Addr} (h : NoD s v T id) (hd : DkO s d) (hu : A.units < cLine) : RcAt A s v (.ref d) false := fun prog w E Q q =>
  rc_eq_decline_or (k := false) h.ty hd.ty h.n1 h.s2 h.sl PySem.F.slot_dict_eq_refl (fun _ z => h.no prog w A E _ d _ h.sl hd z) (fun _ z => dict_no hd.ty h.ty h.s1 z PySem.F.slot_dict_eq_refl) (fun _ z => (notD h hd z).2) (.inr hu) q
theorem neD {v : Value} {T id : String} {d : Addr} (h : NoD s v T id) (hd : DkO s d) : v ≠ .ref d := fun z => by
  subst z
  obtain ⟨o, ho, hc⟩ := h.ty
  obtain ⟨es, ep, e⟩ := hd
  rw [e] at ho
  cases ho
  have := h.n1
  rw [← hc] at this
  simp at this
theorem eqD1 {v : Value} {T id : String} {d : Addr} (h : NoD s v T id) (hd : DkO s d) (hu : A.units < cLine) : EqAt A s (.ref d) v false := fun prog w E Q q => by
  unfold eqBool
  refine wpAny_holding (wpAny_ite_split (fun hab => absurd (eq_of_beq hab).symm (neD h hd)) fun _ => ?_)
  exact wpAny_bind (rcD1 h hd hu prog w E _ (wpAny_truthy_bool q))
theorem eqD2 {v : Value} {T id : String} {d : Addr} (h : NoD s v T id) (hd : DkO s d) (hu : A.units < cLine) : EqAt A s v (.ref d) false := fun prog w E Q q => by
  unfold eqBool
  refine wpAny_holding (wpAny_ite_split (fun hab => absurd (eq_of_beq hab) (neD h hd)) fun _ => ?_)
  cases v <;> exact wpAny_bind (rcD2 h hd hu prog w E _ (wpAny_truthy_bool q))
end
end S
namespace S
open PySem PySem.Spec PyProof.Rows L2
/-! ### plain data, or the empty dict -/
inductive Mx (K : Frag) (H : Hp) : V → PyData → Prop where
  | dat {x : V} {d : PyData} (h : Dp K H x d) (p : d.plain = true) (l : d.depth ≤ 20) : Mx K H x d
  | dk {a : Addr} (h : H a = some (.dK [])) : Mx K H (.ref a) (.dict [])
def mixEq : PyData → PyData → Bool
  | .dict _, .dict _ => true
  | .dict _, _ => false
  | _, .dict _ => false
  | d, e => PyData.eqv d e
section
variable {X : Cx} {K : Frag} {pins : List (Addr × Obj)} {σ : L2.St} {H : Hp} {s : Shared} {a b : Addr} {x y : V} {d e : PyData}
theorem dkO_of {ks : List (Key × V)} (I : Inv X pins σ H s) (h : H a = some (.dK ks)) : DkO s a := by
  obtain ⟨_, _, va, _, o, es, ep, e1, ⟨e2, e3, e4⟩, e5, _⟩ := (show ObjOk X.prog X.w H s.heap a (.dK ks) from I.hok a _ h)
  obtain ⟨c, dd, dt, sl⟩ := o
  simp only at e2 e3 e4 e5
  subst e2 e3 e4 e5
  exact ⟨es, ep, e1⟩
theorem dk0_any (I : Inv X pins σ H s) (h : H a = some (.dK [])) (P : Program) (w : World) : s.heap.DictOf (mixKind P w) a ([] : List (Key × Value)) ∧ (a == sysModules) = false := by
  obtain ⟨_, ya, va, ra, o, es, ep, e1, e2, e3, e4, e5, e6⟩ := (show ObjOk X.prog X.w H s.heap a (.dK []) from I.hok a _ h)
  have hv : va = [] := by
    have := ra.length
    exact List.length_eq_zero_iff.mp this.symm
  subst hv
  generalize hl : es.toList = l at e5
  cases e5
  refine ⟨⟨o, es, ep, e1, e2, e3, fun q hq => ?_, by rw [hl]; exact .nil, List.nodup_nil⟩, ya⟩
  have : q ∈ es.toList := by simpa using hq
  rw [hl] at this
  cases this
theorem noD_of (I : Inv X pins σ H s) (h : Dp X.K H x d) {v : Value} (r : RelV x v) : ∃ T id, NoD s v T id := by
  cases h with
  | non => cases r; exact ⟨_, _, noD_non⟩
  | bl b => cases r; exact ⟨_, _, noD_bool b⟩
  | int i => obtain ⟨t, rfl⟩ := r; exact ⟨_, _, noD_int i t⟩
  | str z => obtain ⟨t, rfl⟩ := r; exact ⟨_, _, noD_str z t⟩
  | lst hl _ =>
    cases r
    obtain ⟨its, _, pl, _⟩ := I.list hl
    obtain ⟨o, e1, e2, _⟩ := pl.isList
    exact ⟨_, _, noD_list ⟨o, e1, e2⟩⟩
  | tup hl _ =>
    cases r
    obtain ⟨its, _, pl, _⟩ := I.tuple hl
    obtain ⟨o, e1, e2, _⟩ := pl
    exact ⟨_, _, noD_tuple ⟨o, e1, e2⟩⟩
theorem mix_plain (hd : d.plain = true) (he : e.plain = true) : mixEq d e = PyData.eqv d e := by
  cases d <;> cases e <;> first | rfl | cases hd | cases he
theorem mix_dL (he : e.plain = true) : mixEq (.dict []) e = false := by
  cases e <;> first | rfl | cases he
theorem mix_dR (he : d.plain = true) : mixEq d (.dict []) = false := by
  cases d <;> first | rfl | cases he
theorem Mx.eq (hx : Mx K H x d) (hy : Mx K H y e) : EqOk K H 30 x y (mixEq d e) := by
  cases hx with
  | dat h1 p1 l1 =>
    cases hy with
    | dat h2 p2 l2 =>
      rw [mix_plain p1 p2]
      exact (eg_dat h1 h2 p1 p2).at_.up (by omega)
    | dk h2 =>
      rw [mix_dR p1]
      intro X pins σ s A v u k I hu rv ru
      subst k
      cases ru
      obtain ⟨T, id, n⟩ := noD_of I h1 rv
      exact eqD2 n (dkO_of I h2) (by omega)
  | dk h1 =>
    cases hy with
    | dat h2 p2 l2 =>
      rw [mix_dL p2]
      intro X pins σ s A v u k I hu rv ru
      subst k
      cases rv
      obtain ⟨T, id, n⟩ := noD_of I h2 ru
      exact eqD1 n (dkO_of I h1) (by omega)
    | dk h2 =>
      rename_i a b
      intro X pins σ s A v u k I hu rv ru
      subst k
      cases rv
      cases ru
      show SeqAt.EqAt A s _ _ true
      by_cases e0 : a = b
      · subst e0
        exact SeqAt.EqAt.same _
      · refine SeqAt.EqAt.of_refs e0 fun prog w E Q q => ?_
        obtain ⟨d1, y1⟩ := dk0_any I h1 prog w
        obtain ⟨d2, y2⟩ := dk0_any I h2 prog w
        exact PySem.W.keq_eq (knd := mixKind prog w) (r := true) y1 y2 d1 d2 (by omega) (fun _ => .nil) q
theorem dp_same {H' : Hp} (s : Same H H') : ∀ {x : V} {d : PyData}, Dp K H x d → Dp K H' x d := by
  intro x d h
  refine Dp.rec (motive_1 := fun x d _ => Dp K H' x d) (motive_2 := fun xs ds _ => DpAll K H' xs ds) ?_ ?_ ?_ ?_ ?_ ?_ ?_ ?_ h
  · exact .non
  · exact fun b => .bl b
  · exact fun i => .int i
  · exact fun z => .str z
  · exact fun h _ ih => .lst (sqL_same h s) ih
  · exact fun h _ ih => .tup (sqT_same h s) ih
  · exact .nil
  · exact fun _ _ a b => .cons a b
theorem Mx.same {H' : Hp} (h : Mx K H x d) (s : Same H H') : Mx K H' x d := by
  cases h with
  | dat h p l => exact .dat (dp_same s h) p l
  | dk h => exact .dk (s _ _ h)
open Classical in
/-- the data that stands there -/
noncomputable def rdM (K : Frag) (H : Hp) (x : V) : PyData := if h : ∃ d, Mx K H x d then h.choose else .none
theorem rdM_of (h : ∃ d, Mx K H x d) : Mx K H x (rdM K H x) := by
  unfold rdM
  rw [dif_pos h]
  exact h.choose_spec
end
end S
namespace S
open PySem PySem.Spec PyProof.Rows L2
/-! ### [f(x) for x in xs if c(x)] over what stands -/
section
variable {J : It} {xs : List V} {H0 : Hp} {D : Addr} {tt : TT} {te : TE} {vs : List Nat} {σ : L2.St} {Qd : Hp → Prop} {i : Nat}
theorem lc_fm (wk : Walk J xs.length (fun H => Same H0 H) (YAt xs)) (c : V → Bool) (f : V → V) (hD : H0 D = none) (ln : xs.length ≤ 1000) (w0 : ∀ x, wipe ((wipe σ vs).set i (some x)) vs = wipe σ vs)
    (tst : ∀ (x : V) (H : Hp) (B : Bool → Hp → Prop), x ∈ xs → Same H0 H → (∀ H', Same H H' → B (c x) H') → tt ((wipe σ vs).set i (some x)) H B)
    (el : ∀ (x : V) (H : Hp) (Z : V → Hp → Prop), x ∈ xs → Same H0 H → (∀ H', Same H H' → Z (f x) H') → te ((wipe σ vs).set i (some x)) H Z)
    (q : ∀ H, Same H0 H → H D = some (.lst ((xs.filter c).map f)) → Qd H) :
    ∃ W : Nat → Nat → Hp → Prop, (∃ m, W 0 m (upd H0 D (.lst []))) ∧ ∀ k m H, W k m H →
      (J.stop k H ∧ Qd H) ∨ (J.go k H ∧ ∃ Nx : Hp → Prop, (∀ H', Nx H' → ∃ m', m' < m ∧ W (k + 1) m' H') ∧ ∀ x H', J.yld k H x H' → gName i x (wipe σ vs) H' fun σ2 H2 => wipe σ2 vs = wipe σ vs ∧ tt σ2 H2 fun b H3 =>
        if b = true then te σ2 H3 fun y H4 => ∃ acc, H4 D = some (.lst acc) ∧ acc.length < sizeLine ∧ Nx (upd H4 D (.lst (acc ++ [y]))) else Nx H3) := by
  refine lc_seq wk (fun k J => Same H0 J ∧ J D = some (.lst (((xs.take k).filter c).map f))) ⟨Same.new hD, upd_same⟩ (fun k J _ h => h.1) ?_ ?_
  · rintro k x J hx ⟨sJ, eD⟩
    have mx := List.mem_of_getElem? hx
    refine ⟨w0 x, tst x J _ mx sJ fun J2 s2 => ?_⟩
    have et : xs.take (k + 1) = xs.take k ++ [x] := by rw [List.take_add_one, hx]; rfl
    cases e : c x with
    | true =>
      refine iteT (el x J2 _ mx (sJ.trans s2) fun J3 s3 => ⟨_, (s2.trans s3) _ _ eD, ?_, Same.upd ((sJ.trans s2).trans s3) hD, ?_⟩)
      · rw [List.length_map]
        have h1 := List.length_filter_le c (xs.take k)
        rw [List.length_take] at h1
        exact Nat.lt_of_le_of_lt (show ((xs.take k).filter c).length ≤ 1000 by omega) (by decide)
      · rw [upd_same, et, List.filter_append, List.map_append]
        simp [e]
    | false =>
      refine iteF ⟨sJ.trans s2, ?_⟩
      rw [et, List.filter_append, List.map_append]
      simp [e]
      simpa using s2 _ _ eD
  · rintro J ⟨sJ, eD⟩
    rw [List.take_length] at eD
    exact q J sJ eD
theorem lc_map (wk : Walk J xs.length (fun H => Same H0 H) (YAt xs)) (f : V → V) (hD : H0 D = none) (ln : xs.length ≤ 1000) (w0 : ∀ x, wipe ((wipe σ vs).set i (some x)) vs = wipe σ vs)
    (el : ∀ (x : V) (H : Hp) (Z : V → Hp → Prop), x ∈ xs → Same H0 H → (∀ H', Same H H' → Z (f x) H') → te ((wipe σ vs).set i (some x)) H Z)
    (q : ∀ H, Same H0 H → H D = some (.lst (xs.map f)) → Qd H) :
    ∃ W : Nat → Nat → Hp → Prop, (∃ m, W 0 m (upd H0 D (.lst []))) ∧ ∀ k m H, W k m H →
      (J.stop k H ∧ Qd H) ∨ (J.go k H ∧ ∃ Nx : Hp → Prop, (∀ H', Nx H' → ∃ m', m' < m ∧ W (k + 1) m' H') ∧ ∀ x H', J.yld k H x H' → gName i x (wipe σ vs) H' fun σ2 H2 => wipe σ2 vs = wipe σ vs ∧ tYes σ2 H2 fun b H3 =>
        if b = true then te σ2 H3 fun y H4 => ∃ acc, H4 D = some (.lst acc) ∧ acc.length < sizeLine ∧ Nx (upd H4 D (.lst (acc ++ [y]))) else Nx H3) :=
  lc_fm wk (fun _ => true) f hD ln w0 (fun _ _ _ _ _ b => yesT (b _ fun _ _ z => z)) el fun H s e => q H s (by rw [List.filter_eq_self.mpr (fun _ _ => rfl)] at e; exact e)
/-- the same from rows of data: the values are a ↦ v a -/
theorem lc_mapA {α : Type} {as : List α} {v : α → V} (wk : Walk J (as.map v).length (fun H => Same H0 H) (YAt (as.map v))) (f : α → V) (hf : ∀ a ∈ as, ∀ b ∈ as, v a = v b → f a = f b) (hD : H0 D = none) (ln : as.length ≤ 1000) (w0 : ∀ x, wipe ((wipe σ vs).set i (some x)) vs = wipe σ vs)
    (el : ∀ (a : α) (H : Hp) (Z : V → Hp → Prop), a ∈ as → Same H0 H → (∀ H', Same H H' → Z (f a) H') → te ((wipe σ vs).set i (some (v a))) H Z)
    (q : ∀ H, Same H0 H → H D = some (.lst (as.map f)) → Qd H) :
    ∃ W : Nat → Nat → Hp → Prop, (∃ m, W 0 m (upd H0 D (.lst []))) ∧ ∀ k m H, W k m H →
      (J.stop k H ∧ Qd H) ∨ (J.go k H ∧ ∃ Nx : Hp → Prop, (∀ H', Nx H' → ∃ m', m' < m ∧ W (k + 1) m' H') ∧ ∀ x H', J.yld k H x H' → gName i x (wipe σ vs) H' fun σ2 H2 => wipe σ2 vs = wipe σ vs ∧ tYes σ2 H2 fun b H3 =>
        if b = true then te σ2 H3 fun y H4 => ∃ acc, H4 D = some (.lst acc) ∧ acc.length < sizeLine ∧ Nx (upd H4 D (.lst (acc ++ [y]))) else Nx H3) := by
  classical
  let F : V → V := fun x => if h : ∃ a ∈ as, v a = x then f h.choose else .non
  have hF : ∀ a ∈ as, F (v a) = f a := fun a ha => by
    have h : ∃ b ∈ as, v b = v a := ⟨a, ha, rfl⟩
    show (if h : ∃ b ∈ as, v b = v a then f h.choose else .non) = f a
    rw [dif_pos h]
    exact hf _ h.choose_spec.1 _ ha h.choose_spec.2
  refine lc_map wk F hD (by rw [List.length_map]; exact ln) w0 (fun x H Z hx s z => ?_) fun H s e => q H s ?_
  · obtain ⟨a, ha, rfl⟩ := List.mem_map.mp hx
    rw [hF a ha] at z
    exact el a H Z ha s z
  · rw [List.map_map] at e
    rw [e]
    congr 2
    exact List.map_congr_left fun a ha => hF a ha
end
/-- two tuples of like items -/
theorem tup_ne {K : Frag} {H : Hp} {n : Nat} {o t : Addr} {xs : List V} (h1 : H o = some (.tup xs)) (h2 : H t = some (.tup xs)) (hx : ∀ z ∈ xs, EqOk K H n z z true) : EqG K H (n + 1) (.ref o) (.ref t) true :=
  (eg_tup (e := fun _ => true) (.inl (.inl h1)) (.inl (.inl h2)) (fun i p q hp hq => by rw [hp] at hq; cases hq; exact hx p (List.mem_of_getElem? hp)) (fun _ => by simp [pairs])).to (by simp [pairs])
theorem mix_refl {K : Frag} {H : Hp} {x : V} {d : PyData} (h : Mx K H x d) : mixEq d d = true := by
  cases h with
  | dat h p l => rw [mix_plain p p]; exact SeqAt.eqv_refl_plain d p
  | dk h => rfl
end S
namespace S
open PySem PySem.Spec PyProof.Rows L2
def Sp6 (f : V → V → V → V → V → V → Hp → VK → XK → Prop) : Sp := fun vs H Q E => ∃ x y z u v w, vs = [x, y, z, u, v, w] ∧ f x y z u v w H Q E
theorem splen6 {vs : List V} {H : Hp} {Q : VK} {E : XK} {f} (h : Sp6 f vs H Q E) : vs.length = 6 := by obtain ⟨_, _, _, _, _, _, rfl, _⟩ := h; rfl
/-! ### x < y of like data -/
def rLtD (K : Frag) : R2 := fun x y H Q => ∃ d e, Dp K H x d ∧ Dp K H y e ∧ PySem.W.alike d e = true ∧ d ≠ .none ∧ d.depth ≤ 20 ∧ Q (.bl (PySem.W.dataLt d e)) H
theorem ltDK {X : Cx} {K : Frag} (hK : X.K = K) (hu : X.A.units + 64 < cLine) : OpR X (compareOp .Lt) (rLtD K) := by
  intro pins s σ H x y v u Q I rx ry h
  subst hK
  obtain ⟨d, e, hd, he, al, nn, dp, q⟩ := h
  obtain ⟨as, r1⟩ := Dp.reads I d x v hd rx
  obtain ⟨bs, r2⟩ := Dp.reads I e y u he ry
  exact PySem.W.rcLt_alike d e X.A s v u as bs r1 r2 al nn (by omega) X.prog X.w _ _ ⟨.bl _, H, I, rfl, q⟩
/-! ### a or b, a and b of bools, as values -/
theorem orQ {c d : Bool} {Q : V → Hp → Prop} {H : Hp} {B : Prop} (q : Q (.bl (c || d)) H) (hB : Q (.bl d) H → B) : if c = true then Q (.bl true) H else B := by
  cases c with
  | true => exact q
  | false => exact hB q
theorem andQ {c d : Bool} {Q : V → Hp → Prop} {H : Hp} {B : Prop} (q : Q (.bl (c && d)) H) (hB : Q (.bl d) H → B) : if c = true then B else Q (.bl false) H := by
  cases c with
  | true => exact hB q
  | false => exact q
/-! ### the sort by steps from the end -/
section
variable {α β : Type}
def ltAt (lt : α → α → Bool) (x : α) (out : List α) (k : Nat) : Bool := match out[k]? with
  | some y => lt x y
  | none => false
/-- x goes down from k past what is above it -/
def posR (lt : α → α → Bool) (x : α) (out : List α) : Nat → Nat
  | 0 => 0
  | k + 1 => if ltAt lt x out k then posR lt x out k else k + 1
def insR (lt : α → α → Bool) (out : List α) (x : α) : List α := out.take (posR lt x out out.length) ++ [x] ++ out.drop (posR lt x out out.length)
def sortR (lt : α → α → Bool) (l : List α) : List α := l.foldl (insR lt) []
theorem posR_le (lt : α → α → Bool) (x : α) (out : List α) : ∀ k, posR lt x out k ≤ k
  | 0 => Nat.le_refl _
  | k + 1 => by
    unfold posR
    split
    · exact Nat.le_succ_of_le (posR_le lt x out k)
    · exact Nat.le_refl _
theorem insR_perm (lt : α → α → Bool) (out : List α) (x : α) : (insR lt out x).Perm (x :: out) := by
  unfold insR
  have h1 : (out.take (posR lt x out out.length) ++ [x] ++ out.drop (posR lt x out out.length)).Perm ([x] ++ out.take (posR lt x out out.length) ++ out.drop (posR lt x out out.length)) := List.Perm.append_right _ List.perm_append_comm
  refine h1.trans ?_
  rw [List.append_assoc, List.take_append_drop]
  exact List.Perm.refl _
theorem foldR_perm (lt : α → α → Bool) : ∀ (l out : List α), (l.foldl (insR lt) out).Perm (l ++ out)
  | [], out => List.Perm.refl _
  | x :: l, out => by
    rw [List.foldl_cons]
    refine (foldR_perm lt l _).trans ?_
    refine (List.Perm.append_left l (insR_perm lt out x)).trans ?_
    exact List.perm_middle
theorem sortR_perm (lt : α → α → Bool) (l : List α) : (sortR lt l).Perm l := by
  have := foldR_perm lt l []
  rwa [List.append_nil] at this
theorem posR_congr {lt lt' : α → α → Bool} {x : α} {out : List α} (h : ∀ y ∈ out, lt x y = lt' x y) : ∀ k, posR lt x out k = posR lt' x out k
  | 0 => rfl
  | k + 1 => by
    unfold posR
    have e : ltAt lt x out k = ltAt lt' x out k := by
      unfold ltAt
      cases hk : out[k]? with
      | none => rfl
      | some y => exact h y (List.mem_of_getElem? hk)
    rw [e, posR_congr h k]
theorem foldR_congr {lt lt' : α → α → Bool} : ∀ {l out : List α}, (∀ x ∈ l, ∀ y ∈ out, lt x y = lt' x y) → l.Pairwise (fun y x => lt x y = lt' x y) → l.foldl (insR lt) out = l.foldl (insR lt') out
  | [], _, _, _ => rfl
  | x :: l, out, h, p => by
    have e : insR lt out x = insR lt' out x := by
      unfold insR
      rw [posR_congr (h x List.mem_cons_self)]
    rw [List.foldl_cons, List.foldl_cons, e]
    have hp := List.pairwise_cons.mp p
    refine foldR_congr (fun z hz y hy => ?_) hp.2
    rcases List.mem_cons.mp ((insR_perm lt' out x).mem_iff.mp hy) with rfl | hy
    · exact hp.1 z hz
    · exact h z (List.mem_cons_of_mem _ hz) y hy
theorem sortR_congr {lt lt' : α → α → Bool} {l : List α} (p : l.Pairwise (fun y x => lt x y = lt' x y)) : sortR lt l = sortR lt' l := foldR_congr (fun _ _ _ h => by cases h) p
theorem posR_map {lt : α → α → Bool} {lt' : β → β → Bool} {f : α → β} (h : ∀ x y, lt x y = lt' (f x) (f y)) (x : α) (out : List α) : ∀ k, posR lt x out k = posR lt' (f x) (out.map f) k
  | 0 => rfl
  | k + 1 => by
    unfold posR
    have e : ltAt lt x out k = ltAt lt' (f x) (out.map f) k := by
      unfold ltAt
      rw [List.getElem?_map]
      cases out[k]? with
      | none => rfl
      | some y => exact h x y
    rw [e, posR_map h x out k]
theorem insR_map {lt : α → α → Bool} {lt' : β → β → Bool} {f : α → β} (h : ∀ x y, lt x y = lt' (f x) (f y)) (x : α) (out : List α) : (insR lt out x).map f = insR lt' (out.map f) (f x) := by
  unfold insR
  rw [List.map_append, List.map_append, List.map_take, List.map_drop, posR_map h, List.length_map]
  rfl
theorem foldR_map {lt : α → α → Bool} {lt' : β → β → Bool} {f : α → β} (h : ∀ x y, lt x y = lt' (f x) (f y)) : ∀ (l out : List α), (l.foldl (insR lt) out).map f = (l.map f).foldl (insR lt') (out.map f)
  | [], _ => rfl
  | x :: l, out => by
    rw [List.foldl_cons, List.map_cons, List.foldl_cons, foldR_map h l, insR_map h]
theorem sortR_map {lt : α → α → Bool} {lt' : β → β → Bool} {f : α → β} (h : ∀ x y, lt x y = lt' (f x) (f y)) (l : List α) : (sortR lt l).map f = sortR lt' (l.map f) := foldR_map h l []
theorem sortR_take {lt : α → α → Bool} {l : List α} {i : Nat} {x : α} (h : l[i]? = some x) : sortR lt (l.take (i + 1)) = insR lt (sortR lt (l.take i)) x := by
  unfold sortR
  rw [List.take_add_one, h, List.foldl_append]
  rfl
end
end S
namespace S
open PySem PySem.Spec PyProof.Rows L2
section
variable {X : Cx} {K : Frag}
theorem ps_fldaugK {o value : Expr} {f : Str} {tpos pos : Pos} {ta tv : TE} {op : Operator} {rd : V → V → Hp → VK → Prop} (hK : X.K = K) (ha : PE X o ta) (hv : PE X value tv) (hop : InOp X op rd) : PS X (.AugAssign (.Attribute o f tpos) op value pos) (sFldAug K ta tv rd f) := hK ▸ ps_fldaug ha hv hop
theorem pi_enumK {e : Expr} {ta : TA} {p pos tpos : Pos} {elts : List Expr} {kk : Nat} (hK : X.K = K) (hg : Gl X "enumerate") (hm : X.mg "enumerate" = none) (ha : PA X [e] ta) (hs : starEach [e] X.env = [(false, eval e X.env)] := by rfl) :
    PI X (.Tuple elts kk tpos) (.Call (.Name "enumerate" p) [e] [] pos) (iEnum K ta) := hK ▸ pi_enum hg hm ha hs
end
end S
namespace S
open PySem PySem.Spec PyProof.Rows L2
/-! list(d.values()) -/
def rListVals : V → Hp → VK → Prop := fun x H Q => ∃ (d : Addr) (kvs : List (Key × V)), x = .ref d ∧ H d = some (.dK kvs) ∧ ∀ p, H p = none → Q (.ref p) (upd H p (.lst (kvs.map Prod.snd)))
theorem LiIx.paired_get {α β : Type} {F : α → β → Prop} : ∀ {xs : List α} {ys : List β}, Paired F xs ys → ∀ {i : Nat} {x : α}, xs[i]? = some x → ∃ y, ys[i]? = some y ∧ F x y
  | _, _, .nil, i, x, h => by cases h
  | _, _, .cons r t, 0, x, h => by
    have e := Option.some.inj h
    subst e
    exact ⟨_, rfl, r⟩
  | _, _, .cons r t, i + 1, x, h => LiIx.paired_get t h
def tListVals (te : TE) : TE := fun σ H Q => te σ H fun x H1 => rListVals x H1 Q
theorem pe_listVals {X : Cx} {e : Expr} {te : TE} {p apos cpos pos : Pos} (hc : X.calm = true) (hg : Gl X "list") (hm : X.mg "list" = none) (he : PE X e te) (hbase : attributeBase e "values" X.env (eval e X.env) = eval e X.env := by rfl) (hline : (apos.endLine == cpos.line) = true := by rfl)
    (hs : starEach [.Call (.Attribute e "values" apos) [] [] cpos] X.env = (false, eval (.Call (.Attribute e "values" apos) [] [] cpos) X.env) :: starEach [] X.env := by rfl) :
    PE X (.Call (.Name "list" p) [.Call (.Attribute e "values" apos) [] [] cpos] [] pos) (tListVals te) := by
  refine ⟨fun pins s σ H Q I hq => ?_⟩
  refine wpAny_Call_Name_kw (ld_blt I hg hm boot_list ?_)
  refine PyProof.Rows.callWith_type1 ?_ hs rfl
  rw [hs]
  show wpAny _ _ (spliced ((false, eval (.Call (.Attribute e "values" apos) [] [] cpos) X.env) :: backTo pos (starEach [] X.env))) _ _ s
  refine Calls.spliced_cons ?_
  refine wpAny_Call_method (T := "dict") (id := "dict.values") hbase rfl hline F.plainAttrs_dict F.slot_dict_values F.type_dict_values (thn (he.run pins s σ H _ I hq) fun u s1 ⟨x, H1, I1, rx, d, kvs, ex, hd, q⟩ => ?_)
  subst ex
  obtain rfl : u = Value.ref d := rx
  obtain ⟨hz, hs0, vs, kv, hdo⟩ := I1.hok d _ hd
  obtain ⟨ep, hat⟩ := hdo.dictAt
  have lk : kvs.length = vs.length := Paired.length kv
  have I2 : Inv X pins σ H1 { s1 with heap := s1.heap.push { cls := .type "dict_values", data := .fields #[.ref d] } } := I1.kept (t' := s1.toks) fun b ob q => Heap.get?_push_of_some _ q
  refine ⟨hdo.typeIs, hdo.mapOf.noDict, ?_⟩
  show wpAny _ _ (callWith cpos (.builtin "dict.values") [.ref d] [] []) _ X.xe s1
  refine method_meetsIn F.slot_dict_values F.entry_dict_values rfl (PySem.evalArgs_none ⟨rfl, hdo.typeIs, F.args_dict_values_1 _, _, meets_dict_values (mixKind X.prog X.w) d hs0, ⟨vs, hdo⟩, ?_⟩)
  refine Calls.spliced_nil ?_
  refine PySem.W.kdl_call (PySem.W.kdl_values (knd := mixKind X.prog X.w) (kvs := vs) (ep := ep)) (I1.ok.hd hc) ⟨⟨_, Heap.get?_push_size _ rfl, rfl, rfl⟩, hat.push _⟩ (by rw [← lk]; exact hz) fun h' tk acc' c' hkeep hS hacc => ?_
  refine ⟨.ref _, upd H1 _ (.lst (kvs.map Prod.snd)), I2.laid hkeep (Nat.le_refl _) (show ObjOk X.prog X.w _ _ _ (.lst (kvs.map Prod.snd)) from ⟨?_, acc'.toList, c', ?_, ?_⟩), rfl, q _ (I2.hok.fresh (Nat.le_refl _))⟩
  · rw [List.length_map]; exact hz
  · have el : acc'.toList.length = acc'.size := by simp
    refine vals_of_at (by rw [List.length_map, el, hacc.1, lk]) fun j x w h1 h2 => ?_
    obtain ⟨k, hky⟩ := hacc.2 j w (by rw [← Array.getElem?_toList]; exact h2)
    rw [List.getElem?_map] at h1
    obtain ⟨pk, hpk, rfl⟩ := Option.map_eq_some_iff.mp h1
    obtain ⟨qv, g1, g2, g3⟩ := LiIx.paired_get kv hpk
    rw [hky] at g1
    cases g1
    exact g3
  · rw [Array.toArray_toList]; exact hS
/-! [f a for x in xs if c a], from rows of data -/
section
variable {J : It} {H0 : Hp} {D : Addr} {tt : TT} {te : TE} {vs : List Nat} {σ : L2.St} {Qd : Hp → Prop} {i : Nat}
theorem lc_fmA {α : Type} {as : List α} {v : α → V} (wk : Walk J (as.map v).length (fun H => Same H0 H) (YAt (as.map v))) (c : α → Bool) (f : α → V) (hf : ∀ a ∈ as, ∀ b ∈ as, v a = v b → c a = c b ∧ f a = f b) (hD : H0 D = none) (ln : as.length ≤ 1000) (w0 : ∀ x, wipe ((wipe σ vs).set i (some x)) vs = wipe σ vs)
    (tst : ∀ (a : α) (H : Hp) (B : Bool → Hp → Prop), a ∈ as → Same H0 H → (∀ H', Same H H' → B (c a) H') → tt ((wipe σ vs).set i (some (v a))) H B)
    (el : ∀ (a : α) (H : Hp) (Z : V → Hp → Prop), a ∈ as → Same H0 H → (∀ H', Same H H' → Z (f a) H') → te ((wipe σ vs).set i (some (v a))) H Z)
    (q : ∀ H, Same H0 H → H D = some (.lst ((as.filter c).map f)) → Qd H) :
    ∃ W : Nat → Nat → Hp → Prop, (∃ m, W 0 m (upd H0 D (.lst []))) ∧ ∀ k m H, W k m H →
      (J.stop k H ∧ Qd H) ∨ (J.go k H ∧ ∃ Nx : Hp → Prop, (∀ H', Nx H' → ∃ m', m' < m ∧ W (k + 1) m' H') ∧ ∀ x H', J.yld k H x H' → gName i x (wipe σ vs) H' fun σ2 H2 => wipe σ2 vs = wipe σ vs ∧ tt σ2 H2 fun b H3 =>
        if b = true then te σ2 H3 fun y H4 => ∃ acc, H4 D = some (.lst acc) ∧ acc.length < sizeLine ∧ Nx (upd H4 D (.lst (acc ++ [y]))) else Nx H3) := by
  classical
  let F : V → V := fun x => if h : ∃ a ∈ as, v a = x then f h.choose else .non
  let C : V → Bool := fun x => if h : ∃ a ∈ as, v a = x then c h.choose else false
  have hF : ∀ a ∈ as, F (v a) = f a := fun a ha => by
    have h : ∃ b ∈ as, v b = v a := ⟨a, ha, rfl⟩
    show (if h : ∃ b ∈ as, v b = v a then f h.choose else .non) = f a
    rw [dif_pos h]
    exact (hf _ h.choose_spec.1 _ ha h.choose_spec.2).2
  have hC : ∀ a ∈ as, C (v a) = c a := fun a ha => by
    have h : ∃ b ∈ as, v b = v a := ⟨a, ha, rfl⟩
    show (if h : ∃ b ∈ as, v b = v a then c h.choose else false) = c a
    rw [dif_pos h]
    exact (hf _ h.choose_spec.1 _ ha h.choose_spec.2).1
  refine lc_fm wk C F hD (by rw [List.length_map]; exact ln) w0 (fun x H Z hx s z => ?_) (fun x H Z hx s z => ?_) fun H s e => q H s ?_
  · obtain ⟨a, ha, rfl⟩ := List.mem_map.mp hx
    rw [hC a ha] at z
    exact tst a H Z ha s z
  · obtain ⟨a, ha, rfl⟩ := List.mem_map.mp hx
    rw [hF a ha] at z
    exact el a H Z ha s z
  · rw [e, List.filter_map, List.map_map]
    congr 2
    have e1 : as.filter (C ∘ v) = as.filter c := List.filter_congr fun a ha => hC a ha
    rw [e1]
    exact List.map_congr_left fun a ha => hF a ((List.mem_filter.mp ha).1)
end
end S
namespace S
open PySem PySem.Spec PyProof.Rows L2
/-! ### enumerate over a list or a tuple that stands -/
section
open PySem.Calls
set_option maxHeartbeats 1000000 in
theorem meets_enum1 {v : Value} {o : Obj} {H : Heap → Prop} (B : Begins v o H) :
    Meets (Builtin.«enumerate.__new__» ⟨[.type "enumerate", v], []⟩) (fun _ R s => H s.heap ∧
      R (.ok (.ret (.ref (s.heap.push o).objs.size))) { s with heap := (s.heap.push o).push { cls := .type "enumerate", data := .fields #[.none, .bool false, .ref s.heap.objs.size, rawInt 0, .none, .none] } }) :=
  .of_wp fun prog w A R s h => by
    obtain ⟨hp, g, d, tk, os⟩ := s; obtain ⟨h1, h⟩ := h
    have hsub := sub_enumerate
    have q1 : ∀ {A' : Around} {E : Value → Shared → Prop} {Q : Value → Shared → Prop}, Q (.ref hp.objs.size) ⟨hp.push o, g, d, tk, os⟩ → wpAny (model prog w) A' (pyIter v) Q E ⟨hp, g, d, tk, os⟩ :=
      fun q => B.iter prog w _ _ ⟨hp, g, d, tk, os⟩ _ h1 q
    wp_walk using q1
    refine wpAny_stack_any fun st => wpAny_pure ?_
    split
    · rename_i c _ _ _ _ _
      cases (c == Value.type "enumerate")
      · wp_walk using q1
        exact ⟨_, rfl, h⟩
      · wp_walk using q1
        exact ⟨_, rfl, h⟩
    · wp_walk using q1
      exact ⟨_, rfl, h⟩
theorem enum_begins1 {prog : Program} {w : World} {A : Around} {E : Value → Shared → Prop} {s : Shared} {v : Value} {o : Obj} {H : Heap → Prop} {Q : Value → Shared → Prop} (B : Begins v o H) (h1 : H s.heap)
    (h : ∀ h', IsEnum h' (s.heap.objs.size + 1) s.heap.objs.size 0 .none → h'.get? s.heap.objs.size = some o → h'.objs.size = s.heap.objs.size + 2 →
      (∀ b o, s.heap.get? b = some o → h'.get? b = some o) → Q (.ref (s.heap.objs.size + 1)) { s with heap := h' }) :
    wpAny (model prog w) A (call (.type "enumerate") [v]) Q E s := by
  refine callType_new F.called_enumerate (by decide) (F.typeCall_enumerate_1 _) (F.newCall_enumerate_1 _) (fun obj => F.args_object_init_2 obj _) F.entry_enumerate_new (meets_enum1 B) ⟨h1, ?_⟩
  have hz : (s.heap.push o).objs.size = s.heap.objs.size + 1 := Heap.size_push ..
  show _ ∧ _
  rw [hz]
  have he : IsEnum ((s.heap.push o).push { cls := .type "enumerate", data := .fields #[.none, .bool false, .ref s.heap.objs.size, rawInt 0, .none, .none] }) (s.heap.objs.size + 1) s.heap.objs.size 0 .none := by
    have := Heap.get?_push_size (s.heap.push o) (o := { cls := .type "enumerate", data := .fields #[.none, .bool false, .ref s.heap.objs.size, rawInt 0, .none, .none] }) rfl
    rw [hz] at this; exact this
  exact ⟨⟨_, he, rfl⟩, h _ he (Heap.get?_push_of_some _ (Heap.get?_push_size _ B.free)) (by rw [Heap.size_push, hz]) fun b o x => Heap.get?_push_of_some _ (Heap.get?_push_of_some _ x)⟩
end
section
variable {K : Frag}
/-- a list (false) or a tuple (true) -/
def SqB (K : Frag) (b : Bool) (H : Hp) (a : Addr) (xs : List V) : Prop := if b then SqT K H a xs else SqL K H a xs
/-- the items as they stand at each turn, each in a new pair with its number from c on -/
def IteC (K : Frag) (b : Bool) (a : Addr) (c : Int) : It :=
  ⟨fun i H => ∃ (xs : List V) (x : V), SqB K b H a xs ∧ xs[i]? = some x, fun i H v H' => ∃ T x, v = .ref T ∧ H T = none ∧ H' = upd H T (.tup [.int (c + (i : Nat)), x]) ∧ ∀ xs, SqB K b H a xs → xs[i]? = some x, fun i H => ∃ xs : List V, SqB K b H a xs ∧ xs.length = i⟩
def srcAt (b : Bool) (it a : Addr) (i : Nat) (h : Heap) : Prop := if b then h.IsTupleIter it a i else h.IsListIter it a i
def srcOf (b : Bool) (a : Addr) (items : Array Value) (h : Heap) : Prop := if b then h.IsTuple a items else h.IsList a items
theorem src_draws {prog : Program} {w : World} {A : Around} (b : Bool) (hh : A.handled = none) (it a : Addr) (hne : a ≠ it) (items : Array Value) :
    Draws prog w A it [it, a] items.size (fun i v => items[i]? = some v) (fun i h => srcAt b it a i h ∧ srcOf b a items h) := by
  cases b with
  | true => exact Draws.tuple hh it a hne items
  | false => exact Draws.list hh it a hne items
theorem src_inv {X : Cx} {pins : List (Addr × Obj)} {σ : L2.St} {H : Hp} {s : Shared} {b : Bool} {a : Addr} {xs : List V} (I : Inv X pins σ H s) (h : SqB X.K b H a xs) : ∃ its, Vals xs its ∧ srcOf b a its.toArray s.heap := by
  cases b with
  | true =>
    obtain ⟨its, rv, p, hz⟩ := I.tuple h
    exact ⟨its, rv, p⟩
  | false =>
    obtain ⟨its, rv, p, hz⟩ := I.list h
    exact ⟨its, rv, p.isList⟩
theorem srcAt.at {b : Bool} {it a : Addr} {i : Nat} {h h' : Heap} (x : srcAt b it a i h) (k : ∀ o, h.get? it = some o → h'.get? it = some o) : srcAt b it a i h' := by
  cases b with
  | true => exact Heap.IsTupleIter.at x k
  | false => exact Heap.IsListIter.at x k
theorem srcAt.obj {b : Bool} {it a : Addr} {i : Nat} {h : Heap} (x : srcAt b it a i h) : ∃ o, h.get? it = some o ∧ ∀ v, o.data ≠ .cell v := by
  cases b with
  | true =>
    obtain ⟨o, ho, hc, hd⟩ := x
    exact ⟨o, ho, fun v q => by rw [hd] at q; cases q⟩
  | false =>
    obtain ⟨o, ho, hc, hd⟩ := x
    exact ⟨o, ho, fun v q => by rw [hd] at q; cases q⟩
theorem sqB_inj {X : Cx} {pins : List (Addr × Obj)} {σ : L2.St} {H : Hp} {s : Shared} {b : Bool} {a : Addr} {xs ys : List V} (I : Inv X pins σ H s) (h : SqB X.K b H a xs) (h' : SqB X.K b H a ys) : xs = ys := by
  cases b with
  | true => exact I.tuple_inj h h'
  | false => exact I.list_inj h h'
theorem turn_enumC {P : Program} {w : World} {elts : List Expr} {kk : Nat} {tpos : Pos} (b : Bool) (a e it : Addr) (c : Int) :
    Turn P w K (.Tuple elts kk tpos) (IteC K b a c) [e, it] e (fun i h => (∃ old, IsEnum h e it (c + (i : Nat)) old) ∧ srcAt b it a i h ∧ e ≠ it ∧ a ≠ it ∧ e ≠ a) where
  mem := by simp
  obj := fun i h st b' hb => by
    obtain ⟨⟨old, he⟩, hs, _⟩ := st
    have e' : b' = e ∨ b' = it := by simpa using hb
    rcases e' with z | z
    · rw [z]; exact ⟨_, he, fun v q => nomatch q⟩
    · rw [z]; exact hs.obj
  keep := fun i h h' st k => let ⟨⟨old, he⟩, hi, hne⟩ := st; ⟨⟨old, k e (by simp) _ he⟩, hi.at fun o q => k it (by simp) o q, hne⟩
  item := by
    intro X hP hw hK hc i pins s σ H E I hf st hg
    subst hP hw hK
    obtain ⟨⟨old, he⟩, hit, hne, hai, hea⟩ := st
    obtain ⟨xs, x, hq, hx⟩ := hg
    obtain ⟨its, rv, p⟩ := src_inv I hq
    obtain ⟨u, hu, ru⟩ := rv.get hx
    have hel : e < s.heap.objs.size := Heap.lt_size he
    have hil : it < s.heap.objs.size := by obtain ⟨_, q, _⟩ := hit.obj; exact Heap.lt_size q
    have hlt : i < its.toArray.size := by simpa using (List.getElem?_eq_some_iff.mp hu).1
    refine wpAny_pyNext_enum_itemC (src_draws (A := X.A.in1) b (show X.A.in1.handled = none from I.ok.hd hc) it a hai its.toArray) he ⟨hit, p⟩ hlt hne (by simp [hne, hea]) fun u' h' tk hPu ho hst' hT hsz hk => ?_
    have eu : u' = u := by
      have h1 : its[i]? = some u' := by simpa using hPu
      rw [hu] at h1
      injection h1 with h1
      exact h1.symm
    subst eu
    refine ⟨_, rfl, wpAny_letOwnedTupleGo_enum (s := { s with heap := h', toks := tk + 1 }) ho fun h'' he' sb => ?_⟩
    have hT2 : h''.get? s.heap.objs.size = some { cls := .type "tuple", data := .seq #[.int (c + (i : Nat)) tk, u'] } := (sb.2 _ (Nat.ne_of_gt hel)).trans hT
    have new : ObjOk X.prog X.w (upd H s.heap.objs.size (.tup [.int (c + (i : Nat)), x])) h'' s.heap.objs.size (.tup [.int (c + (i : Nat)), x]) :=
      ⟨by show 2 ≤ sizeLine; decide, [.int (c + (i : Nat)) tk, u'], .cons ⟨_, rfl⟩ (.cons ru .nil), ⟨_, hT2, rfl, _, rfl⟩⟩
    have I1 : Inv X pins σ (upd H s.heap.objs.size (.tup [.int (c + (i : Nat)), x])) { s with heap := h'', toks := tk + 1 } :=
      I.turnedNew (ch := [e, it]) (fun b ob hb q => (sb.2 b (fun z => hb (by simp [z]))).trans (hk b ob (fun z => hb (by simp [z])) (fun z => hb (by simp [z])) q)) hf (Nat.le_refl _) new
    refine ⟨.ref s.heap.objs.size, _, I1, rfl, ⟨_, x, rfl, I.hok.fresh (Nat.le_refl _), rfl, fun ys hy => by rw [sqB_inj I hy hq]; exact hx⟩, ⟨⟨u', ?_⟩, hst'.1.at fun o q => (sb.2 it (Ne.symm hne)).trans q, hne, hai, hea⟩, fun b hb => ?_⟩
    · have e1 : c + ((i + 1 : Nat) : Int) = c + (i : Nat) + 1 := by omega
      rw [e1]; exact he'
    · have hb' : b < s.heap.objs.size := by
        have e' : b = e ∨ b = it := by simpa using hb
        rcases e' with z | z
        · rw [z]; exact hel
        · rw [z]; exact hil
      rw [upd_ne (Nat.ne_of_lt hb')]
      exact (hf b hb).1
  done := by
    intro X hP hw hK hc i pins s σ H E I hf st hg
    subst hP hw hK
    obtain ⟨⟨old, he⟩, hit, hne, hai, hea⟩ := st
    obtain ⟨xs, hq, hx⟩ := hg
    obtain ⟨its, rv, p⟩ := src_inv I hq
    obtain ⟨f0, f1, f2, f3, f4, f5⟩ := hf it (by simp)
    have hl := rv.length
    have ei : its.toArray.size = i := by simp; omega
    exact wpAny_pyNext_enum_endD (src_draws (A := X.A.in1) b (show X.A.in1.handled = none from I.ok.hd hc) it a hai its.toArray) he (by rw [ei]; exact ⟨hit, p⟩) fun h' eb => ⟨rfl, I.turned (t' := s.toks) (fun b o hb q => eb b o hb q) f0 f1 f3 f4 f5⟩
  self := fun A i s Q E st h => let ⟨⟨_, he⟩, _⟩ := st; wpAny_pyIter_enum he h
/-- at turn i: a new pair of c + i and the item -/
def YEn (c : Int) (xs : List V) : Nat → Hp → V → Hp → Prop := fun i H v H' => ∃ T x, v = .ref T ∧ H T = none ∧ H' = upd H T (.tup [.int (c + (i : Nat)), x]) ∧ xs[i]? = some x
def iEnX (K : Frag) (c : Int) (ta : TA) : TI := fun σ H R => ta σ H fun vs H1 => ∃ a xs, vs = [.ref a] ∧ (SqL K H1 a xs ∨ SqT K H1 a xs) ∧ ∀ J, Walk J xs.length (fun H => Same H1 H) (YEn c xs) → R J H1
theorem sqB_same {b : Bool} {H H' : Hp} {a : Addr} {xs : List V} (h : SqB K b H a xs) (s : Same H H') : SqB K b H' a xs := by
  cases b with
  | true => exact sqT_same h s
  | false => exact sqL_same h s
theorem walk_enumC {b : Bool} {a : Addr} {xs : List V} {c : Int} {H1 : Hp} (h : SqB K b H1 a xs) : Walk (IteC K b a c) xs.length (fun H => Same H1 H) (YEn c xs) :=
  ⟨fun i H hi s => ⟨xs, xs[i], sqB_same h s, List.getElem?_eq_getElem hi⟩, fun H s => ⟨xs, sqB_same h s, rfl⟩, fun i H v H' hi s y => let ⟨T, x, h1, h2, h3, h4⟩ := y; ⟨T, x, h1, h2, h3, h4 xs (sqB_same h s)⟩⟩
theorem pi_enumX {X : Cx} {e : Expr} {ta : TA} {p pos tpos : Pos} {elts : List Expr} {kk : Nat} (hK : X.K = K) (hg : Gl X "enumerate") (hm : X.mg "enumerate" = none) (ha : PA X [e] ta) (hs : starEach [e] X.env = [(false, eval e X.env)] := by rfl) :
    PI X (.Tuple elts kk tpos) (.Call (.Name "enumerate" p) [e] [] pos) (iEnX K 0 ta) := by
  subst hK
  refine ⟨fun pins s σ H R I h => ?_⟩
  refine Call_ (ld_blt I hg hm boot_enumerate (PyProof.Rows.callWith_type1 (thn (ha.run pos pins s σ H _ I h) fun us s1 ⟨vs, H1, I1, r1, q1⟩ => ?_) hs rfl))
  obtain ⟨a, xs, ex, hq, q⟩ := q1
  subst ex
  cases r1 with
  | cons r rr =>
    cases rr
    cases r
    have fin : ∀ (b : Bool) (h' : Heap), SqB X.K b H1 a xs → IsEnum h' (s1.heap.objs.size + 1) s1.heap.objs.size 0 .none → srcAt b s1.heap.objs.size a 0 h' → a < s1.heap.objs.size → (∀ b o, s1.heap.get? b = some o → h'.get? b = some o) → PIE X pins σ (.Tuple elts kk tpos) R (.ref (s1.heap.objs.size + 1)) { s1 with heap := h' } := fun b h' hB he hit hlt hk => by
      have I2 : Inv X pins σ H1 { s1 with heap := h' } := I1.kept (t' := s1.toks) hk
      refine ⟨s1.heap.objs.size + 1, [s1.heap.objs.size + 1, s1.heap.objs.size], _, IteC X.K b a 0, H1, rfl, I2, turn_enumC b a (s1.heap.objs.size + 1) s1.heap.objs.size 0, ⟨⟨.none, he⟩, hit, Nat.succ_ne_self _, Nat.ne_of_lt hlt, Nat.ne_of_gt (Nat.lt_succ_of_lt hlt)⟩, fun b hb => ?_, q _ (walk_enumC hB)⟩
      have e' : b = s1.heap.objs.size + 1 ∨ b = s1.heap.objs.size := by simpa using hb
      have hle : s1.heap.objs.size ≤ b := by
        rcases e' with z | z
        · rw [z]; exact Nat.le_add_right _ _
        · rw [z]; exact Nat.le_refl _
      exact I1.fpOk hle (I1.hok.fresh hle)
    rcases hq with hq | hq
    · obtain ⟨its, rv, p', hz⟩ := I1.list hq
      have hL := p'.isList
      refine enum_begins1 (begins_list a its.toArray) hL fun h' he hit hsz hk => wpAny_pyIter_enum he (fin false h' hq he ⟨_, hit, rfl, rfl⟩ (by obtain ⟨_, z, _⟩ := hL; exact Heap.lt_size z) hk)
    · obtain ⟨its, rv, p', hz⟩ := I1.tuple hq
      refine enum_begins1 (begins_tuple a its.toArray) p' fun h' he hit hsz hk => wpAny_pyIter_enum he (fin true h' hq he ⟨_, hit, rfl, rfl⟩ (by obtain ⟨_, z, _⟩ := p'; exact Heap.lt_size z) hk)
/-- a for over enumerate(..) of what stands -/
theorem for_enX {J : It} {xs : List V} {c : Int} {H0 : Hp} (w : Walk J xs.length (fun H => Same H0 H) (YEn c xs)) {g : TG} {tb : TS} {D : Ends} {σ : L2.St} {H : Hp} (Pv : Nat → L2.St → Hp → Prop) (h0 : Pv 0 σ H) (hG : ∀ i σ H, i ≤ xs.length → Pv i σ H → Same H0 H)
    (hs : ∀ i x σ H T, xs[i]? = some x → Pv i σ H → H T = none → g (.ref T) σ (upd H T (.tup [.int (c + (i : Nat)), x])) fun σ2 H2 => tb { D with nx := Pv (i + 1), ct := Pv (i + 1), bk := D.nx } σ2 H2) (hd : ∀ σ H, Pv xs.length σ H → D.nx σ H) :
    ∃ W : Nat → Nat → L2.St → Hp → Prop, (∃ m, W 0 m σ H) ∧ ∀ i m σ H, W i m σ H →
      (J.stop i H ∧ D.nx σ H) ∨ (J.go i H ∧ ∃ N : L2.St → Hp → Prop, (∀ σ' H', N σ' H' → ∃ m', m' < m ∧ W (i + 1) m' σ' H') ∧ ∀ x H', J.yld i H x H' → g x σ H' fun σ2 H2 => tb { D with nx := N, ct := N, bk := D.nx } σ2 H2) :=
  for_it w Pv h0 hG (fun i x σ H H' _ p y => by
    obtain ⟨T, v, rfl, h2, rfl, e⟩ := y
    exact hs i v σ H T e p h2) hd
end
end S
namespace S
open PySem PySem.Spec PyProof.Rows L2
/-! f(e, ..), f an instance of a plain class with its own __call__ -/
def tCallX (C : Addr) (sp : Sp) (E : L2.St → XK) (tf : TE) (t : TA) : TE := fun σ H Q => tf σ H fun y H1 => ∃ a, y = V.ref a ∧ t σ H1 fun vs H2 => (∃ dx fs, H2 a = some (.ins C dx fs)) ∧ sp (V.ref a :: vs) H2 Q (E σ)
theorem pe_callX {X : Cx} {fe e : Expr} {es : List Expr} {pos : Pos} {C g : Addr} {k : Nat} {sp : Sp} {E : L2.St → XK} {tf : TE} {t : TA} (hf : PE X fe tf) (c : StX.CallO X.K C g) (F : FnR X.prog X.w X.K X.mg X.base (L2.CX X.prog X.w) k g sp) (hr : Room k X.A) (hx : ∀ σ, PassesAt (L2.CX X.prog X.w) X σ (E σ)) (ha : PA X (e :: es) t)
    (ht : eval (.Call fe (e :: es) [] pos) X.env = (do callWith pos (← eval fe X.env) [] (backTo pos (starEach (e :: es) X.env)) (backToKw pos (keywordEach [] X.env))) := by rfl)
    (he : starEach (e :: es) X.env = (false, eval e X.env) :: starEach es X.env := by rfl) (hpl : (backTo pos (starEach es X.env)).any (·.1) = false := by rfl) : PE X (.Call fe (e :: es) [] pos) (tCallX C sp E tf t) := by
  refine ⟨fun pins s σ H Q I h => ?_⟩
  refine Call_ (thn (hf.run pins s σ H _ I h) fun u s1 ⟨y, H1, I1, ry, a, ey, q⟩ => ?_) ht
  subst ey
  obtain rfl : u = Value.ref a := ry
  refine StX.callO_with (thn (ha.run pos pins s1 σ H1 _ I1 q) fun us s2 ⟨vs, H2, I2, r, hi, q2⟩ => ?_) he hpl
  obtain ⟨ox, od, J, hd⟩ := StX.insC_at (X := X) I2 (.inr hi)
  exact ⟨⟨C, ox, od, J, hd⟩, wpAny_call (PySem.W.kco_code I2.kIn J hd c.at_ c.fn c.fi (run_at0 (us := .ref a :: us) (vs := .ref a :: vs) F hr I2 (hx σ) (.cons rfl r) q2))⟩
end S
namespace S
open PySem PySem.Spec PyProof.Rows L2
/-! ### enumerate(x, start=k) over a list or a tuple; the walk asks only that it stands -/
section
open PySem.Calls
variable {K : Frag}
def iEnS (K : Frag) (ta tk : TA) : TI := fun σ H R => ta σ H fun vs H1 => tk σ H1 fun zs H2 => ∃ (a : Addr) (xs : List V) (b : Bool) (c : Int), vs = [.ref a] ∧ zs = [.int c] ∧ 0 ≤ c ∧ c < 2 ^ 62 ∧ SqB K b H2 a xs ∧ ∀ J, Walk J xs.length (fun H => SqB K b H a xs) (YEn c xs) → R J H2
theorem walk_enumS {b : Bool} {a : Addr} {xs : List V} {c : Int} : Walk (IteC K b a c) xs.length (fun H => SqB K b H a xs) (YEn c xs) :=
  ⟨fun i H hi s => ⟨xs, xs[i], s, List.getElem?_eq_getElem hi⟩, fun H s => ⟨xs, s, rfl⟩, fun i H v H' hi s y => let ⟨T, x, h1, h2, h3, h4⟩ := y; ⟨T, x, h1, h2, h3, h4 xs s⟩⟩
theorem callWith_typeKw {M : Model} {A : Around} {E : Value → Shared → Prop} {s : Shared} {env : Env} {pos : Pos} {T : String} {e : Expr} {kws : List Keyword} {Q : Value → Shared → Prop}
    (h : wpAny M A (spliced (backTo pos (starEach [e] env))) (fun vs s₁ => wpAny M A (evalAll ((backToKw pos (keywordEach kws env)).map (·.2)))
      (fun kvs s₂ => wpAny M A (call (.type T) vs (((backToKw pos (keywordEach kws env)).filterMap (·.1)).zip kvs)) Q E s₂) E s₁) E s)
    (he : backTo pos (starEach [e] env) = (false, eval e env) :: backTo pos (starEach [] env) := by rfl)
    (hplain : (backTo pos (starEach [e] env)).any (·.1) = false := by rfl)
    (hall : (backToKw pos (keywordEach kws env)).all (·.1.isSome) = true := by rfl)
    (hkw : (backToKw pos (keywordEach kws env)).any (·.1.isNone) = false := by rfl) :
    wpAny M A (callWith pos (.type T) [] (backTo pos (starEach [e] env)) (backToKw pos (keywordEach kws env))) Q E s := by
  unfold callWith
  refine wpAny_bind (wpAny_holding (wpAny_mono (Q := fun a s₁ => wpAny M A (call (.type T) ([] ++ a.pos) a.kw) Q E s₁) ?_ (fun a s₁ h₁ => wpAny_bind (wpAny_standAt ?_)) fun _ _ x => x))
  · rw [he] at h ⊢
    exact evalArgs_kwB hall h
  · simp only [hplain, hkw, Bool.or_false]
    refine wpAny_bind (wpAny_pure ?_)
    exact wpAny_bind (wpAny_mono h₁ (fun r s₂ hr => wpAny_bind (wpAny_holding (wpAny_point (wpAny_pure hr)))) fun _ _ x => x)
theorem pi_enumS {X : Cx} {e e2 : Expr} {ta tk : TA} {p pos tpos kpos : Pos} {elts : List Expr} {kk : Nat} (hK : X.K = K) (hg : Gl X "enumerate") (hm : X.mg "enumerate" = none) (ha : PA X [e] ta) (hk : PK X [⟨some "start", e2, kpos⟩] tk)
    (he : backTo pos (starEach [e] X.env) = (false, eval e X.env) :: backTo pos (starEach [] X.env) := by rfl) (hpl : (backTo pos (starEach [e] X.env)).any (·.1) = false := by rfl) :
    PI X (.Tuple elts kk tpos) (.Call (.Name "enumerate" p) [e] [⟨some "start", e2, kpos⟩] pos) (iEnS K ta tk) := by
  subst hK
  refine ⟨fun pins s σ H R I h => ?_⟩
  refine wpAny_Call_Name_kw (ld_blt I hg hm boot_enumerate (callWith_typeKw (thn (ha.run pos pins s σ H _ I h) fun us s0 ⟨vs, H0, I0, r1, q0⟩ => thn (hk.run pos pins s0 σ H0 _ I0 q0) fun ws s1 ⟨zs, H1, I1, r2, q1⟩ => ?_) he hpl))
  obtain ⟨a, xs, b, c, ex, ez, c0, c1, hq, q⟩ := q1
  subst ex
  subst ez
  cases r1 with
  | cons r rr =>
    cases rr
    cases r
    cases r2 with
    | cons r' rr' =>
      cases rr'
      obtain ⟨tc, rfl⟩ := r'
      have fin : ∀ (h' : Heap), IsEnum h' (s1.heap.objs.size + 1) s1.heap.objs.size c .none → srcAt b s1.heap.objs.size a 0 h' → a < s1.heap.objs.size → (∀ b o, s1.heap.get? b = some o → h'.get? b = some o) → PIE X pins σ (.Tuple elts kk tpos) R (.ref (s1.heap.objs.size + 1)) { s1 with heap := h' } := fun h' he hit hlt hk => by
        have I2 : Inv X pins σ H1 { s1 with heap := h' } := I1.kept (t' := s1.toks) hk
        refine ⟨s1.heap.objs.size + 1, [s1.heap.objs.size + 1, s1.heap.objs.size], _, IteC X.K b a c, H1, rfl, I2, turn_enumC b a (s1.heap.objs.size + 1) s1.heap.objs.size c, ⟨⟨.none, by rw [show c + ((0 : Nat) : Int) = c by omega]; exact he⟩, hit, Nat.succ_ne_self _, Nat.ne_of_lt hlt, Nat.ne_of_gt (Nat.lt_succ_of_lt hlt)⟩, fun b hb => ?_, q _ walk_enumS⟩
        have e' : b = s1.heap.objs.size + 1 ∨ b = s1.heap.objs.size := by simpa using hb
        have hle : s1.heap.objs.size ≤ b := by
          rcases e' with z | z
          · rw [z]; exact Nat.le_add_right _ _
          · rw [z]; exact Nat.le_refl _
        exact I1.fpOk hle (I1.hok.fresh hle)
      cases b with
      | false =>
        obtain ⟨its, rv, p', hz⟩ := I1.list hq
        have hL := p'.isList
        exact enum_begins_start (begins_list a its.toArray) hL (by omega) (by omega) fun h' he hit hsz hk => wpAny_pyIter_enum he (fin h' he ⟨_, hit, rfl, rfl⟩ (by obtain ⟨_, z, _⟩ := hL; exact Heap.lt_size z) hk)
      | true =>
        obtain ⟨its, rv, p', hz⟩ := I1.tuple hq
        exact enum_begins_start (begins_tuple a its.toArray) p' (by omega) (by omega) fun h' he hit hsz hk => wpAny_pyIter_enum he (fin h' he ⟨_, hit, rfl, rfl⟩ (by obtain ⟨_, z, _⟩ := p'; exact Heap.lt_size z) hk)
/-- a for over enumerate(.., start=c) -/
theorem for_enS {J : It} {b : Bool} {a : Addr} {xs : List V} {c : Int} (w : Walk J xs.length (fun H => SqB K b H a xs) (YEn c xs)) {g : TG} {tb : TS} {D : Ends} {σ : L2.St} {H : Hp} (Pv : Nat → L2.St → Hp → Prop) (h0 : Pv 0 σ H) (hG : ∀ i σ H, i ≤ xs.length → Pv i σ H → SqB K b H a xs)
    (hs : ∀ i x σ H T, xs[i]? = some x → Pv i σ H → H T = none → g (.ref T) σ (upd H T (.tup [.int (c + (i : Nat)), x])) fun σ2 H2 => tb { D with nx := Pv (i + 1), ct := Pv (i + 1), bk := D.nx } σ2 H2) (hd : ∀ σ H, Pv xs.length σ H → D.nx σ H) :
    ∃ W : Nat → Nat → L2.St → Hp → Prop, (∃ m, W 0 m σ H) ∧ ∀ i m σ H, W i m σ H →
      (J.stop i H ∧ D.nx σ H) ∨ (J.go i H ∧ ∃ N : L2.St → Hp → Prop, (∀ σ' H', N σ' H' → ∃ m', m' < m ∧ W (i + 1) m' σ' H') ∧ ∀ x H', J.yld i H x H' → g x σ H' fun σ2 H2 => tb { D with nx := N, ct := N, bk := D.nx } σ2 H2) :=
  for_it w Pv h0 hG (fun i x σ H H' _ p y => by
    obtain ⟨T, v, rfl, h2, rfl, e⟩ := y
    exact hs i v σ H T e p h2) hd
end
end S
namespace S
open PySem PySem.Spec PyProof.Rows L2
section
variable {X : Cx} {K : Frag}
/-- l[::-1] -/
theorem pe_revK (hK : X.K = K) {e : Expr} {te : TE} {k : Nat} {p1 p2 p3 pos : Pos} (he : PE X e te) : PE X (.Subscript e (.Slice none none (some (.UnaryOp .USub (.Constant (.int 1) k p1) p2)) p3) pos) (tRevL K te) := hK ▸ pe_revL he
end
end S
namespace S
open PySem PySem.Spec PyProof.Rows L2
/-! text * number; d.copy() -/
section
variable {X : Cx}
def repS (z : Str) (k : Nat) : Str := ⟨(List.replicate k z.cps).foldl (· ++ ·) #[]⟩
theorem rep_size (c : Array Nat) : ∀ (k : Nat) (acc : Array Nat), ((List.replicate k c).foldl (· ++ ·) acc).size = acc.size + c.size * k
  | 0, acc => by simp
  | k + 1, acc => by
    rw [List.replicate_succ, List.foldl_cons, rep_size c k, Array.size_append, Nat.mul_succ]
    omega
theorem repS_len (z : Str) (k : Nat) : (repS z k).length = z.length * k := by
  show ((List.replicate k z.cps).foldl (· ++ ·) #[]).size = z.cps.size * k
  rw [rep_size]
  simp
theorem tooLong_no {n : Nat} (h : n ≤ 1000) : Builtin.Str.tooLong n = false := by
  unfold Builtin.Str.tooLong
  exact decide_eq_false (by have : (1000 : Nat) ≤ sizeLine := by decide
                            omega)
theorem op_rep_str : OpR X (binaryOp .Mult) (fun x y H Q => ∃ (z : Str) (k : Int), x = .str z ∧ y = .int k ∧ 2 ≤ k ∧ 1 ≤ z.length ∧ z.length * k.toNat ≤ 1000 ∧ Q (.str (repS z k.toNat)) H) := by
  intro pins s σ H x y v u Q I rx ry h
  obtain ⟨z, k, rfl, rfl, k2, z1, zk, q⟩ := h
  obtain ⟨t, rfl⟩ := rx
  obtain ⟨t', rfl⟩ := ry
  have kk : k.toNat ≤ 1000 := Nat.le_trans (Nat.le_mul_of_pos_left _ z1) zk
  have zi : (z.length : Int) * k ≤ 1000 := by
    have : ((z.length * k.toNat : Nat) : Int) ≤ 1000 := by omega
    rw [Int.natCast_mul, Int.toNat_of_nonneg (by omega)] at this
    exact this
  refine P.mul_str (by simp; omega) (fun _ _ => ?_) (fun _ _ => ?_) ?_
  · have : (z.length : Int) ≤ (2 ^ 63 - 1) / k := by
      rw [Int.le_ediv_iff_mul_le (by omega)]
      omega
    omega
  · exact tooLong_no zk
  · rw [if_neg (by omega), if_neg (by simp; omega)]
    exact ⟨Nat.le_trans (show (repS z k.toNat).length ≤ 1000 by rw [repS_len]; exact zk) (by decide), ⟨.str (repS z k.toNat), H, I.tok _, ⟨_, rfl⟩, q⟩⟩
def rDCopy : V → List V → Hp → VK → Prop := fun x xs H Q => ∃ a kvs, x = .ref a ∧ xs = [] ∧ H a = some (.dK kvs) ∧ ∀ p, H p = none → Q (.ref p) (upd H p (.dK kvs))
theorem mt_dcopy : MtR X "dict.copy" rDCopy := by
  intro pins s σ H x vs v us Q I rx rv h
  obtain ⟨a, kvs, rfl, rfl, hH, q⟩ := h
  cases rx
  have hus := rv.zero
  subst hus
  obtain ⟨z, hd, vs, rel, dd⟩ := dk_rd I.hok (.inl hH)
  refine call_meetsIn PySem.F.slot_dict_copy dd.typeIs PySem.F.entry_dict_copy (PySem.F.args_dict_copy_1 _) (meets_dict_copy (mixKind X.prog X.w) a hd) ⟨vs, dd, by rw [← rel.length]; exact z, fun h' dd' _ hs => ?_⟩
  refine ⟨.ref _, upd H s.heap.objs.size (.dK kvs), ?_, rfl, q _ (I.hok.fresh (Nat.le_refl _))⟩
  exact I.laid (a := s.heap.objs.size) (o := .dK kvs) (t' := s.toks) (fun b q hq => hs b q hq) (Nat.le_refl _) (dk_new z (beq_eq_false_iff_ne.mpr (Ne.symm (Nat.ne_of_lt I.big))) rel dd')
end
end S
namespace S
open PySem PySem.Spec PyProof.Rows L2
/-! ### dicts whose keys are tuples of ints, bools, texts and None -/
/-- a plain item of a key -/
def flV : V → Bool
  | .non => true
  | .bl _ => true
  | .int _ => true
  | .str _ => true
  | _ => false
def nkV : V → NestedKey
  | .bl b => .num (if b = true then 1 else 0)
  | .int i => .num i
  | .str x => .text x
  | _ => .none
def nkL (xs : List V) : NestedKey := .tup (xs.map nkV)
abbrev DxE := List V × Addr × V
def DxR (p : DxE) (q : NestedKey × Addr × Value) : Prop := q.1 = nkL p.1 ∧ q.2.1 = p.2.1 ∧ RelV p.2.2 q.2.2
/-- the dict at d: its keys, where their tuples stand, its values -/
def DXo (P : Program) (w : World) (kvs : List DxE) (d : Addr) : HO := .ext fun h => kvs.length ≤ sizeLine ∧ (d == sysModules) = false ∧ ∃ xs : List (NestedKey × Addr × Value), Paired DxR kvs xs ∧
  ∃ o es ep, h.get? d = some o ∧ o.ExactDict ∧ o.data = .dict es ep ∧ es.toList = xs.map (entryOfKey (nestedKind P w)) ∧ (xs.map (·.1)).Nodup
def KeysAt (H : Hp) (kvs : List DxE) : Prop := ∀ e ∈ kvs, (∀ v ∈ e.1, flV v = true) ∧ H e.2.1 = some (.tup e.1)
theorem KeysAt.same {H H' : Hp} {kvs : List DxE} (h : KeysAt H kvs) (s : Same H H') : KeysAt H' kvs := fun e he => ⟨(h e he).1, s _ _ (h e he).2⟩
def dxGet (kvs : List DxE) (k : List V) : Option V := (kvs.find? fun e => decide (nkL e.1 = nkL k)).map (·.2.2)
def dxPut (kvs : List DxE) (k : List V) (b : Addr) (v : V) : List DxE := if (dxGet kvs k).isSome then kvs.map fun e => if nkL e.1 = nkL k then (e.1, e.2.1, v) else e else kvs ++ [(k, b, v)]
section
variable {P : Program} {w : World} {H : Hp} {h : Heap} {d b : Addr} {kvs : List DxE}
theorem nk_all : ∀ {xs : List V} {us : List Value}, Vals xs us → (∀ v ∈ xs, flV v = true) → NestedAll h (xs.map nkV) us := by
  intro xs us r
  induction r with
  | nil => intro _; exact .nil
  | @cons x u xs us hx _ ih =>
    intro f
    refine .cons ?_ (ih fun v hv => f v (List.mem_cons_of_mem _ hv))
    have f1 := f x List.mem_cons_self
    cases x with
    | non => cases hx; exact .none
    | bl c => cases hx; exact .bool rfl
    | int i => obtain ⟨t, rfl⟩ := hx; exact .int i t
    | str z => obtain ⟨t, rfl⟩ := hx; exact .text z t
    | _ => cases f1
theorem nk_depth (xs : List V) : (nkL xs).depth ≤ 8 := by
  have h1 : ∀ x : V, (nkV x).depth ≤ 7 := fun x => by cases x <;> exact Nat.zero_le _
  have h2 : ∀ xs : List V, NestedKey.depthAll (xs.map nkV) ≤ 7 := by
    intro xs
    induction xs with
    | nil => exact Nat.zero_le _
    | cons x xs ih =>
      rw [List.map_cons]
      unfold NestedKey.depthAll
      exact Nat.max_le.mpr ⟨h1 x, ih⟩
  unfold nkL NestedKey.depth
  have := h2 xs
  omega
theorem nk_is (ok : HOk P w H h) {xs : List V} (e : H b = some (.tup xs)) (f : ∀ v ∈ xs, flV v = true) : (nestedKind P w).is h (nkL xs) b := by
  obtain ⟨_, its, r, o, h1, h2, n, h3⟩ := (show ObjOk P w H h b (.tup xs) from ok b _ e)
  exact ⟨.tup h1 h2 h3 (by simpa using nk_all r f), nk_depth xs⟩
theorem dx_of (ok : HOk P w H h) (e : Rd H d (DXo P w kvs d)) (t : KeysAt H kvs) : kvs.length ≤ sizeLine ∧ (d == sysModules) = false ∧ ∃ xs, Paired DxR kvs xs ∧ h.DictOfH (nestedKind P w) d xs := by
  obtain ⟨⟨z, y, xs, r, o, es, ep, h1, h2, h3, h4, h5⟩, _⟩ := (show ObjOk P w H h d (DXo P w kvs d) from rd_of ok e)
  refine ⟨z, y, xs, r, o, es, ep, h1, h2, h3, h4, fun x hx => ?_, h5⟩
  have all : ∀ {l : List DxE} {m : List (NestedKey × Addr × Value)}, Paired DxR l m → KeysAt H l → ∀ x ∈ m, (nestedKind P w).is h x.1 x.2.1 := by
    intro l m q
    induction q with
    | nil => intro _ x hx; exact nomatch hx
    | @cons p q ps qs hq t ih =>
      intro k x hx
      rcases List.mem_cons.mp hx with e | hx
      · subst e
        obtain ⟨k1, k2⟩ := k p List.mem_cons_self
        rw [hq.1, hq.2.1]
        exact nk_is ok k2 k1
      · exact ih (fun e he => k e (List.mem_cons_of_mem _ he)) x hx
  exact all r t x hx
theorem dx_val {xs : List (NestedKey × Addr × Value)} (r : Paired DxR kvs xs) (k : List V) : RelO (dxGet kvs k) ((atKey xs (nkL k)).map (·.2)) := by
  unfold dxGet atKey
  induction r with
  | nil => exact True.intro
  | @cons p q ps qs hq t ih =>
    rw [List.find?_cons, List.find?_cons, hq.1]
    by_cases c : nkL p.1 = nkL k
    · rw [decide_eq_true c]
      exact hq.2.2
    · rw [decide_eq_false c]
      exact ih
theorem dx_none {xs : List (NestedKey × Addr × Value)} (r : Paired DxR kvs xs) (k : List V) : (dxGet kvs k).isSome = (atKey xs (nkL k)).isSome := by
  have := (dx_val r k).isSome_eq
  rw [Option.isSome_map] at this
  exact this
theorem dxPut_len (kvs : List DxE) (k : List V) (b : Addr) (v : V) : (dxPut kvs k b v).length ≤ kvs.length + 1 := by
  unfold dxPut
  split
  · rw [List.length_map]; omega
  · rw [List.length_append]; exact Nat.le_refl _
theorem dx_put {xs : List (NestedKey × Addr × Value)} (r : Paired DxR kvs xs) (k : List V) (b : Addr) {v : V} {u : Value} (rv : RelV v u) : Paired DxR (dxPut kvs k b v) (storedH xs (nkL k) b u) := by
  have e := dx_none r k
  unfold dxPut storedH
  rw [e]
  by_cases q : (atKey xs (nkL k)).isSome = true
  · rw [if_pos q, if_pos q]
    clear e q
    induction r with
    | nil => exact .nil
    | @cons p q ps qs hq t ih =>
      refine .cons ?_ ih
      show DxR (if nkL p.1 = nkL k then (p.1, p.2.1, v) else p) (putAt (nkL k) u q)
      unfold putAt
      by_cases c : nkL p.1 = nkL k
      · rw [if_pos c, if_pos (hq.1.trans c)]
        exact ⟨hq.1, hq.2.1, rv⟩
      · rw [if_neg c, if_neg (fun z => c (hq.1.symm.trans z))]
        exact hq
  · rw [if_neg q, if_neg q]
    exact Paired.snoc r ⟨rfl, rfl, rv⟩
theorem dx_new {xs : List (NestedKey × Addr × Value)} (z : kvs.length ≤ sizeLine) (y : (d == sysModules) = false) (r : Paired DxR kvs xs) (m : h.DictOfH (nestedKind P w) d xs) : ObjOk P w H h d (DXo P w kvs d) := by
  obtain ⟨o, es, ep, h1, h2, h3, h4, _, h5⟩ := m
  refine ⟨⟨z, y, xs, r, o, es, ep, h1, h2, h3, h4, h5⟩, ⟨o, h1⟩, fun g1 g2 p k => ?_⟩
  obtain ⟨z, y, xs, r, o, es, ep, h1, h2⟩ := p
  exact ⟨z, y, xs, r, o, es, ep, k o h1, h2⟩
theorem dx_empty (h : Heap) (hb : sysModules < h.objs.size) : ObjOk P w H (h.push { cls := .type "dict", data := .dict #[] }) h.objs.size (DXo P w [] h.objs.size) :=
  dx_new (Nat.zero_le _) (beq_eq_false_iff_ne.mpr (Ne.symm (Nat.ne_of_lt hb))) .nil (Heap.DictOfH.new h)
end
/-! the rules -/
/-- {}: a dict of this kind -/
def tDNewX (P : Program) (w : World) : TE := fun _ H Q => ∀ p, H p = none → Q (.ref p) (upd H p (DXo P w [] p))
/-- the tuple at b is the key ks -/
def KeyAt (H : Hp) (b : Addr) (ks : List V) : Prop := H b = some (.tup ks) ∧ ∀ v ∈ ks, flV v = true
def rInX (P : Program) (w : World) (neg : Bool) : V → V → Hp → VK → Prop := fun x y H Q => ∃ (b d : Addr) (ks : List V) (kvs : List DxE), x = .ref b ∧ KeyAt H b ks ∧ y = .ref d ∧ Rd H d (DXo P w kvs d) ∧ KeysAt H kvs ∧
  Q (.bl (if neg then !(dxGet kvs ks).isSome else (dxGet kvs ks).isSome)) H
def tDGetX (P : Program) (w : World) (td ty : TE) : TE := fun σ H Q => td σ H fun x H1 => ty σ H1 fun y H2 => ∃ (b d : Addr) (ks : List V) (kvs : List DxE) (v : V), x = .ref d ∧ Rd H2 d (DXo P w kvs d) ∧ KeysAt H2 kvs ∧ y = .ref b ∧ KeyAt H2 b ks ∧ dxGet kvs ks = some v ∧ Q v H2
def sDPutX (P : Program) (w : World) (td ty tv : TE) : TS := fun D σ H => tv σ H fun v H1 => td σ H1 fun x H2 => ty σ H2 fun y H3 => ∃ (b d : Addr) (ks : List V) (kvs : List DxE), x = .ref d ∧ H3 d = some (DXo P w kvs d) ∧ KeysAt H3 kvs ∧ y = .ref b ∧ KeyAt H3 b ks ∧ kvs.length < sizeLine ∧
  D.nx σ (upd H3 d (DXo P w (dxPut kvs ks b v) d))
section
variable {X : Cx} {pos : Pos}
theorem room8 {A : Around} (hu : A.units + 64 < cLine) {P : Program} {w : World} : (nestedKind P w).room A.in1 := by
  show A.units + 1 + 8 < cLine
  omega
theorem pe_dnewX : PE X (.Dict [] [] pos) (tDNewX X.prog X.w) := ⟨fun pins s σ H Q I h =>
  wpAny_Dict_empty ⟨.ref s.heap.objs.size, _, I.laid (a := s.heap.objs.size) (o := DXo X.prog X.w [] s.heap.objs.size) (t' := s.toks) (fun _ _ q => Heap.get?_push_of_some _ q) (Nat.le_refl _) (dx_empty s.heap I.big), rfl, h _ (I.hok.fresh (Nat.le_refl _))⟩⟩
theorem or_inX (hu : X.A.units + 64 < cLine) : OpR X (compareOp .In) (rInX X.prog X.w false) := by
  intro pins s σ H x y v u Q I rx ry h
  obtain ⟨b, d, ks, kvs, rfl, kb, rfl, hd, ka, q⟩ := h
  cases rx
  cases ry
  obtain ⟨z, hs, xs, r, m⟩ := dx_of I.hok hd ka
  refine wpAny_in_heap (room8 hu) (nk_is I.hok kb.1 kb.2) hs m ⟨.bl (dxGet kvs ks).isSome, H, I.tok _, ?_, q⟩
  show Value.bool _ = Value.bool _
  rw [dx_none r]
theorem or_notInX (hu : X.A.units + 64 < cLine) : OpR X (compareOp .NotIn) (rInX X.prog X.w true) := by
  intro pins s σ H x y v u Q I rx ry h
  obtain ⟨b, d, ks, kvs, rfl, kb, rfl, hd, ka, q⟩ := h
  cases rx
  cases ry
  obtain ⟨z, hs, xs, r, m⟩ := dx_of I.hok hd ka
  refine wpAny_notIn_heap (room8 hu) (nk_is I.hok kb.1 kb.2) hs m ⟨.bl (!(dxGet kvs ks).isSome), H, I.tok _, ?_, q⟩
  show Value.bool _ = Value.bool _
  rw [dx_none r]
theorem pe_dgetX {o i : Expr} {td ty : TE} (hu : X.A.units + 64 < cLine) (ho : PE X o td) (hi : PE X i ty) (hs : NoSl i) : PE X (.Subscript o i pos) (tDGetX X.prog X.w td ty) := by
  refine ⟨fun pins s σ H Q I h => ?_⟩
  refine subD_of PySem.F.slot_dict_getitem.lookup hs (thn (ho.run pins s σ H _ I h) fun u s1 ⟨x, H1, I1, rx, q1⟩ => thn (hi.run pins s1 σ H1 _ I1 q1) fun iv s2 ⟨y, H2, I2, ry, b, d, ks, kvs, v, ex, hd, ka, ey, kb, g, q2⟩ => ?_)
  subst ex ey
  obtain rfl : u = Value.ref d := rx
  obtain rfl : iv = Value.ref b := ry
  obtain ⟨z, hs, xs, r, m⟩ := dx_of I2.hok hd ka
  obtain ⟨w', hw, rw'⟩ := RelO.some_of (v := v) (o := (atKey xs (nkL ks)).map (·.2)) (by rw [← g]; exact dx_val r ks)
  obtain ⟨p, hp, hp2⟩ := Option.map_eq_some_iff.mp hw
  refine ⟨m.typeIs, wpAny_getItem_heap (room8 hu) (nk_is I2.hok kb.1 kb.2) m hp ?_⟩
  rw [hp2]
  exact ⟨v, H2, I2.tok _, rw', q2⟩
theorem ps_dputX {o i value : Expr} {pos' : Pos} {td ty tv : TE} (hu : X.A.units + 64 < cLine) (ho : PE X o td) (hi : PE X i ty) (hv : PE X value tv) (hs : swapsWith value (some (.Subscript o i pos')) pos.line X.env = pure false) :
    PS X (.Assign [.Subscript o i pos'] value pos) (sDPutX X.prog X.w td ty tv) := by
  refine ⟨fun pins s σ H D I h => ?_⟩
  refine wpAny_Assign_Subscript (thn (hv.run pins s σ H _ I h) fun r s1 ⟨v, H1, I1, rv, q1⟩ => thn (ho.run pins s1 σ H1 _ I1 q1) fun u s2 ⟨x, H2, I2, rx, q2⟩ => thn (hi.run pins s2 σ H2 _ I2 q2) fun iv s3 ⟨y, H3, I3, ry, b, d, ks, kvs, ex, hd, ka, ey, kb, hl, q3⟩ => ?_) hs
  subst ex ey
  obtain rfl : u = Value.ref d := rx
  obtain rfl : iv = Value.ref b := ry
  obtain ⟨z, hsm, xs, rr, m⟩ := dx_of I3.hok (.inl hd) ka
  have hz : xs.length ≤ sizeLine := by rw [← Paired.length rr]; exact z
  have hl2 : (dxPut kvs ks b v).length ≤ sizeLine := by have := dxPut_len kvs ks b v; omega
  refine wpAny_setItem_heap (hsz := hz) (room8 hu) (nk_is I3.hok kb.1 kb.2) m fun h' m' hsb => ⟨σ, _, ?_, q3⟩
  have he : ∃ q, h'.get? d = some q := let ⟨q, _, _, hq, _⟩ := m'; ⟨q, hq⟩
  exact d_write I3 (by rw [hd]; exact True.intro) hsb he (dx_new hl2 hsm (dx_put rr ks b rv) m')
/-- len(d) -/
theorem len_body_raw {A : Around} {E : Value → Shared → Prop} {s : Shared} {d : Addr} {es : Array DictEntry} {ep : Nat} {Q : Value → Shared → Prop} {prog : Program} {w : World} (hd : (d == sysModules) = false) (hm : s.heap.DictRaw d es ep) (hfit : (es.size : Int) < 2 ^ 63)
    (h : Q (.int es.size (s.toks + 1)) { s with toks := s.toks + 1 + 1 }) : wpAny (model prog w) A (Builtin.«len» ⟨[.ref d], []⟩) (fun fin s' => ∃ r, fin = .done (.ret r) ∧ Q r s') E s := by
  unfold Builtin.«len»
  refine wpAny_bind (m := oneArg "len" _) (wpAny_pure ?_)
  refine wpAny_bind (m := callSpecial? (.ref d) (Str.ofString "__len__")) (wpAny_callSpecial?_slot (name := Str.ofString "__len__") hm.typeIs F.slot_dict_len
    (call_len_raw hd hm ?_))
  show wpAny _ _ _ _ _ { s with toks := s.toks + 1 }
  refine wpAny_bind (wpAny_holding (wpAny_pure ?_))
  refine wpAny_bind (wpAny_letGo ?_)
  show wpAny _ _ (if ((es.size : Nat) : Int) < 0 then _ else _) _ _ _
  rw [if_neg (by omega)]
  show wpAny _ _ (if ((es.size : Nat) : Int) ≥ 2 ^ 63 then _ else _) _ _ _
  rw [if_neg (by omega)]
  exact wpAny_bind (wpAny_mkInt (wpAny_pure ⟨_, rfl, h⟩))
def rLenX (P : Program) (w : World) : List V → Hp → VK → Prop := fun xs H Q => ∃ d kvs, xs = [V.ref d] ∧ Rd H d (DXo P w kvs d) ∧ KeysAt H kvs ∧ Q (.int kvs.length) H
theorem call_lenX : CallR X (.builtin "len") (rLenX X.prog X.w) := by
  intro pins s σ H xs us Q I r h
  obtain ⟨d, kvs, rfl, hd, ka, q⟩ := h
  obtain ⟨u, rfl, ru⟩ := r.one
  cases ru
  obtain ⟨z, hs, xs, rr, m⟩ := dx_of I.hok hd ka
  obtain ⟨es, ep, hr, hsz, _⟩ := m.raw
  have l : kvs.length = es.size := (Paired.length rr).trans hsz.symm
  refine Calls.call_function_entry kind_len plain_len entry_len (args_len1 _) (len_body_raw hs hr (by rw [← l]; rw [sizeLine_eq] at z; omega) ?_)
  exact ⟨.int kvs.length, H, I.tok _, ⟨_, by rw [l]⟩, q⟩
/-- list(d): the keys' own tuples -/
def rListX (P : Program) (w : World) : List V → Hp → VK → Prop := fun xs H Q => ∃ d kvs, xs = [V.ref d] ∧ Rd H d (DXo P w kvs d) ∧ ∀ p, H p = none → Q (.ref p) (upd H p (.lst (kvs.map fun e => V.ref e.2.1)))
theorem dx_addrs {kvs : List DxE} {xs : List (NestedKey × Addr × Value)} (r : Paired DxR kvs xs) : (xs.map fun x => x.2.1) = kvs.map fun e => e.2.1 := by
  induction r with
  | nil => rfl
  | @cons p q ps qs hq _ ih => rw [List.map_cons, List.map_cons, ih, hq.2.1]
theorem call_listX (hc : X.calm = true) : CallR X (.type "list") (rListX X.prog X.w) := by
  intro pins s σ H xs us Q I r h
  obtain ⟨d, kvs, rfl, hd, q⟩ := h
  obtain ⟨u, rfl, rx⟩ := r.one
  cases rx
  obtain ⟨⟨z, hs, ks, pr, o, es, ep, ho, hx, hdt, he, hn⟩, _⟩ := (show ObjOk X.prog X.w H s.heap d (DXo X.prog X.w kvs d) from hd.ok I.hok)
  have l1 : es.size = ks.length := size_of_entries he
  have l2 : kvs.length = ks.length := Paired.length pr
  refine PySem.W.kdl_call (kdl_raw hs hx hdt) (I.ok.hd hc) ho (by omega) fun h' tk acc' c' kp e it => ?_
  have ea : acc'.toList = ks.map fun x => Value.ref x.2.1 := by
    have hl : acc'.toList.length = ks.length := by rw [Array.length_toList, it.1]; exact l1
    apply List.ext_getElem?
    intro j
    rw [List.getElem?_map]
    cases hj : acc'.toList[j]? with
    | none =>
      have h1 := List.getElem?_eq_none_iff.mp hj
      rw [List.getElem?_eq_none (by omega)]
      all_goals rfl
    | some v =>
      obtain ⟨en, hen, hv⟩ := it.2 j v (by rw [← Array.getElem?_toList]; exact hj)
      have qe := entry_at he j
      rw [hen] at qe
      cases hb : ks[j]? with
      | none =>
        rw [hb] at qe
        exact nomatch (show some en = none from qe)
      | some b =>
        rw [hb] at qe
        have e2 : en = entryOfKey (nestedKind X.prog X.w) b := Option.some.inj qe
        rw [hv, e2]
        all_goals rfl
  have eb : acc'.toList = (ks.map fun x => x.2.1).map Value.ref := by rw [ea, List.map_map]; all_goals rfl
  have rv : Vals ((ks.map fun x => x.2.1).map V.ref) acc'.toList := by rw [eb]; exact vals_refs _
  have hz : ((ks.map fun x => x.2.1).map V.ref).length ≤ sizeLine := by rw [List.length_map, List.length_map]; omega
  have em : ((ks.map fun x => x.2.1).map V.ref) = kvs.map fun e => V.ref e.2.1 := by rw [dx_addrs pr, List.map_map]; all_goals rfl
  refine ⟨.ref s.heap.objs.size, _, I.laid (t' := tk) (o := .lst ((ks.map fun x => x.2.1).map V.ref)) kp (Nat.le_refl _) ?_, rfl, ?_⟩
  · exact ⟨hz, acc'.toList, c', rv, by rw [Array.toArray_toList]; exact e⟩
  · rw [em]
    exact q _ (I.hok.fresh (Nat.le_refl _))
/-! for k in d -/
def Itx (P : Program) (w : World) (d : Addr) (o : Obj) (kvs : List DxE) : It :=
  ⟨fun i H => H d = some (.frz o (DXo P w kvs d)) ∧ i < kvs.length, fun i H x H' => H' = H ∧ ∃ e : DxE, kvs[i]? = some e ∧ x = .ref e.2.1, fun i H => H d = some (.frz o (DXo P w kvs d)) ∧ kvs.length ≤ i⟩
theorem frzX {pins : List (Addr × Obj)} {σ : L2.St} {H : Hp} {s : Shared} {d : Addr} {o : Obj} {kvs : List DxE} (I : Inv X pins σ H s) (h : H d = some (.frz o (DXo X.prog X.w kvs d))) :
    (d == sysModules) = false ∧ s.heap.get? d = some o ∧ o.ExactDict ∧ ∃ (es : Array DictEntry) (ep : Nat), o.data = .dict es ep ∧ es.size = kvs.length ∧
      ∀ (i : Nat) (e : DxE), kvs[i]? = some e → ∃ en : DictEntry, es[i]? = some en ∧ en.key = .ref e.2.1 := by
  obtain ⟨hd, ⟨z, hs, xs, pr, o', es, ep, ho, hx, hdt, he, _⟩, _⟩ := I.hok d _ h
  rw [hd] at ho
  cases ho
  refine ⟨hs, hd, hx, es, ep, hdt, ?_, fun i e hi => ?_⟩
  · have l1 : es.size = xs.length := size_of_entries he
    have l2 : kvs.length = xs.length := Paired.length pr
    omega
  · obtain ⟨b, hb, e1, e2, _⟩ := paired_get pr hi
    have q := entry_at he i
    rw [hb] at q
    refine ⟨_, q, ?_⟩
    rw [← e2]
    rfl
theorem turn_keysX {P : Program} {w : World} {K : PySem.W.Frag} {tg : Expr} {d : Addr} {o : Obj} {es : Array DictEntry} {ep : Nat} {kvs : List DxE} (it : Addr) (hod : o.data = .dict es ep) : Turn P w K tg (Itx P w d o kvs) [it] it (fun i h => h.IsKeyIter it d i kvs.length ep) where
  mem := by simp
  obj := fun i h st b hb => by
    have e : b = it := by simpa using hb
    subst e
    obtain ⟨oi, e, c, dd⟩ := st
    exact ⟨oi, e, fun v z => by rw [dd] at z; cases z⟩
  keep := fun i h h' st k => st.at fun oi e => k it (by simp) oi e
  item := by
    intro X hP hw hK hc i pins s σ H E I hf st hg
    subst hP hw hK
    obtain ⟨hd, hi⟩ := hg
    obtain ⟨f0, f1, f2, f3, f4, f5⟩ := hf it (by simp)
    obtain ⟨hs, hgd, hx, es', ep', hdt, hsz, ent⟩ := frzX I hd
    obtain ⟨rfl, rfl⟩ := dict_ep hod hdt
    have hkv := List.getElem?_eq_getElem hi
    obtain ⟨en, hen, hkey⟩ := ent i _ hkv
    refine next_key_item st hgd hdt hsz hen fun h' st' sb => ?_
    have I1 : Inv X pins σ H { s with heap := h' } := I.turned (t' := s.toks) (fun b ob hb e => (sb.2 b hb).trans e) f0 f1 f3 f4 f5
    obtain ⟨oi, e, c, dd⟩ := id st'
    exact ⟨en.key, rfl, go_of (s := { s with heap := h' }) e c dd (by decide) ⟨.ref _, H, I1, hkey, ⟨rfl, _, hkv, rfl⟩, st', fun b hb => (hf b hb).1⟩⟩
  done := by
    intro X hP hw hK hc i pins s σ H E I hf st hg
    subst hP hw hK
    obtain ⟨hd, hi⟩ := hg
    obtain ⟨f0, f1, f2, f3, f4, f5⟩ := hf it (by simp)
    obtain ⟨hs, hgd, hx, es', ep', hdt, hsz, ent⟩ := frzX I hd
    obtain ⟨rfl, rfl⟩ := dict_ep hod hdt
    exact next_key_end (I.ok.hd hc) st hgd hdt hsz hi fun h' eb => ⟨rfl, I.turned (t' := s.toks) (fun b ob hb e => eb b ob hb e) f0 f1 f3 f4 f5⟩
  self := fun A i s Q E st h => wpAny_pyIter_keyiter st h
/-- the dict is locked (tLock, tLockE) -/
def iKeysX (P : Program) (w : World) (td : TE) : TI := fun σ H R => td σ H fun x H1 => ∃ d o kvs, x = .ref d ∧ H1 d = some (.frz o (DXo P w kvs d)) ∧ R (Itx P w d o kvs) H1
theorem pi_keysX {tg e : Expr} {td : TE} (he : PE X e td) : PI X tg e (iKeysX X.prog X.w td) := by
  refine ⟨fun pins s σ H R I h => ?_⟩
  refine thn (he.run pins s σ H _ I h) fun u s1 ⟨x, H1, I1, rx, d, o, kvs, ex, hd, q⟩ => ?_
  subst ex
  obtain rfl : u = Value.ref d := rx
  obtain ⟨hs, hgd, hx, es, ep, hdt, hsz, ent⟩ := frzX I1 hd
  refine iter_keys hs hgd hx hdt (pi_one (tk := s1.toks) I1 _ (turn_keysX _ hdt) ⟨_, Heap.get?_push_size _ rfl, rfl, ?_⟩ q)
  rw [hsz] <;> rfl
theorem walk_keysX {P : Program} {w : World} {d : Addr} {o : Obj} {kvs : List DxE} : Walk (Itx P w d o kvs) kvs.length (fun H => H d = some (.frz o (DXo P w kvs d))) (fun i H x H' => H' = H ∧ ∃ e : DxE, kvs[i]? = some e ∧ x = .ref e.2.1) :=
  ⟨fun _ _ hi q => ⟨q, hi⟩, fun _ q => ⟨q, Nat.le_refl _⟩, fun _ _ _ _ _ _ y => y⟩
end
/-! the rules, the program and the world named -/
section
variable {X : Cx} {P : Program} {w : World} {pos : Pos}
theorem pe_dnewP (hP : X.prog = P) (hw : X.w = w) : PE X (.Dict [] [] pos) (tDNewX P w) := by
  subst hP hw
  exact pe_dnewX
theorem or_inP (hP : X.prog = P) (hw : X.w = w) (hu : X.A.units + 64 < cLine) : OpR X (compareOp .In) (rInX P w false) := by
  subst hP hw
  exact or_inX hu
theorem or_notInP (hP : X.prog = P) (hw : X.w = w) (hu : X.A.units + 64 < cLine) : OpR X (compareOp .NotIn) (rInX P w true) := by
  subst hP hw
  exact or_notInX hu
theorem pe_dgetP {o i : Expr} {td ty : TE} (hP : X.prog = P) (hw : X.w = w) (hu : X.A.units + 64 < cLine) (ho : PE X o td) (hi : PE X i ty) (hs : NoSl i) : PE X (.Subscript o i pos) (tDGetX P w td ty) := by
  subst hP hw
  exact pe_dgetX hu ho hi hs
theorem ps_dputP {o i value : Expr} {pos' : Pos} {td ty tv : TE} (hP : X.prog = P) (hw : X.w = w) (hu : X.A.units + 64 < cLine) (ho : PE X o td) (hi : PE X i ty) (hv : PE X value tv) (hs : swapsWith value (some (.Subscript o i pos')) pos.line X.env = pure false) :
    PS X (.Assign [.Subscript o i pos'] value pos) (sDPutX P w td ty tv) := by
  subst hP hw
  exact ps_dputX hu ho hi hv hs
theorem call_lenP (hP : X.prog = P) (hw : X.w = w) : CallR X (.builtin "len") (rLenX P w) := by
  subst hP hw
  exact call_lenX
theorem call_listP (hP : X.prog = P) (hw : X.w = w) (hc : X.calm = true) : CallR X (.type "list") (rListX P w) := by
  subst hP hw
  exact call_listX hc
theorem pi_keysP {tg e : Expr} {td : TE} (hP : X.prog = P) (hw : X.w = w) (he : PE X e td) : PI X tg e (iKeysX P w td) := by
  subst hP hw
  exact pi_keysX he
end
end S
namespace S
open PySem PySem.Spec PyProof.Rows L2
/-! ### a dict comprehension into a dict of any kind: what the new dict is (o0), what a store does (ST) -/
structure Store (P : Program) (w : World) (A : Around) (o0 : Addr → HO) (ST : Addr → V → V → Hp → (Hp → Prop) → Prop) : Prop where
  new : ∀ (H : Hp) (h : Heap), sysModules < h.objs.size → ObjOk P w H (h.push { cls := .type "dict", data := .dict #[] }) h.objs.size (o0 h.objs.size)
  put : ∀ {X : Cx} {pins : List (Addr × Obj)} {σ : L2.St} {H : Hp} {s : Shared} {D : Addr} {y z : V} {u r : Value} {R : Hp → Prop} {Q : Unit → Shared → Prop} {E : Value → Shared → Prop}, X.prog = P → X.w = w →
    Inv X pins σ H s → RelV y u → RelV z r → ST D y z H R → (∀ s' H', Inv X pins σ H' s' → R H' → Q () s') → wpAny (model P w) A (dictSet D u r) Q E s
def tDcS (o0 : Addr → HO) (ST : Addr → V → V → Hp → (Hp → Prop) → Prop) (wi : TI) (g : TG) (tt : TT) (tk tv : TE) (vs : List Nat) : TE := fun σ H Q => wi σ H fun J H1 => ∀ D, H1 D = none → ∃ W : Nat → Nat → Hp → Prop, (∃ m, W 0 m (upd H1 D (o0 D))) ∧ ∀ i m H, W i m H →
  (J.stop i H ∧ Q (.ref D) H) ∨ (J.go i H ∧ ∃ Nx : Hp → Prop, (∀ H', Nx H' → ∃ m', m' < m ∧ W (i + 1) m' H') ∧ ∀ x H', J.yld i H x H' → g x (wipe σ vs) H' fun σ2 H2 => wipe σ2 vs = wipe σ vs ∧ tt σ2 H2 fun b H3 =>
    if b = true then tk σ2 H3 fun y H4 => tv σ2 H4 fun z H5 => ST D y z H5 Nx else Nx H3)
theorem pe_dcS {X : Cx} {kx vx tg iter : Expr} {ifs : List Expr} {scope : Scope} {own : List (Str × Nat)} {pos : Pos} {wi : TI} {g : TG} {tt : TT} {tk tv : TE} {o0 : Addr → HO} {ST : Addr → V → V → Hp → (Hp → Prop) → Prop} (B : Store X.prog X.w X.A o0 ST)
    (hc : X.calm = true) (hN : X.N.Nodup) (hi : PI X tg iter wi) (ok : BlkOk X.N X.env.scope scope own)
    (hg : ∀ (s : Shared) (H : Hp) (C : Addr) (cl : List (Str × Addr)) (fp : List Addr), PG (X.blk s H scope (compEnvC scope cl C X.env) fp) tg g)
    (ht : ∀ (s : Shared) (H : Hp) (C : Addr) (cl : List (Str × Addr)) (fp : List Addr), PTs (X.blk s H scope (compEnvC scope cl C X.env) fp) ifs tt)
    (hk : ∀ (s : Shared) (H : Hp) (C : Addr) (cl : List (Str × Addr)) (fp : List Addr), PE (X.blk s H scope (compEnvC scope cl C X.env) fp) kx tk)
    (he : ∀ (s : Shared) (H : Hp) (C : Addr) (cl : List (Str × Addr)) (fp : List Addr), PE (X.blk s H scope (compEnvC scope cl C X.env) fp) vx tv) (hs : ∀ x, foldedSetIterable iter X.env x = pure x := by intro _; rfl) :
    PE X (.DictComp kx vx [⟨tg, iter, ifs, 0⟩] scope pos) (tDcS o0 ST wi g tt tk tv (own.map (·.2))) := by
  refine ⟨fun pins s σ H Q I h => ?_⟩
  rw [arm_eval_DictComp]
  have clo : ∀ y ∈ scope.names, y.2 = .free → ∃ c, X.env.cells.lookup y.1 = some c := fun y hy e =>
    (ok.free y hy e).elim (fun k => I.ok.has _ (.inl k)) fun k => I.ok.has _ (.inr k)
  refine wpAny_comprehension_free rfl hs (closure_ok clo) ok.kind (fun y hy e => by rw [ok.uniq y hy, e]) (thn (hi.run pins s σ H _ I h) fun _ s1 hx => thn hx fun _ s2 h2 => ?_)
  obtain ⟨it, fp, tn, J, H2, rfl, I2, T, t2, f2, q⟩ := h2
  refine wpAny_newObj_type (newEnv_comp ?_)
  generalize hD : s2.heap.objs.size = D
  obtain ⟨W, ⟨m0, w0⟩, turn⟩ := q D (I2.hok.fresh (Nat.le_of_eq hD))
  -- behind the new dict
  generalize hs3 : ({ s2 with heap := s2.heap.push { cls := .type "dict", data := .dict #[] } } : Shared) = s3
  have h3 : s3.heap = s2.heap.push { cls := .type "dict", data := .dict #[] } := by rw [← hs3]
  have keep3 : ∀ b o, s2.heap.get? b = some o → s3.heap.get? b = some o := fun b o e => by rw [h3]; exact Heap.get?_push_of_some _ e
  have I3 : Inv X pins σ (upd H2 D (o0 D)) s3 := by
    subst hD hs3
    exact I2.laid (t' := s2.toks) (fun b o e => Heap.get?_push_of_some _ e) (Nat.le_refl _) (B.new _ _ I2.big)
  have f3 : ∀ b ∈ fp, FpOk X pins (upd H2 D (o0 D)) b ∧ b < s3.heap.objs.size := fun b hb => by
    obtain ⟨o, e, _⟩ := T.obj _ _ t2 b hb
    have lt := Heap.lt_size e
    exact ⟨⟨by rw [upd_ne (by rw [← hD]; exact Nat.ne_of_lt lt)]; exact (f2 b hb).1, (f2 b hb).2⟩, by rw [h3, Heap.size_push]; exact Nat.lt_succ_of_lt lt⟩
  have I4 := block_start I3 ok hN f3
  show codeAny _ _ (.compStart _ 0 (.ref it) (.ref D) (compEnvC scope (cellsFrom (s3.heap.objs.size + 1) scope.names (cloFrom X.env.cells scope.names [])) s3.heap.objs.size X.env)) _ { s3 with heap := pushCells (s3.heap.push { cls := .type "dict", data := .dict #[] }) scope.names }
  generalize hH3 : upd H2 D (o0 D) = H3 at I3 f3 I4 w0
  generalize hcl : cellsFrom (s3.heap.objs.size + 1) scope.names (cloFrom X.env.cells scope.names []) = cl at I4 ⊢
  have pg := hg s3 H3 s3.heap.objs.size cl fp
  have pt := ht s3 H3 s3.heap.objs.size cl fp
  have pk := hk s3 H3 s3.heap.objs.size cl fp
  have pe := he s3 H3 s3.heap.objs.size cl fp
  have cL : (compEnvC scope cl s3.heap.objs.size X.env).locals = s3.heap.objs.size := rfl
  have done : ∀ (s' : Shared) (m : _) (H' : Hp), Inv X pins σ H' s' → Q (.ref D) H' → s'.heap.Ns s3.heap.objs.size m → FpOk X pins H' s3.heap.objs.size → compPost (model X.prog X.w) X.A X.xe none (fun v s => ∃ x H', Inv X pins σ H' s ∧ RelV x v ∧ Q x H') (.ref D) s3.heap.objs.size (.ok .next) s' := fun s' m H' I' q' hn f => by
    obtain ⟨f0, f1, f2, f3, f4, f5⟩ := f
    exact ⟨m, hn, fun h'' sb => ⟨.ref D, H', I'.turned (t' := s'.toks) (fun b o hb e => (sb.2 b hb).trans e) f0 f1 f3 f4 f5, rfl, q'⟩⟩
  generalize compEnvC scope cl s3.heap.objs.size X.env = ce at I4 pg pt pk pe cL ⊢
  generalize hs4 : ({ s3 with heap := pushCells (s3.heap.push { cls := .type "dict", data := .dict #[] }) scope.names } : Shared) = s4 at I4 ⊢
  have t4 : tn 0 s4.heap := T.keep _ _ _ t2 fun b _ o e => by rw [← hs4]; exact pushCells_keeps _ _ _ _ (Heap.get?_push_of_some _ (keep3 b o e))
  -- the iterator's own objects, in the block
  have own_ : ∀ {σ' : L2.St} {H' : Hp} {s' : Shared}, Inv (X.blk s3 H3 scope ce fp) [] σ' H' s' → (∀ b ∈ fp, H' b = none) → ∀ b ∈ fp, FpOk (X.blk s3 H3 scope ce fp) [] H' b := fun I' hn b hb =>
    ⟨hn b hb, (I'.ok.exf b hb).1, I'.ok.exfs b hb, .inl hb, fun x c e => (I'.ok.exf b hb).2 x c e, fun p hp => absurd (show p ∈ ([] : List (Addr × Obj)) ++ [] from hp) (by simp)⟩
  let In : Nat → Shared → Prop := fun n s' => ∃ i H', Inv (X.blk s3 H3 scope ce fp) [] (wipe σ (own.map (·.2))) H' s' ∧ tn i s'.heap ∧ (∀ b ∈ fp, H' b = none) ∧ W i n H'
  have loop := compLoop_anyD (prog := X.prog) (w := X.w) (A := X.A) (R := compPost (model X.prog X.w) X.A X.xe none (fun v s => ∃ x H', Inv X pins σ H' s ∧ RelV x v ∧ Q x H') (.ref D) s3.heap.objs.size) (kx := kx) (vx := vx) (target := tg) (iter := iter) (ifs := ifs) (scope := scope) (pos := pos) (it := .ref it) (D := D) (env := ce) In ?turn m0 ⟨0, H3, I4, t4, fun b hb => (f3 b hb).1.1, w0⟩ (s := s4)
  case turn =>
    rintro n s5 ⟨i, H5, I5, t5, n5, w5⟩
    rcases turn i n H5 w5 with ⟨st, qq⟩ | ⟨go, Nx, hNx, step⟩
    · refine thnF (T.done (X.blk s3 H3 scope ce fp) rfl rfl rfl hc i [] s5 _ H5 (fun _ _ => False) I5 (own_ I5 n5) t5 st) fun _ s6 ⟨hr, I6⟩ => ?_
      subst hr
      obtain ⟨m, hn, _⟩ := I6.loc
      have free : H5 ce.locals = none := I6.free
      rw [cL] at free
      have hn' : s6.heap.Ns ce.locals m := hn
      rw [cL] at hn'
      refine done s6 m H5 (I3.call' (ch := fp) I6.os I6.base I6.hok I6.bare fun b hb => ?_) qq hn' (I3.fpOk (Nat.le_refl _) free)
      obtain ⟨_, g1, g2, g3, g4, g5⟩ := (f3 b hb).1
      exact ⟨g3, g1, g4, g5⟩
    · refine thnF (T.item (X.blk s3 H3 scope ce fp) rfl rfl rfl hc i [] s5 _ H5 (fun _ _ => False) I5 (own_ I5 n5) t5 go) fun _ s6 ⟨u, hr, h6⟩ => ?_
      subst hr
      refine thnF h6 fun _ s7 ⟨x, H7, I7, r7, y7, t7, n7⟩ => ?_
      have back : ∀ {σ8 : L2.St} {s' : Shared} {H' : Hp}, wipe σ8 (own.map (·.2)) = wipe σ (own.map (·.2)) → Inv (X.blk s3 H3 scope ce fp) ([] ++ pinsAt fp s7.heap) σ8 H' s' → Nx H' → ∃ m, m < n ∧ In m s' := fun {σ8 s' H'} hw I' nx => by
        obtain ⟨m', hm, w'⟩ := hNx H' nx
        have pin : ∀ b ∈ fp, ∀ o, s7.heap.get? b = some o → s'.heap.get? b = some o ∧ H' b = none := fun b hb o e =>
          let z := I'.pin (b, o) (List.mem_append_right _ (List.mem_append_right _ (mem_pinsAt hb e)))
          ⟨z.1, z.2.1⟩
        refine ⟨m', hm, i + 1, H', (I'.unpinned (pins := [])).weak (by rw [← hw, wipe_length]) (fun j v e => ?_), T.keep _ _ _ t7 fun b hb o e => (pin b hb o e).1, fun b hb => ?_, w'⟩
        · rw [← hw] at e
          exact (wipe_some e).1
        · obtain ⟨o, e, _⟩ := T.obj _ _ t7 b hb
          exact (pin b hb o e).2
      refine thnF (pg.run _ s7 _ H7 x u _ (I7.pinned (own_ I7 n7) (T.obj _ _ t7)) r7 (step x H7 y7)) fun _ s8 ⟨σ8, H8, I8, hw8, q8⟩ => ?_
      refine thnF (pt.run _ s8 σ8 H8 _ I8 q8) fun b s9 ⟨H9, I9, q9⟩ => ?_
      cases b with
      | false => exact back hw8 I9 q9
      | true => exact thnF (pk.run _ s9 σ8 H9 _ I9 q9) fun _ s10 ⟨yk, H10, I10, r10, q10⟩ => thnF (pe.run _ s10 σ8 H10 _ I10 q10) fun _ s11 ⟨yv, H11, I11, r11, q11⟩ => B.put (X := X.blk s3 H3 scope ce fp) rfl rfl I11 r10 r11 q11 fun s12 H12 I12 nx => back hw8 I12 nx
  exact codeAny_compStart_dict loop (T.self X.A 0 _ _ _ t4 loop)
/-- the walk of it -/
theorem dcS_it {J : It} {n : Nat} {G : Hp → Prop} {Y : Nat → Hp → V → Hp → Prop} (w : Walk J n G Y) {o0 : Addr → HO} {ST : Addr → V → V → Hp → (Hp → Prop) → Prop} {g : TG} {tt : TT} {tk tv : TE} {vs : List Nat} {σ : L2.St} {H1 : Hp} {D : Addr} {Qd : Hp → Prop}
    (Pv : Nat → Hp → Prop) (h0 : Pv 0 (upd H1 D (o0 D))) (hG : ∀ i H, i ≤ n → Pv i H → G H)
    (hs : ∀ i x H H', i < n → Pv i H → Y i H x H' → g x (wipe σ vs) H' fun σ2 H2 => wipe σ2 vs = wipe σ vs ∧ tt σ2 H2 fun b H3 =>
      if b = true then tk σ2 H3 fun y H4 => tv σ2 H4 fun z H5 => ST D y z H5 (Pv (i + 1)) else Pv (i + 1) H3) (hd : ∀ H, Pv n H → Qd H) :
    ∃ W : Nat → Nat → Hp → Prop, (∃ m, W 0 m (upd H1 D (o0 D))) ∧ ∀ i m H, W i m H →
      (J.stop i H ∧ Qd H) ∨ (J.go i H ∧ ∃ Nx : Hp → Prop, (∀ H', Nx H' → ∃ m', m' < m ∧ W (i + 1) m' H') ∧ ∀ x H', J.yld i H x H' → g x (wipe σ vs) H' fun σ2 H2 => wipe σ2 vs = wipe σ vs ∧ tt σ2 H2 fun b H3 =>
        if b = true then tk σ2 H3 fun y H4 => tv σ2 H4 fun z H5 => ST D y z H5 Nx else Nx H3) := by
  refine ⟨fun i m H => m = n - i ∧ i ≤ n ∧ Pv i H, ⟨n, by simp, Nat.zero_le _, h0⟩, ?_⟩
  rintro i m H ⟨rfl, hi, p⟩
  by_cases lt : i < n
  · exact .inr ⟨w.goes i H lt (hG i H hi p), Pv (i + 1), fun H' p' => ⟨n - (i + 1), by omega, rfl, lt, p'⟩, fun x H' y => hs i x H H' lt p (w.yields i H x H' lt (hG i H hi p) y)⟩
  · have e : i = n := by omega
    subst e
    exact .inl ⟨w.stops H (hG _ H hi p), hd H p⟩
/-- a store into a dict with tuple keys -/
def STx (P : Program) (w : World) : Addr → V → V → Hp → (Hp → Prop) → Prop := fun D y z H R => ∃ (b : Addr) (ks : List V) (kvs : List DxE), y = .ref b ∧ KeyAt H b ks ∧ H D = some (DXo P w kvs D) ∧ KeysAt H kvs ∧ kvs.length < sizeLine ∧ R (upd H D (DXo P w (dxPut kvs ks b z) D))
theorem store_x {P : Program} {w : World} {A : Around} (hu : A.units + 64 < cLine) : Store P w A (DXo P w []) (STx P w) where
  new := fun H h hb => dx_empty h hb
  put := by
    intro X pins σ H s D y z u r R Q E hP hw I ry rz h k
    subst hP hw
    obtain ⟨b, ks, kvs, rfl, kb, hd, ka, hl, q⟩ := h
    obtain rfl : u = Value.ref b := ry
    obtain ⟨zz, hsm, xs, rr, m⟩ := dx_of I.hok (.inl hd) ka
    have hz : xs.length ≤ sizeLine := by rw [← Paired.length rr]; exact zz
    have hl2 : (dxPut kvs ks b z).length ≤ sizeLine := by have := dxPut_len kvs ks b z; omega
    refine wpAny_dictSet_heap (hsz := hz) (knd := nestedKind X.prog X.w) (show A.units + 8 < cLine by omega) (nk_is I.hok kb.1 kb.2) m fun h' m' hsb => k _ _ ?_ q
    have he : ∃ q, h'.get? D = some q := let ⟨q, _, _, hq, _⟩ := m'; ⟨q, hq⟩
    exact d_write I (by rw [hd]; exact True.intro) hsb he (dx_new hl2 hsm (dx_put rr ks b rz) m')
/-! name = {..}, the name a local -/
section
variable {X : Cx}
theorem ps_setDc {i : Nat} {y : Str} {py : Pos} {kx vx tg iter : Expr} {ifs : List Expr} {scope : Scope} {own : List (Str × Nat)} {pos spos : Pos} {wi : TI} {g : TG} {tt : TT} {tk tv : TE} (hc : X.calm = true) (hN : X.N.Nodup) (hy : X.N[i]? = some y) (hyl : X.env.scope.names.lookup y = some .local)
    (hsw : swapsWith (.DictComp kx vx [⟨tg, iter, ifs, 0⟩] scope pos) (some (.Name y py)) spos.line X.env = pure true) (hi : PI X tg iter wi) (ok : BlkOk X.N X.env.scope scope own)
    (hg : ∀ (s : Shared) (H : Hp) (C : Addr) (cl : List (Str × Addr)) (fp : List Addr), PG (X.blk s H scope (compEnvC scope cl C X.env) fp) tg g) (ht : ∀ (s : Shared) (H : Hp) (C : Addr) (cl : List (Str × Addr)) (fp : List Addr), PTs (X.blk s H scope (compEnvC scope cl C X.env) fp) ifs tt)
    (hk : ∀ (s : Shared) (H : Hp) (C : Addr) (cl : List (Str × Addr)) (fp : List Addr), PE (X.blk s H scope (compEnvC scope cl C X.env) fp) kx tk)
    (he : ∀ (s : Shared) (H : Hp) (C : Addr) (cl : List (Str × Addr)) (fp : List Addr), PE (X.blk s H scope (compEnvC scope cl C X.env) fp) vx tv) (hs : ∀ x, foldedSetIterable iter X.env x = pure x := by intro _; rfl) :
    PS X (.Assign [.Name y py] (.DictComp kx vx [⟨tg, iter, ifs, 0⟩] scope pos) spos) (tAsg (tDc wi g tt tk tv (own.map (·.2))) (gName i)) := by
  refine ⟨fun pins s σ H D I h => ?_⟩
  rw [exec_Assign_Name_used _ _ _ _ hsw]
  refine wpAny_bind (wpAny_standAt (wpAny_bind ?_))
  show wpAny _ X.A (do let _ ← comprehension (.DictComp kx vx [⟨tg, iter, ifs, 0⟩] scope pos) scope X.env (firstIterPos [⟨tg, iter, ifs, 0⟩] pos) newDict false (eval iter X.env) (some (assign (.Name y py) X.env))) _ _ s
  have h : tDc wi g tt tk tv (own.map (·.2)) σ H (fun x H1 => gName i x σ H1 D.nx) := h
  refine wpAny_bind (thn (dc_core (Qf := fun _ s' => SP X pins D .next s') hc hN I hi ok hg ht hk he hs h fun L C s' m H' I' q hn f => ?_) fun _ s' hq => wpAny_pure (wpAny_pure hq))
  show wpAny _ _ (assign (.Name y py) X.env (.ref L)) _ _ _
  obtain ⟨f0, f1, f2, f3, f4, f5⟩ := f
  refine wpAny_assign_Name (store_ok2 (v := V.ref L) I' hN hy (.inl hyl) rfl (fun s2 I2 ⟨a, sb, ha⟩ => ?_) (.inr hyl))
  have haC : C ≠ a := ha.elim (fun z => by rw [z]; exact f1) fun z e => f4 y a z e.symm
  exact ⟨m, hn.sameBut sb haC, fun h3 sb3 => ⟨_, H', I2.turned (t' := s2.toks) (fun b o hb e => (sb3.2 b hb).trans e) f0 f1 f3 f4 f5, q⟩⟩
theorem sw_trueD {kx vx : Expr} {gs : List Comprehension} {scope : Scope} {pos py : Pos} {y : Str} {l : Nat} {env : Env} (hk : env.scope.kind = .function) (hy : env.scope.names.lookup y = some .local) (hl : (py.line == pos.line) = true)
    (ha : (scope.names.any fun (n, k) => n == y && (k == .local || k == .cell)) = false) : swapsWith (.DictComp kx vx gs scope pos) (some (.Name y py)) l env = pure true := by
  have ky : env.kindOf y = some .local := hy
  have hb : env.blockKind = .function := by unfold Env.blockKind; rw [hk]; rfl
  unfold swapsWith
  simp only [hb, ky, ha, Expr.pos, hl]
  rfl
end
end S
namespace S
open PySem PySem.Spec PyProof.Rows L2
/-! ### dicts whose keys are tuples, and tuples in these -/
mutual
/-- the value is the key -/
inductive NkV (H : Hp) : V → NestedKey → Prop where
  | non : NkV H .non .none
  | bl (b : Bool) : NkV H (.bl b) (.num (if b = true then 1 else 0))
  | int (i : Int) : NkV H (.int i) (.num i)
  | str (z : Str) : NkV H (.str z) (.text z)
  | tup {a : Addr} {xs : List V} {ks : List NestedKey} (h : H a = some (.tup xs)) (t : NkVs H xs ks) : NkV H (.ref a) (.tup ks)
inductive NkVs (H : Hp) : List V → List NestedKey → Prop where
  | nil : NkVs H [] []
  | cons {x : V} {xs : List V} {k : NestedKey} {ks : List NestedKey} (h : NkV H x k) (t : NkVs H xs ks) : NkVs H (x :: xs) (k :: ks)
end
theorem NkV.same {H H' : Hp} {x : V} {k : NestedKey} (h : NkV H x k) (s : Same H H') : NkV H' x k :=
  NkV.rec (motive_1 := fun x k _ => NkV H' x k) (motive_2 := fun xs ks _ => NkVs H' xs ks) .non .bl .int .str (fun h _ t => .tup (s _ _ h) t) .nil (fun _ _ h t => .cons h t) h
theorem NkV.is {P : Program} {w : World} {H : Hp} {h : Heap} (ok : HOk P w H h) {x : V} {k : NestedKey} (q : NkV H x k) : ∀ {u : Value}, RelV x u → NestedIs h k u := by
  refine NkV.rec (motive_1 := fun x k _ => ∀ {u : Value}, RelV x u → NestedIs h k u) (motive_2 := fun xs ks _ => ∀ {us : List Value}, Vals xs us → NestedAll h ks us) ?_ ?_ ?_ ?_ ?_ ?_ ?_ q
  · intro u r; cases r; exact .none
  · intro b u r; cases r; exact .bool rfl
  · intro i u r; obtain ⟨t, rfl⟩ := r; exact .int i t
  · intro z u r; obtain ⟨t, rfl⟩ := r; exact .text z t
  · intro a xs ks e _ ih u r
    cases r
    obtain ⟨_, its, r, o, h1, h2, n, h3⟩ := (show ObjOk P w H h a (.tup xs) from ok a _ e)
    exact .tup h1 h2 h3 (by simpa using ih r)
  · intro us r; cases r; exact .nil
  · intro x xs k ks _ _ ih1 ih2 us r
    cases r with
    | cons r1 r2 => exact .cons (ih1 r1) (ih2 r2)
def NKey (H : Hp) (b : Addr) (k : NestedKey) : Prop := NkV H (.ref b) k ∧ k.depth ≤ 8
theorem NKey.same {H H' : Hp} {b : Addr} {k : NestedKey} (h : NKey H b k) (s : Same H H') : NKey H' b k := ⟨h.1.same s, h.2⟩
theorem nkey_is {P : Program} {w : World} {H : Hp} {h : Heap} (ok : HOk P w H h) {b : Addr} {k : NestedKey} (q : NKey H b k) : (nestedKind P w).is h k b := ⟨q.1.is ok rfl, q.2⟩
theorem nkVs_flat {H : Hp} : ∀ {xs : List V}, (∀ v ∈ xs, flV v = true) → NkVs H xs (xs.map nkV)
  | [], _ => .nil
  | x :: xs, f => by
    refine .cons ?_ (nkVs_flat fun v hv => f v (List.mem_cons_of_mem _ hv))
    have f1 := f x List.mem_cons_self
    cases x with
    | non => exact .non
    | bl b => exact .bl b
    | int i => exact .int i
    | str z => exact .str z
    | _ => cases f1
theorem KeyAt.n {H : Hp} {b : Addr} {ks : List V} (h : KeyAt H b ks) : NKey H b (nkL ks) := ⟨.tup h.1 (nkVs_flat h.2), nk_depth ks⟩
abbrev DnE := NestedKey × Addr × V
def DnR (p : DnE) (q : NestedKey × Addr × Value) : Prop := q.1 = p.1 ∧ q.2.1 = p.2.1 ∧ RelV p.2.2 q.2.2
/-- the dict at d: its keys, where their tuples stand, its values -/
def DNo (P : Program) (w : World) (kvs : List DnE) (d : Addr) : HO := .ext fun h => kvs.length ≤ sizeLine ∧ (d == sysModules) = false ∧ ∃ xs : List (NestedKey × Addr × Value), Paired DnR kvs xs ∧
  ∃ o es ep, h.get? d = some o ∧ o.ExactDict ∧ o.data = .dict es ep ∧ es.toList = xs.map (entryOfKey (nestedKind P w)) ∧ (xs.map (·.1)).Nodup
def NKeysAt (H : Hp) (kvs : List DnE) : Prop := ∀ e ∈ kvs, NKey H e.2.1 e.1
theorem NKeysAt.same {H H' : Hp} {kvs : List DnE} (h : NKeysAt H kvs) (s : Same H H') : NKeysAt H' kvs := fun e he => (h e he).same s
def dnGet (kvs : List DnE) (k : NestedKey) : Option V := (kvs.find? fun e => decide (e.1 = k)).map (·.2.2)
def dnPut (kvs : List DnE) (k : NestedKey) (b : Addr) (v : V) : List DnE := if (dnGet kvs k).isSome then kvs.map fun e => if e.1 = k then (e.1, e.2.1, v) else e else kvs ++ [(k, b, v)]
section
variable {P : Program} {w : World} {H : Hp} {h : Heap} {d b : Addr} {kvs : List DnE}
theorem dn_of (ok : HOk P w H h) (e : Rd H d (DNo P w kvs d)) (t : NKeysAt H kvs) : kvs.length ≤ sizeLine ∧ (d == sysModules) = false ∧ ∃ xs, Paired DnR kvs xs ∧ h.DictOfH (nestedKind P w) d xs := by
  obtain ⟨⟨z, y, xs, r, o, es, ep, h1, h2, h3, h4, h5⟩, _⟩ := (show ObjOk P w H h d (DNo P w kvs d) from rd_of ok e)
  refine ⟨z, y, xs, r, o, es, ep, h1, h2, h3, h4, fun x hx => ?_, h5⟩
  have all : ∀ {l : List DnE} {m : List (NestedKey × Addr × Value)}, Paired DnR l m → NKeysAt H l → ∀ x ∈ m, (nestedKind P w).is h x.1 x.2.1 := by
    intro l m q
    induction q with
    | nil => intro _ x hx; exact nomatch hx
    | @cons p q ps qs hq t ih =>
      intro k x hx
      rcases List.mem_cons.mp hx with e | hx
      · subst e
        rw [hq.1, hq.2.1]
        exact nkey_is ok (k p List.mem_cons_self)
      · exact ih (fun e he => k e (List.mem_cons_of_mem _ he)) x hx
  exact all r t x hx
theorem dn_val {xs : List (NestedKey × Addr × Value)} (r : Paired DnR kvs xs) (k : NestedKey) : RelO (dnGet kvs k) ((atKey xs (k)).map (·.2)) := by
  unfold dnGet atKey
  induction r with
  | nil => exact True.intro
  | @cons p q ps qs hq t ih =>
    rw [List.find?_cons, List.find?_cons, hq.1]
    by_cases c : p.1 = k
    · rw [decide_eq_true c]
      exact hq.2.2
    · rw [decide_eq_false c]
      exact ih
theorem dn_none {xs : List (NestedKey × Addr × Value)} (r : Paired DnR kvs xs) (k : NestedKey) : (dnGet kvs k).isSome = (atKey xs (k)).isSome := by
  have := (dn_val r k).isSome_eq
  rw [Option.isSome_map] at this
  exact this
theorem dnPut_len (kvs : List DnE) (k : NestedKey) (b : Addr) (v : V) : (dnPut kvs k b v).length ≤ kvs.length + 1 := by
  unfold dnPut
  split
  · rw [List.length_map]; omega
  · rw [List.length_append]; exact Nat.le_refl _
theorem dn_put {xs : List (NestedKey × Addr × Value)} (r : Paired DnR kvs xs) (k : NestedKey) (b : Addr) {v : V} {u : Value} (rv : RelV v u) : Paired DnR (dnPut kvs k b v) (storedH xs (k) b u) := by
  have e := dn_none r k
  unfold dnPut storedH
  rw [e]
  by_cases q : (atKey xs (k)).isSome = true
  · rw [if_pos q, if_pos q]
    clear e q
    induction r with
    | nil => exact .nil
    | @cons p q ps qs hq t ih =>
      refine .cons ?_ ih
      show DnR (if p.1 = k then (p.1, p.2.1, v) else p) (putAt (k) u q)
      unfold putAt
      by_cases c : p.1 = k
      · rw [if_pos c, if_pos (hq.1.trans c)]
        exact ⟨hq.1, hq.2.1, rv⟩
      · rw [if_neg c, if_neg (fun z => c (hq.1.symm.trans z))]
        exact hq
  · rw [if_neg q, if_neg q]
    exact Paired.snoc r ⟨rfl, rfl, rv⟩
theorem dn_new {xs : List (NestedKey × Addr × Value)} (z : kvs.length ≤ sizeLine) (y : (d == sysModules) = false) (r : Paired DnR kvs xs) (m : h.DictOfH (nestedKind P w) d xs) : ObjOk P w H h d (DNo P w kvs d) := by
  obtain ⟨o, es, ep, h1, h2, h3, h4, _, h5⟩ := m
  refine ⟨⟨z, y, xs, r, o, es, ep, h1, h2, h3, h4, h5⟩, ⟨o, h1⟩, fun g1 g2 p k => ?_⟩
  obtain ⟨z, y, xs, r, o, es, ep, h1, h2⟩ := p
  exact ⟨z, y, xs, r, o, es, ep, k o h1, h2⟩
theorem dn_empty (h : Heap) (hb : sysModules < h.objs.size) : ObjOk P w H (h.push { cls := .type "dict", data := .dict #[] }) h.objs.size (DNo P w [] h.objs.size) :=
  dn_new (Nat.zero_le _) (beq_eq_false_iff_ne.mpr (Ne.symm (Nat.ne_of_lt hb))) .nil (Heap.DictOfH.new h)
end
/-! the rules -/
/-- {}: a dict of this kind -/
def tDNewN (P : Program) (w : World) : TE := fun _ H Q => ∀ p, H p = none → Q (.ref p) (upd H p (DNo P w [] p))
def rInN (P : Program) (w : World) (neg : Bool) : V → V → Hp → VK → Prop := fun x y H Q => ∃ (b d : Addr) (ks : NestedKey) (kvs : List DnE), x = .ref b ∧ NKey H b ks ∧ y = .ref d ∧ Rd H d (DNo P w kvs d) ∧ NKeysAt H kvs ∧
  Q (.bl (if neg then !(dnGet kvs ks).isSome else (dnGet kvs ks).isSome)) H
def tDGetN (P : Program) (w : World) (td ty : TE) : TE := fun σ H Q => td σ H fun x H1 => ty σ H1 fun y H2 => ∃ (b d : Addr) (ks : NestedKey) (kvs : List DnE) (v : V), x = .ref d ∧ Rd H2 d (DNo P w kvs d) ∧ NKeysAt H2 kvs ∧ y = .ref b ∧ NKey H2 b ks ∧ dnGet kvs ks = some v ∧ Q v H2
def sDPutN (P : Program) (w : World) (td ty tv : TE) : TS := fun D σ H => tv σ H fun v H1 => td σ H1 fun x H2 => ty σ H2 fun y H3 => ∃ (b d : Addr) (ks : NestedKey) (kvs : List DnE), x = .ref d ∧ H3 d = some (DNo P w kvs d) ∧ NKeysAt H3 kvs ∧ y = .ref b ∧ NKey H3 b ks ∧ kvs.length < sizeLine ∧
  D.nx σ (upd H3 d (DNo P w (dnPut kvs ks b v) d))
section
variable {X : Cx} {pos : Pos}
theorem pe_dnewN : PE X (.Dict [] [] pos) (tDNewN X.prog X.w) := ⟨fun pins s σ H Q I h =>
  wpAny_Dict_empty ⟨.ref s.heap.objs.size, _, I.laid (a := s.heap.objs.size) (o := DNo X.prog X.w [] s.heap.objs.size) (t' := s.toks) (fun _ _ q => Heap.get?_push_of_some _ q) (Nat.le_refl _) (dn_empty s.heap I.big), rfl, h _ (I.hok.fresh (Nat.le_refl _))⟩⟩
theorem or_inN (hu : X.A.units + 64 < cLine) : OpR X (compareOp .In) (rInN X.prog X.w false) := by
  intro pins s σ H x y v u Q I rx ry h
  obtain ⟨b, d, ks, kvs, rfl, kb, rfl, hd, ka, q⟩ := h
  cases rx
  cases ry
  obtain ⟨z, hs, xs, r, m⟩ := dn_of I.hok hd ka
  refine wpAny_in_heap (room8 hu) (nkey_is I.hok kb) hs m ⟨.bl (dnGet kvs ks).isSome, H, I.tok _, ?_, q⟩
  show Value.bool _ = Value.bool _
  rw [dn_none r]
theorem or_notInN (hu : X.A.units + 64 < cLine) : OpR X (compareOp .NotIn) (rInN X.prog X.w true) := by
  intro pins s σ H x y v u Q I rx ry h
  obtain ⟨b, d, ks, kvs, rfl, kb, rfl, hd, ka, q⟩ := h
  cases rx
  cases ry
  obtain ⟨z, hs, xs, r, m⟩ := dn_of I.hok hd ka
  refine wpAny_notIn_heap (room8 hu) (nkey_is I.hok kb) hs m ⟨.bl (!(dnGet kvs ks).isSome), H, I.tok _, ?_, q⟩
  show Value.bool _ = Value.bool _
  rw [dn_none r]
theorem pe_dgetN {o i : Expr} {td ty : TE} (hu : X.A.units + 64 < cLine) (ho : PE X o td) (hi : PE X i ty) (hs : NoSl i) : PE X (.Subscript o i pos) (tDGetN X.prog X.w td ty) := by
  refine ⟨fun pins s σ H Q I h => ?_⟩
  refine subD_of PySem.F.slot_dict_getitem.lookup hs (thn (ho.run pins s σ H _ I h) fun u s1 ⟨x, H1, I1, rx, q1⟩ => thn (hi.run pins s1 σ H1 _ I1 q1) fun iv s2 ⟨y, H2, I2, ry, b, d, ks, kvs, v, ex, hd, ka, ey, kb, g, q2⟩ => ?_)
  subst ex ey
  obtain rfl : u = Value.ref d := rx
  obtain rfl : iv = Value.ref b := ry
  obtain ⟨z, hs, xs, r, m⟩ := dn_of I2.hok hd ka
  obtain ⟨w', hw, rw'⟩ := RelO.some_of (v := v) (o := (atKey xs (ks)).map (·.2)) (by rw [← g]; exact dn_val r ks)
  obtain ⟨p, hp, hp2⟩ := Option.map_eq_some_iff.mp hw
  refine ⟨m.typeIs, wpAny_getItem_heap (room8 hu) (nkey_is I2.hok kb) m hp ?_⟩
  rw [hp2]
  exact ⟨v, H2, I2.tok _, rw', q2⟩
theorem ps_dputN {o i value : Expr} {pos' : Pos} {td ty tv : TE} (hu : X.A.units + 64 < cLine) (ho : PE X o td) (hi : PE X i ty) (hv : PE X value tv) (hs : swapsWith value (some (.Subscript o i pos')) pos.line X.env = pure false) :
    PS X (.Assign [.Subscript o i pos'] value pos) (sDPutN X.prog X.w td ty tv) := by
  refine ⟨fun pins s σ H D I h => ?_⟩
  refine wpAny_Assign_Subscript (thn (hv.run pins s σ H _ I h) fun r s1 ⟨v, H1, I1, rv, q1⟩ => thn (ho.run pins s1 σ H1 _ I1 q1) fun u s2 ⟨x, H2, I2, rx, q2⟩ => thn (hi.run pins s2 σ H2 _ I2 q2) fun iv s3 ⟨y, H3, I3, ry, b, d, ks, kvs, ex, hd, ka, ey, kb, hl, q3⟩ => ?_) hs
  subst ex ey
  obtain rfl : u = Value.ref d := rx
  obtain rfl : iv = Value.ref b := ry
  obtain ⟨z, hsm, xs, rr, m⟩ := dn_of I3.hok (.inl hd) ka
  have hz : xs.length ≤ sizeLine := by rw [← Paired.length rr]; exact z
  have hl2 : (dnPut kvs ks b v).length ≤ sizeLine := by have := dnPut_len kvs ks b v; omega
  refine wpAny_setItem_heap (hsz := hz) (room8 hu) (nkey_is I3.hok kb) m fun h' m' hsb => ⟨σ, _, ?_, q3⟩
  have he : ∃ q, h'.get? d = some q := let ⟨q, _, _, hq, _⟩ := m'; ⟨q, hq⟩
  exact d_write I3 (by rw [hd]; exact True.intro) hsb he (dn_new hl2 hsm (dn_put rr ks b rv) m')
def rLenN (P : Program) (w : World) : List V → Hp → VK → Prop := fun xs H Q => ∃ d kvs, xs = [V.ref d] ∧ Rd H d (DNo P w kvs d) ∧ NKeysAt H kvs ∧ Q (.int kvs.length) H
theorem call_lenN : CallR X (.builtin "len") (rLenN X.prog X.w) := by
  intro pins s σ H xs us Q I r h
  obtain ⟨d, kvs, rfl, hd, ka, q⟩ := h
  obtain ⟨u, rfl, ru⟩ := r.one
  cases ru
  obtain ⟨z, hs, xs, rr, m⟩ := dn_of I.hok hd ka
  obtain ⟨es, ep, hr, hsz, _⟩ := m.raw
  have l : kvs.length = es.size := (Paired.length rr).trans hsz.symm
  refine Calls.call_function_entry kind_len plain_len entry_len (args_len1 _) (len_body_raw hs hr (by rw [← l]; rw [sizeLine_eq] at z; omega) ?_)
  exact ⟨.int kvs.length, H, I.tok _, ⟨_, by rw [l]⟩, q⟩
/-- list(d): the keys' own tuples -/
def rListN (P : Program) (w : World) : List V → Hp → VK → Prop := fun xs H Q => ∃ d kvs, xs = [V.ref d] ∧ Rd H d (DNo P w kvs d) ∧ ∀ p, H p = none → Q (.ref p) (upd H p (.lst (kvs.map fun e => V.ref e.2.1)))
theorem dn_addrs {kvs : List DnE} {xs : List (NestedKey × Addr × Value)} (r : Paired DnR kvs xs) : (xs.map fun x => x.2.1) = kvs.map fun e => e.2.1 := by
  induction r with
  | nil => rfl
  | @cons p q ps qs hq _ ih => rw [List.map_cons, List.map_cons, ih, hq.2.1]
theorem call_listN (hc : X.calm = true) : CallR X (.type "list") (rListN X.prog X.w) := by
  intro pins s σ H xs us Q I r h
  obtain ⟨d, kvs, rfl, hd, q⟩ := h
  obtain ⟨u, rfl, rx⟩ := r.one
  cases rx
  obtain ⟨⟨z, hs, ks, pr, o, es, ep, ho, hx, hdt, he, hn⟩, _⟩ := (show ObjOk X.prog X.w H s.heap d (DNo X.prog X.w kvs d) from hd.ok I.hok)
  have l1 : es.size = ks.length := size_of_entries he
  have l2 : kvs.length = ks.length := Paired.length pr
  refine PySem.W.kdl_call (kdl_raw hs hx hdt) (I.ok.hd hc) ho (by omega) fun h' tk acc' c' kp e it => ?_
  have ea : acc'.toList = ks.map fun x => Value.ref x.2.1 := by
    have hl : acc'.toList.length = ks.length := by rw [Array.length_toList, it.1]; exact l1
    apply List.ext_getElem?
    intro j
    rw [List.getElem?_map]
    cases hj : acc'.toList[j]? with
    | none =>
      have h1 := List.getElem?_eq_none_iff.mp hj
      rw [List.getElem?_eq_none (by omega)]
      all_goals rfl
    | some v =>
      obtain ⟨en, hen, hv⟩ := it.2 j v (by rw [← Array.getElem?_toList]; exact hj)
      have qe := entry_at he j
      rw [hen] at qe
      cases hb : ks[j]? with
      | none =>
        rw [hb] at qe
        exact nomatch (show some en = none from qe)
      | some b =>
        rw [hb] at qe
        have e2 : en = entryOfKey (nestedKind X.prog X.w) b := Option.some.inj qe
        rw [hv, e2]
        all_goals rfl
  have eb : acc'.toList = (ks.map fun x => x.2.1).map Value.ref := by rw [ea, List.map_map]; all_goals rfl
  have rv : Vals ((ks.map fun x => x.2.1).map V.ref) acc'.toList := by rw [eb]; exact vals_refs _
  have hz : ((ks.map fun x => x.2.1).map V.ref).length ≤ sizeLine := by rw [List.length_map, List.length_map]; omega
  have em : ((ks.map fun x => x.2.1).map V.ref) = kvs.map fun e => V.ref e.2.1 := by rw [dn_addrs pr, List.map_map]; all_goals rfl
  refine ⟨.ref s.heap.objs.size, _, I.laid (t' := tk) (o := .lst ((ks.map fun x => x.2.1).map V.ref)) kp (Nat.le_refl _) ?_, rfl, ?_⟩
  · exact ⟨hz, acc'.toList, c', rv, by rw [Array.toArray_toList]; exact e⟩
  · rw [em]
    exact q _ (I.hok.fresh (Nat.le_refl _))
/-! for k in d -/
def Itn (P : Program) (w : World) (d : Addr) (o : Obj) (kvs : List DnE) : It :=
  ⟨fun i H => H d = some (.frz o (DNo P w kvs d)) ∧ i < kvs.length, fun i H x H' => H' = H ∧ ∃ e : DnE, kvs[i]? = some e ∧ x = .ref e.2.1, fun i H => H d = some (.frz o (DNo P w kvs d)) ∧ kvs.length ≤ i⟩
theorem frzN {pins : List (Addr × Obj)} {σ : L2.St} {H : Hp} {s : Shared} {d : Addr} {o : Obj} {kvs : List DnE} (I : Inv X pins σ H s) (h : H d = some (.frz o (DNo X.prog X.w kvs d))) :
    (d == sysModules) = false ∧ s.heap.get? d = some o ∧ o.ExactDict ∧ ∃ (es : Array DictEntry) (ep : Nat), o.data = .dict es ep ∧ es.size = kvs.length ∧
      ∀ (i : Nat) (e : DnE), kvs[i]? = some e → ∃ en : DictEntry, es[i]? = some en ∧ en.key = .ref e.2.1 := by
  obtain ⟨hd, ⟨z, hs, xs, pr, o', es, ep, ho, hx, hdt, he, _⟩, _⟩ := I.hok d _ h
  rw [hd] at ho
  cases ho
  refine ⟨hs, hd, hx, es, ep, hdt, ?_, fun i e hi => ?_⟩
  · have l1 : es.size = xs.length := size_of_entries he
    have l2 : kvs.length = xs.length := Paired.length pr
    omega
  · obtain ⟨b, hb, e1, e2, _⟩ := paired_get pr hi
    have q := entry_at he i
    rw [hb] at q
    refine ⟨_, q, ?_⟩
    rw [← e2]
    rfl
theorem turn_keysN {P : Program} {w : World} {K : PySem.W.Frag} {tg : Expr} {d : Addr} {o : Obj} {es : Array DictEntry} {ep : Nat} {kvs : List DnE} (it : Addr) (hod : o.data = .dict es ep) : Turn P w K tg (Itn P w d o kvs) [it] it (fun i h => h.IsKeyIter it d i kvs.length ep) where
  mem := by simp
  obj := fun i h st b hb => by
    have e : b = it := by simpa using hb
    subst e
    obtain ⟨oi, e, c, dd⟩ := st
    exact ⟨oi, e, fun v z => by rw [dd] at z; cases z⟩
  keep := fun i h h' st k => st.at fun oi e => k it (by simp) oi e
  item := by
    intro X hP hw hK hc i pins s σ H E I hf st hg
    subst hP hw hK
    obtain ⟨hd, hi⟩ := hg
    obtain ⟨f0, f1, f2, f3, f4, f5⟩ := hf it (by simp)
    obtain ⟨hs, hgd, hx, es', ep', hdt, hsz, ent⟩ := frzN I hd
    obtain ⟨rfl, rfl⟩ := dict_ep hod hdt
    have hkv := List.getElem?_eq_getElem hi
    obtain ⟨en, hen, hkey⟩ := ent i _ hkv
    refine next_key_item st hgd hdt hsz hen fun h' st' sb => ?_
    have I1 : Inv X pins σ H { s with heap := h' } := I.turned (t' := s.toks) (fun b ob hb e => (sb.2 b hb).trans e) f0 f1 f3 f4 f5
    obtain ⟨oi, e, c, dd⟩ := id st'
    exact ⟨en.key, rfl, go_of (s := { s with heap := h' }) e c dd (by decide) ⟨.ref _, H, I1, hkey, ⟨rfl, _, hkv, rfl⟩, st', fun b hb => (hf b hb).1⟩⟩
  done := by
    intro X hP hw hK hc i pins s σ H E I hf st hg
    subst hP hw hK
    obtain ⟨hd, hi⟩ := hg
    obtain ⟨f0, f1, f2, f3, f4, f5⟩ := hf it (by simp)
    obtain ⟨hs, hgd, hx, es', ep', hdt, hsz, ent⟩ := frzN I hd
    obtain ⟨rfl, rfl⟩ := dict_ep hod hdt
    exact next_key_end (I.ok.hd hc) st hgd hdt hsz hi fun h' eb => ⟨rfl, I.turned (t' := s.toks) (fun b ob hb e => eb b ob hb e) f0 f1 f3 f4 f5⟩
  self := fun A i s Q E st h => wpAny_pyIter_keyiter st h
/-- the dict is locked (tLock, tLockE) -/
def iKeysN (P : Program) (w : World) (td : TE) : TI := fun σ H R => td σ H fun x H1 => ∃ d o kvs, x = .ref d ∧ H1 d = some (.frz o (DNo P w kvs d)) ∧ R (Itn P w d o kvs) H1
theorem pi_keysN {tg e : Expr} {td : TE} (he : PE X e td) : PI X tg e (iKeysN X.prog X.w td) := by
  refine ⟨fun pins s σ H R I h => ?_⟩
  refine thn (he.run pins s σ H _ I h) fun u s1 ⟨x, H1, I1, rx, d, o, kvs, ex, hd, q⟩ => ?_
  subst ex
  obtain rfl : u = Value.ref d := rx
  obtain ⟨hs, hgd, hx, es, ep, hdt, hsz, ent⟩ := frzN I1 hd
  refine iter_keys hs hgd hx hdt (pi_one (tk := s1.toks) I1 _ (turn_keysN _ hdt) ⟨_, Heap.get?_push_size _ rfl, rfl, ?_⟩ q)
  rw [hsz] <;> rfl
theorem walk_keysN {P : Program} {w : World} {d : Addr} {o : Obj} {kvs : List DnE} : Walk (Itn P w d o kvs) kvs.length (fun H => H d = some (.frz o (DNo P w kvs d))) (fun i H x H' => H' = H ∧ ∃ e : DnE, kvs[i]? = some e ∧ x = .ref e.2.1) :=
  ⟨fun _ _ hi q => ⟨q, hi⟩, fun _ q => ⟨q, Nat.le_refl _⟩, fun _ _ _ _ _ _ y => y⟩
end
/-! the rules, the program and the world named -/
section
variable {X : Cx} {P : Program} {w : World} {pos : Pos}
theorem pe_dnewNP (hP : X.prog = P) (hw : X.w = w) : PE X (.Dict [] [] pos) (tDNewN P w) := by
  subst hP hw
  exact pe_dnewN
theorem or_inNP (hP : X.prog = P) (hw : X.w = w) (hu : X.A.units + 64 < cLine) : OpR X (compareOp .In) (rInN P w false) := by
  subst hP hw
  exact or_inN hu
theorem or_notInNP (hP : X.prog = P) (hw : X.w = w) (hu : X.A.units + 64 < cLine) : OpR X (compareOp .NotIn) (rInN P w true) := by
  subst hP hw
  exact or_notInN hu
theorem pe_dgetNP {o i : Expr} {td ty : TE} (hP : X.prog = P) (hw : X.w = w) (hu : X.A.units + 64 < cLine) (ho : PE X o td) (hi : PE X i ty) (hs : NoSl i) : PE X (.Subscript o i pos) (tDGetN P w td ty) := by
  subst hP hw
  exact pe_dgetN hu ho hi hs
theorem ps_dputNP {o i value : Expr} {pos' : Pos} {td ty tv : TE} (hP : X.prog = P) (hw : X.w = w) (hu : X.A.units + 64 < cLine) (ho : PE X o td) (hi : PE X i ty) (hv : PE X value tv) (hs : swapsWith value (some (.Subscript o i pos')) pos.line X.env = pure false) :
    PS X (.Assign [.Subscript o i pos'] value pos) (sDPutN P w td ty tv) := by
  subst hP hw
  exact ps_dputN hu ho hi hv hs
theorem call_lenNP (hP : X.prog = P) (hw : X.w = w) : CallR X (.builtin "len") (rLenN P w) := by
  subst hP hw
  exact call_lenN
theorem call_listNP (hP : X.prog = P) (hw : X.w = w) (hc : X.calm = true) : CallR X (.type "list") (rListN P w) := by
  subst hP hw
  exact call_listN hc
theorem pi_keysNP {tg e : Expr} {td : TE} (hP : X.prog = P) (hw : X.w = w) (he : PE X e td) : PI X tg e (iKeysN P w td) := by
  subst hP hw
  exact pi_keysN he
end
/-! DXo is one of these -/
section
variable {P : Program} {w : World}
def toN (e : DxE) : DnE := (nkL e.1, e.2.1, e.2.2)
theorem paired_toN : ∀ {kvs : List DxE} {xs : List (NestedKey × Addr × Value)}, Paired DnR (kvs.map toN) xs ↔ Paired DxR kvs xs := by
  intro kvs
  induction kvs with
  | nil => intro xs; exact ⟨fun h => by cases h; exact .nil, fun h => by cases h; exact .nil⟩
  | cons e kvs ih =>
    intro xs
    constructor
    · intro h
      cases h with
      | cons h t => exact .cons h (ih.mp t)
    · intro h
      cases h with
      | cons h t => exact .cons h (ih.mpr t)
theorem DXo_n (kvs : List DxE) (d : Addr) : DXo P w kvs d = DNo P w (kvs.map toN) d := by
  unfold DXo DNo
  congr 1
  funext h
  refine propext ?_
  rw [List.length_map]
  exact and_congr Iff.rfl (and_congr Iff.rfl (exists_congr fun xs => and_congr paired_toN.symm Iff.rfl))
theorem KeysAt.n {H : Hp} {kvs : List DxE} (h : KeysAt H kvs) : NKeysAt H (kvs.map toN) := fun e he => by
  obtain ⟨y, hy, rfl⟩ := List.mem_map.mp he
  exact KeyAt.n ⟨(h y hy).2, (h y hy).1⟩
theorem dnGet_toN (kvs : List DxE) (k : List V) : dnGet (kvs.map toN) (nkL k) = dxGet kvs k := by
  unfold dnGet dxGet
  induction kvs with
  | nil => rfl
  | cons e kvs ih =>
    rw [List.map_cons, List.find?_cons, List.find?_cons]
    by_cases c : nkL e.1 = nkL k
    · rw [show decide ((toN e).1 = nkL k) = true from decide_eq_true c, decide_eq_true c]
      rfl
    · rw [show decide ((toN e).1 = nkL k) = false from decide_eq_false c, decide_eq_false c]
      exact ih
end
/-! d.get(k) -/
section
variable {X : Cx} {o e : Expr} {apos cpos : Pos} {td ty : TE}
def tDGet1N (P : Program) (w : World) (td ty : TE) : TE := fun σ H Q => td σ H fun x H1 => ∃ d, x = .ref d ∧ (∃ kvs, Rd H1 d (DNo P w kvs d) ∧ NKeysAt H1 kvs) ∧ ty σ H1 fun y H2 => ∃ (b : Addr) (ks : NestedKey) (kvs : List DnE), Rd H2 d (DNo P w kvs d) ∧ NKeysAt H2 kvs ∧ y = .ref b ∧ NKey H2 b ks ∧ Q ((dnGet kvs ks).getD .non) H2
theorem pe_dget1N (hu : X.A.units + 64 < cLine) (ho : PE X o td) (he : PE X e ty) (m : M1 X o "get" apos e cpos) : PE X (.Call (.Attribute o "get" apos) [e] [] cpos) (tDGet1N X.prog X.w td ty) := by
  refine ⟨fun pins s σ H Q I h => ?_⟩
  refine wpAny_Call_method m.base m.few m.line PySem.F.plainAttrs_dict PySem.F.slot_dict_get PySem.F.type_dict_get (thn (ho.run pins s σ H _ I h) fun u s1 ⟨x, H1, I1, rx, d, ex, ⟨kvs0, hd0, ka0⟩, q1⟩ => ?_)
  subst ex
  obtain rfl : u = Value.ref d := rx
  obtain ⟨_, hs0, xs0, _, dd0⟩ := dn_of I1.hok hd0 ka0
  refine ⟨dd0.typeIs, fun b q => ?_, ?_⟩
  · cases q
    obtain ⟨ob, _, _, h1, h2, _⟩ := dd0
    exact ⟨ob, h1, h2.2.1⟩
  rw [m.trees]
  refine Calls.callWith_builtin rfl (Calls.evalArgs_plain (Calls.spliced_cons (thn (he.run pins s1 σ H1 _ I1 q1) fun iv s2 ⟨y, H2, I2, ry, b, ks, kvs, hd, ka, ey, kb, q2⟩ => Calls.spliced_nil ?_)))
  subst ey
  obtain rfl : iv = Value.ref b := ry
  obtain ⟨z, hs, xs, r, mm⟩ := dn_of I2.hok hd ka
  refine call_meetsIn PySem.F.slot_dict_get mm.typeIs PySem.F.entry_dict_get (PySem.F.args_dict_get_2 _ _) (meetsH_dict_get (nestedKind X.prog X.w) d b hs) ⟨room8 hu, ks, xs, nkey_is I2.hok kb, mm, ?_⟩
  exact ⟨_, H2, I2.tok _, (dn_val r ks).getD (show RelV .non Value.none from rfl), q2⟩
theorem pe_dget1NP {P : Program} {w : World} (hP : X.prog = P) (hw : X.w = w) (hu : X.A.units + 64 < cLine) (ho : PE X o td) (he : PE X e ty) (m : M1 X o "get" apos e cpos) : PE X (.Call (.Attribute o "get" apos) [e] [] cpos) (tDGet1N P w td ty) := by
  subst hP hw
  exact pe_dget1N hu ho he m
end
/-! for .. in d.items() -/
def ItiN (P : Program) (w : World) (d : Addr) (o : Obj) (kvs : List DnE) : It :=
  ⟨fun i H => H d = some (.frz o (DNo P w kvs d)) ∧ i < kvs.length, fun i H x H' => ∃ (T : Addr) (e : DnE), kvs[i]? = some e ∧ x = .ref T ∧ H T = none ∧ H' = upd H T (.tup [.ref e.2.1, e.2.2]), fun i H => H d = some (.frz o (DNo P w kvs d)) ∧ kvs.length ≤ i⟩
theorem frzNV {X : Cx} {pins : List (Addr × Obj)} {σ : L2.St} {H : Hp} {s : Shared} {d : Addr} {o : Obj} {kvs : List DnE} (I : Inv X pins σ H s) (h : H d = some (.frz o (DNo X.prog X.w kvs d))) :
    (d == sysModules) = false ∧ s.heap.get? d = some o ∧ o.ExactDict ∧ ∃ (es : Array DictEntry) (ep : Nat), o.data = .dict es ep ∧ es.size = kvs.length ∧
      ∀ (i : Nat) (e : DnE), kvs[i]? = some e → ∃ en : DictEntry, es[i]? = some en ∧ en.key = .ref e.2.1 ∧ RelV e.2.2 en.val := by
  obtain ⟨hd, ⟨z, hs, xs, pr, o', es, ep, ho, hx, hdt, he, _⟩, _⟩ := I.hok d _ h
  rw [hd] at ho
  cases ho
  refine ⟨hs, hd, hx, es, ep, hdt, ?_, fun i e hi => ?_⟩
  · have l1 : es.size = xs.length := size_of_entries he
    have l2 : kvs.length = xs.length := Paired.length pr
    omega
  · obtain ⟨b, hb, e1, e2, e3⟩ := paired_get pr hi
    have q := entry_at he i
    rw [hb] at q
    refine ⟨_, q, ?_, e3⟩
    rw [← e2]
    rfl
theorem turn_itemsN {P : Program} {w : World} {K : PySem.W.Frag} {d : Addr} {o : Obj} {es : Array DictEntry} {ep : Nat} {kvs : List DnE} {elts : List Expr} {kk : Nat} {tpos : Pos} (it : Addr) (hod : o.data = .dict es ep) :
    Turn P w K (.Tuple elts kk tpos) (ItiN P w d o kvs) [it] it (fun i h => ∃ ok ov, IsItemIter h it d i kvs.length ep ok ov) where
  mem := by simp
  obj := fun i h st b hb => by
    have e : b = it := by simpa using hb
    subst e
    obtain ⟨ok, ov, e⟩ := st
    exact ⟨_, e, fun v z => nomatch z⟩
  keep := fun i h h' st k => let ⟨ok, ov, e⟩ := st; ⟨ok, ov, k it (by simp) _ e⟩
  item := by
    intro X hP hw hK hc i pins s σ H E I hf st hg
    subst hP hw hK
    obtain ⟨hd, hi⟩ := hg
    obtain ⟨hs, hgd, hx, es', ep', hdt, hsz, ent⟩ := frzNV I hd
    obtain ⟨rfl, rfl⟩ := dict_ep hod hdt
    have hkv := List.getElem?_eq_getElem hi
    generalize kvs[i] = e at hkv
    obtain ⟨en, hen, hkey, hval⟩ := ent i e hkv
    have hi2 : i < es'.size := by omega
    have een : es'[i] = en := by
      have := Array.getElem?_eq_getElem hi2
      rw [hen] at this
      exact (Option.some.inj this).symm
    obtain ⟨ok, ov, he⟩ := st
    rw [← hsz] at he
    have hlt : it < s.heap.objs.size := Heap.lt_size he
    have raw : s.heap.DictRaw d es' ep' := ⟨o, hgd, hx, hdt⟩
    refine wpAny_pyNext_items_item_raw he raw hi2 fun h' ho hT hz hk => ?_
    rw [een, hkey] at ho hT
    refine ⟨_, rfl, wpAny_letOwnedTupleGo_items (s := { s with heap := h' }) ho fun h'' he' sb => ?_⟩
    have hT2 : h''.get? s.heap.objs.size = some { cls := .type "tuple", data := .seq #[.ref e.2.1, en.val] } := (sb.2 _ (Nat.ne_of_gt hlt)).trans hT
    have new : ObjOk X.prog X.w (upd H s.heap.objs.size (.tup [.ref e.2.1, e.2.2])) h'' s.heap.objs.size (.tup [.ref e.2.1, e.2.2]) :=
      ⟨by show 2 ≤ sizeLine; decide, [.ref e.2.1, en.val], .cons rfl (.cons hval .nil), ⟨_, hT2, rfl, _, rfl⟩⟩
    have I1 : Inv X pins σ (upd H s.heap.objs.size (.tup [.ref e.2.1, e.2.2])) { s with heap := h'' } :=
      I.turnedNew (t' := s.toks) (ch := [it]) (fun b ob hb e => (sb.2 b (by simpa using hb)).trans (hk b ob (by simpa using hb) e)) hf (Nat.le_refl _) new
    refine ⟨.ref s.heap.objs.size, _, I1, rfl, ⟨_, e, hkv, rfl, I.hok.fresh (Nat.le_refl _), rfl⟩, ⟨.ref e.2.1, en.val, ?_⟩, fun b hb => ?_⟩
    · rw [← hsz]; exact he'
    · have e : b = it := by simpa using hb
      rw [e, upd_ne (Nat.ne_of_lt hlt)]
      exact (hf it (by simp)).1
  done := by
    intro X hP hw hK hc i pins s σ H E I hf st hg
    subst hP hw hK
    obtain ⟨hd, hi⟩ := hg
    obtain ⟨f0, f1, f2, f3, f4, f5⟩ := hf it (by simp)
    obtain ⟨hs, hgd, hx, es', ep', hdt, hsz, ent⟩ := frzNV I hd
    obtain ⟨rfl, rfl⟩ := dict_ep hod hdt
    obtain ⟨ok, ov, he⟩ := st
    rw [← hsz] at he
    have raw : s.heap.DictRaw d es' ep' := ⟨o, hgd, hx, hdt⟩
    exact wpAny_pyNext_items_end_raw (I.ok.hd hc) he raw (by omega) fun h' eb => ⟨rfl, I.turned (t' := s.toks) (fun b ob hb e => eb b ob hb e) f0 f1 f3 f4 f5⟩
  self := fun A i s Q E st h => let ⟨_, _, e⟩ := st; PySem.W.kcp_self e h
/-- the dict is locked -/
def iItemsN (P : Program) (w : World) (td : TE) : TI := fun σ H R => td σ H fun x H1 => ∃ d o kvs, x = .ref d ∧ H1 d = some (.frz o (DNo P w kvs d)) ∧ R (ItiN P w d o kvs) H1
section
variable {X : Cx} {e : Expr} {td : TE} {apos cpos : Pos} {elts : List Expr} {kk : Nat} {tpos : Pos}
theorem pi_itemsN (he : PE X e td) (hbase : attributeBase e "items" X.env (eval e X.env) = eval e X.env := by rfl) (hline : (apos.endLine == cpos.line) = true := by rfl) :
    PI X (.Tuple elts kk tpos) (.Call (.Attribute e "items" apos) [] [] cpos) (iItemsN X.prog X.w td) := by
  refine ⟨fun pins s σ H R I h => ?_⟩
  refine wpAny_Call_method (T := "dict") (id := "dict.items") hbase rfl hline F.plainAttrs_dict F.slot_dict_items F.type_dict_items (thn (he.run pins s σ H _ I h) fun u s1 ⟨x, H1, I1, rx, d, o, kvs, ex, hd, q⟩ => ?_)
  subst ex
  obtain rfl : u = Value.ref d := rx
  obtain ⟨hs, hgd, hx, es, ep, hdt, hsz, ent⟩ := frzNV I1 hd
  have raw : s1.heap.DictRaw d es ep := ⟨o, hgd, hx, hdt⟩
  refine ⟨raw.typeIs, fun b q => ?_, ?_⟩
  · cases q
    exact ⟨o, hgd, hx.2.1⟩
  have I2 : Inv X pins σ H1 { s1 with heap := s1.heap.push { cls := .type "dict_items", data := .fields #[.ref d] } } := I1.kept (t' := s1.toks) fun b ob q => Heap.get?_push_of_some _ q
  have raw2 : (s1.heap.push { cls := .type "dict_items", data := .fields #[.ref d] }).DictRaw d es ep := ⟨o, Heap.get?_push_of_some _ hgd, hx, hdt⟩
  have fin : wpAny (model X.prog X.w) X.A (pyIter (.ref s1.heap.objs.size)) (PIE X pins σ (.Tuple elts kk tpos) R) X.xe { s1 with heap := s1.heap.push { cls := .type "dict_items", data := .fields #[.ref d] } } := by
    refine wpAny_pyIter_items_raw (d := d) ⟨_, Heap.get?_push_size _ rfl, rfl, rfl⟩ raw2 (pi_one (tk := s1.toks) I2 _ (turn_itemsN _ hdt) ⟨.none, .none, ?_⟩ q)
    rw [← hsz]
    exact Heap.get?_push_size _ rfl
  show wpAny _ _ (callWith cpos (.builtin "dict.items") [.ref d] [] []) _ X.xe s1
  exact method_meetsIn F.slot_dict_items F.entry_dict_items rfl (PySem.evalArgs_none ⟨rfl, raw.typeIs, F.args_dict_items_1 _, _, meets_dict_items_raw d hs, ⟨es, ep, raw⟩, fin⟩)
theorem pi_itemsNP {P : Program} {w : World} (hP : X.prog = P) (hw : X.w = w) (he : PE X e td) (hbase : attributeBase e "items" X.env (eval e X.env) = eval e X.env := by rfl) (hline : (apos.endLine == cpos.line) = true := by rfl) :
    PI X (.Tuple elts kk tpos) (.Call (.Attribute e "items" apos) [] [] cpos) (iItemsN P w td) := by
  subst hP hw
  exact pi_itemsN he hbase hline
theorem walk_itemsN {P : Program} {w : World} {d : Addr} {o : Obj} {kvs : List DnE} : Walk (ItiN P w d o kvs) kvs.length (fun H => H d = some (.frz o (DNo P w kvs d))) (fun i H x H' => ∃ (T : Addr) (e : DnE), kvs[i]? = some e ∧ x = .ref T ∧ H T = none ∧ H' = upd H T (.tup [.ref e.2.1, e.2.2])) :=
  ⟨fun _ _ hi q => ⟨q, hi⟩, fun _ q => ⟨q, Nat.le_refl _⟩, fun _ _ _ _ _ _ y => y⟩
end
/-! a store into such a dict, for comprehensions -/
def STn (P : Program) (w : World) : Addr → V → V → Hp → (Hp → Prop) → Prop := fun D y z H R => ∃ (b : Addr) (ks : NestedKey) (kvs : List DnE), y = .ref b ∧ NKey H b ks ∧ H D = some (DNo P w kvs D) ∧ NKeysAt H kvs ∧ kvs.length < sizeLine ∧ R (upd H D (DNo P w (dnPut kvs ks b z) D))
theorem store_n {P : Program} {w : World} {A : Around} (hu : A.units + 64 < cLine) : Store P w A (DNo P w []) (STn P w) where
  new := fun H h hb => dn_empty h hb
  put := by
    intro X pins σ H s D y z u r R Q E hP hw I ry rz h k
    subst hP hw
    obtain ⟨b, ks, kvs, rfl, kb, hd, ka, hl, q⟩ := h
    obtain rfl : u = Value.ref b := ry
    obtain ⟨zz, hsm, xs, rr, m⟩ := dn_of I.hok (.inl hd) ka
    have hz : xs.length ≤ sizeLine := by rw [← Paired.length rr]; exact zz
    have hl2 : (dnPut kvs ks b z).length ≤ sizeLine := by have := dnPut_len kvs ks b z; omega
    refine wpAny_dictSet_heap (hsz := hz) (knd := nestedKind X.prog X.w) (show A.units + 8 < cLine by omega) (nkey_is I.hok kb) m fun h' m' hsb => k _ _ ?_ q
    have he : ∃ q, h'.get? D = some q := let ⟨q, _, _, hq, _⟩ := m'; ⟨q, hq⟩
    exact d_write I (by rw [hd]; exact True.intro) hsb he (dn_new hl2 hsm (dn_put rr ks b rz) m')
end S
namespace S
open PySem PySem.Spec PyProof.Rows L2
/-! isinstance of a dict with tuple keys; its clear() -/
section
variable {X : Cx} {P : Program} {w : World} {K : Frag}
def rIsiN (P : Program) (w : World) (K : Frag) : List V → Hp → VK → Prop := fun xs H Q => ∃ (d : Addr) (c : V) (u : Value) (b : Bool) (kvs : List DnE), xs = [.ref d, c] ∧ ClsV c u ∧ H d = some (DNo P w kvs d) ∧ PySem.W.kitOne K (.type "dict") u = some b ∧ Q (.bl b) H
theorem isiNK (hK : X.K = K) (hP : X.prog = P) (hw : X.w = w) : CallR X (.builtin "isinstance") (rIsiN P w K) := by
  subst hK hP hw
  intro pins s σ H xs us Q I r h
  obtain ⟨d, c, u, b, kvs, rfl, k, hd, e, q⟩ := h
  obtain ⟨u1, u2, rfl, r1, r2⟩ := vals2 r
  have e2 := k.eq r2
  subst e2
  cases (show u1 = Value.ref d from r1)
  obtain ⟨⟨z, y, xs, rr, o, es, ep, h1, h2, _⟩, _⟩ := (show ObjOk X.prog X.w H s.heap d (DNo X.prog X.w kvs d) from I.hok d _ hd)
  exact PySem.W.kia_one PySem.W.kitx_dict I.kIn ⟨o, h1, h2.1⟩ e (fun z => nomatch z) fun tk => ⟨.bl b, H, I.tok tk, rfl, q⟩
theorem isiN2 (hK : X.K = K) (hP : X.prog = P) (hw : X.w = w) : CallR X (.builtin "isinstance") (fun xs H Q => rIsi K xs H Q ∨ rIsiN P w K xs H Q) := call_or (isiK hK) (isiNK hK hP hw)
def tClearN (P : Program) (w : World) (to : TE) : TE := fun σ H Q => to σ H fun x H1 => ∃ (d : Addr) (kvs : List DnE), x = .ref d ∧ H1 d = some (DNo P w kvs d) ∧ NKeysAt H1 kvs ∧ Q .non (upd H1 d (DNo P w [] d))
theorem pe_clearN {o : Expr} {to : TE} {apos cpos : Pos} (hP : X.prog = P) (hw : X.w = w) (ho : PE X o to) (hbase : attributeBase o "clear" X.env (eval o X.env) = eval o X.env := by rfl) (hline : (apos.endLine == cpos.line) = true := by rfl) :
    PE X (.Call (.Attribute o "clear" apos) [] [] cpos) (tClearN P w to) := by
  subst hP hw
  refine ⟨fun pins s σ H Q I h => ?_⟩
  refine wpAny_Call_method0_late hbase hline (thn (ho.run pins s σ H _ I h) fun v s1 ⟨x, H1, I1, r1, d, kvs, ex, hd, ka, q1⟩ => ?_)
  subst ex
  obtain rfl : v = Value.ref d := r1
  obtain ⟨z, hsm, xs, rr, m⟩ := dn_of I1.hok (.inl hd) ka
  refine ⟨"dict", "dict.clear", PySem.F.plainAttrs_dict, PySem.F.slot_dict_clear, PySem.F.type_dict_clear, m.typeIs, fun a q => ?_, Calls.callWith_builtin rfl (PySem.evalArgs_none ?_)⟩
  · cases q
    obtain ⟨ob, _, _, h1, h2, _⟩ := m
    exact ⟨ob, h1, h2.2.1⟩
  refine PySem.clear_keyed (knd := nestedKind X.prog X.w) ⟨xs, m, rfl⟩ (fun h' hk' hs' => ?_) (by rw [PySem.pairsH_length, ← Paired.length rr]; exact z)
  obtain ⟨ys, hy, ey⟩ := hk'
  have e0 : ys = [] := by
    have := congrArg List.length ey
    rw [PySem.pairsH_length] at this
    exact List.eq_nil_of_length_eq_zero this
  subst e0
  refine ⟨.non, _, ?_, rfl, q1⟩
  have he : ∃ q, h'.get? d = some q := let ⟨q, _, _, hq, _⟩ := hy; ⟨q, hq⟩
  exact d_write (t' := s1.toks) I1 (by rw [hd]; exact True.intro) hs' he (dn_new (Nat.zero_le _) hsm .nil hy)
end
end S
namespace S
open PySem PySem.Spec PyProof.Rows L2
/-! two rules for one node; min and max of a list -/
section
variable {X : Cx} {K : Frag}
def tEor (a b : TE) : TE := fun σ H Q => a σ H Q ∨ b σ H Q
def tTor (a b : TT) : TT := fun σ H Q => a σ H Q ∨ b σ H Q
def tSor (a b : TS) : TS := fun D σ H => a D σ H ∨ b D σ H
theorem pe_or2 {e : Expr} {a b : TE} (h1 : PE X e a) (h2 : PE X e b) : PE X e (tEor a b) := ⟨fun pins s σ H Q I h => h.elim (h1.run pins s σ H Q I) (h2.run pins s σ H Q I)⟩
theorem pt_or2 {e : Expr} {a b : TT} (h1 : PT X e a) (h2 : PT X e b) : PT X e (tTor a b) := ⟨fun pins s σ H Q I h => h.elim (h1.run pins s σ H Q I) (h2.run pins s σ H Q I)⟩
theorem ps_or2 {st : Stmt} {a b : TS} (h1 : PS X st a) (h2 : PS X st b) : PS X st (tSor a b) := ⟨fun pins s σ H D I h => h.elim (h1.run pins s σ H D I) (h2.run pins s σ H D I)⟩
theorem minK (hK : X.K = K) (hc : X.calm = true) : CallR X (.builtin "min") (rMin K) := hK ▸ cr_min hc
theorem maxK (hK : X.K = K) (hc : X.calm = true) : CallR X (.builtin "max") (rMax K) := hK ▸ cr_max hc
theorem boot_min : bootBuiltins "min" = some (.builtin "min") := by decide +kernel
theorem boot_max : bootBuiltins "max" = some (.builtin "max") := by decide +kernel
end
end S
namespace S
open PySem PySem.Spec PyProof.Rows L2
/-! name = {..} for a dict of any kind -/
theorem dcS_core {X : Cx} {pins : List (Addr × Obj)} {s : Shared} {σ : L2.St} {H : Hp} {Q : VK} {pos' : Pos} {use : Option (Value → Sem Unit)} {Qf : Value → Shared → Prop} {kx vx tg iter : Expr} {ifs : List Expr} {scope : Scope} {own : List (Str × Nat)} {pos : Pos} {wi : TI} {g : TG} {tt : TT} {tk tv : TE} {o0 : Addr → HO} {ST : Addr → V → V → Hp → (Hp → Prop) → Prop} (B : Store X.prog X.w X.A o0 ST)
    (hc : X.calm = true) (hN : X.N.Nodup) (hi : PI X tg iter wi) (ok : BlkOk X.N X.env.scope scope own)
    (hg : ∀ (s : Shared) (H : Hp) (C : Addr) (cl : List (Str × Addr)) (fp : List Addr), PG (X.blk s H scope (compEnvC scope cl C X.env) fp) tg g)
    (ht : ∀ (s : Shared) (H : Hp) (C : Addr) (cl : List (Str × Addr)) (fp : List Addr), PTs (X.blk s H scope (compEnvC scope cl C X.env) fp) ifs tt)
    (hk : ∀ (s : Shared) (H : Hp) (C : Addr) (cl : List (Str × Addr)) (fp : List Addr), PE (X.blk s H scope (compEnvC scope cl C X.env) fp) kx tk)
    (he : ∀ (s : Shared) (H : Hp) (C : Addr) (cl : List (Str × Addr)) (fp : List Addr), PE (X.blk s H scope (compEnvC scope cl C X.env) fp) vx tv) (hs : ∀ x, foldedSetIterable iter X.env x = pure x)
    (h : tDcS o0 ST wi g tt tk tv (own.map (·.2)) σ H Q) (I : Inv X pins σ H s)
    (hRR : ∀ D C s' m H', Inv X pins σ H' s' → Q (.ref D) H' → s'.heap.Ns C m → FpOk X pins H' C → compPost (model X.prog X.w) X.A X.xe use Qf (.ref D) C (.ok .next) s') :
    wpAny (model X.prog X.w) X.A (comprehension (.DictComp kx vx [⟨tg, iter, ifs, 0⟩] scope pos) scope X.env pos' newDict false (eval iter X.env) use) Qf X.xe s := by
  have clo : ∀ y ∈ scope.names, y.2 = .free → ∃ c, X.env.cells.lookup y.1 = some c := fun y hy e =>
    (ok.free y hy e).elim (fun k => I.ok.has _ (.inl k)) fun k => I.ok.has _ (.inr k)
  refine wpAny_comprehension_free (use := use) rfl hs (closure_ok clo) ok.kind (fun y hy e => by rw [ok.uniq y hy, e]) (thn (hi.run pins s σ H _ I h) fun _ s1 hx => thn hx fun _ s2 h2 => ?_)
  obtain ⟨it, fp, tn, J, H2, rfl, I2, T, t2, f2, q⟩ := h2
  refine wpAny_newObj_type (newEnv_comp ?_)
  generalize hD : s2.heap.objs.size = D
  obtain ⟨W, ⟨m0, w0⟩, turn⟩ := q D (I2.hok.fresh (Nat.le_of_eq hD))
  -- behind the new dict
  generalize hs3 : ({ s2 with heap := s2.heap.push { cls := .type "dict", data := .dict #[] } } : Shared) = s3
  have h3 : s3.heap = s2.heap.push { cls := .type "dict", data := .dict #[] } := by rw [← hs3]
  have keep3 : ∀ b o, s2.heap.get? b = some o → s3.heap.get? b = some o := fun b o e => by rw [h3]; exact Heap.get?_push_of_some _ e
  have I3 : Inv X pins σ (upd H2 D (o0 D)) s3 := by
    subst hD hs3
    exact I2.laid (t' := s2.toks) (fun b o e => Heap.get?_push_of_some _ e) (Nat.le_refl _) (B.new _ _ I2.big)
  have f3 : ∀ b ∈ fp, FpOk X pins (upd H2 D (o0 D)) b ∧ b < s3.heap.objs.size := fun b hb => by
    obtain ⟨o, e, _⟩ := T.obj _ _ t2 b hb
    have lt := Heap.lt_size e
    exact ⟨⟨by rw [upd_ne (by rw [← hD]; exact Nat.ne_of_lt lt)]; exact (f2 b hb).1, (f2 b hb).2⟩, by rw [h3, Heap.size_push]; exact Nat.lt_succ_of_lt lt⟩
  have I4 := block_start I3 ok hN f3
  show codeAny _ _ (.compStart _ 0 (.ref it) (.ref D) (compEnvC scope (cellsFrom (s3.heap.objs.size + 1) scope.names (cloFrom X.env.cells scope.names [])) s3.heap.objs.size X.env)) _ { s3 with heap := pushCells (s3.heap.push { cls := .type "dict", data := .dict #[] }) scope.names }
  generalize hH3 : upd H2 D (o0 D) = H3 at I3 f3 I4 w0
  generalize hcl : cellsFrom (s3.heap.objs.size + 1) scope.names (cloFrom X.env.cells scope.names []) = cl at I4 ⊢
  have pg := hg s3 H3 s3.heap.objs.size cl fp
  have pt := ht s3 H3 s3.heap.objs.size cl fp
  have pk := hk s3 H3 s3.heap.objs.size cl fp
  have pe := he s3 H3 s3.heap.objs.size cl fp
  have cL : (compEnvC scope cl s3.heap.objs.size X.env).locals = s3.heap.objs.size := rfl
  generalize compEnvC scope cl s3.heap.objs.size X.env = ce at I4 pg pt pk pe cL ⊢
  generalize hs4 : ({ s3 with heap := pushCells (s3.heap.push { cls := .type "dict", data := .dict #[] }) scope.names } : Shared) = s4 at I4 ⊢
  have t4 : tn 0 s4.heap := T.keep _ _ _ t2 fun b _ o e => by rw [← hs4]; exact pushCells_keeps _ _ _ _ (Heap.get?_push_of_some _ (keep3 b o e))
  -- the iterator's own objects, in the block
  have own_ : ∀ {σ' : L2.St} {H' : Hp} {s' : Shared}, Inv (X.blk s3 H3 scope ce fp) [] σ' H' s' → (∀ b ∈ fp, H' b = none) → ∀ b ∈ fp, FpOk (X.blk s3 H3 scope ce fp) [] H' b := fun I' hn b hb =>
    ⟨hn b hb, (I'.ok.exf b hb).1, I'.ok.exfs b hb, .inl hb, fun x c e => (I'.ok.exf b hb).2 x c e, fun p hp => absurd (show p ∈ ([] : List (Addr × Obj)) ++ [] from hp) (by simp)⟩
  let In : Nat → Shared → Prop := fun n s' => ∃ i H', Inv (X.blk s3 H3 scope ce fp) [] (wipe σ (own.map (·.2))) H' s' ∧ tn i s'.heap ∧ (∀ b ∈ fp, H' b = none) ∧ W i n H'
  have loop := compLoop_anyD (prog := X.prog) (w := X.w) (A := X.A) (R := compPost (model X.prog X.w) X.A X.xe use Qf (.ref D) s3.heap.objs.size) (kx := kx) (vx := vx) (target := tg) (iter := iter) (ifs := ifs) (scope := scope) (pos := pos) (it := .ref it) (D := D) (env := ce) In ?turn m0 ⟨0, H3, I4, t4, fun b hb => (f3 b hb).1.1, w0⟩ (s := s4)
  case turn =>
    rintro n s5 ⟨i, H5, I5, t5, n5, w5⟩
    rcases turn i n H5 w5 with ⟨st, qq⟩ | ⟨go, Nx, hNx, step⟩
    · refine thnF (T.done (X.blk s3 H3 scope ce fp) rfl rfl rfl hc i [] s5 _ H5 (fun _ _ => False) I5 (own_ I5 n5) t5 st) fun _ s6 ⟨hr, I6⟩ => ?_
      subst hr
      obtain ⟨m, hn, _⟩ := I6.loc
      have free : H5 ce.locals = none := I6.free
      rw [cL] at free
      have hn' : s6.heap.Ns ce.locals m := hn
      rw [cL] at hn'
      refine hRR D s3.heap.objs.size s6 m H5 (I3.call' (ch := fp) I6.os I6.base I6.hok I6.bare fun b hb => ?_) qq hn' (I3.fpOk (Nat.le_refl _) free)
      obtain ⟨_, g1, g2, g3, g4, g5⟩ := (f3 b hb).1
      exact ⟨g3, g1, g4, g5⟩
    · refine thnF (T.item (X.blk s3 H3 scope ce fp) rfl rfl rfl hc i [] s5 _ H5 (fun _ _ => False) I5 (own_ I5 n5) t5 go) fun _ s6 ⟨u, hr, h6⟩ => ?_
      subst hr
      refine thnF h6 fun _ s7 ⟨x, H7, I7, r7, y7, t7, n7⟩ => ?_
      have back : ∀ {σ8 : L2.St} {s' : Shared} {H' : Hp}, wipe σ8 (own.map (·.2)) = wipe σ (own.map (·.2)) → Inv (X.blk s3 H3 scope ce fp) ([] ++ pinsAt fp s7.heap) σ8 H' s' → Nx H' → ∃ m, m < n ∧ In m s' := fun {σ8 s' H'} hw I' nx => by
        obtain ⟨m', hm, w'⟩ := hNx H' nx
        have pin : ∀ b ∈ fp, ∀ o, s7.heap.get? b = some o → s'.heap.get? b = some o ∧ H' b = none := fun b hb o e =>
          let z := I'.pin (b, o) (List.mem_append_right _ (List.mem_append_right _ (mem_pinsAt hb e)))
          ⟨z.1, z.2.1⟩
        refine ⟨m', hm, i + 1, H', (I'.unpinned (pins := [])).weak (by rw [← hw, wipe_length]) (fun j v e => ?_), T.keep _ _ _ t7 fun b hb o e => (pin b hb o e).1, fun b hb => ?_, w'⟩
        · rw [← hw] at e
          exact (wipe_some e).1
        · obtain ⟨o, e, _⟩ := T.obj _ _ t7 b hb
          exact (pin b hb o e).2
      refine thnF (pg.run _ s7 _ H7 x u _ (I7.pinned (own_ I7 n7) (T.obj _ _ t7)) r7 (step x H7 y7)) fun _ s8 ⟨σ8, H8, I8, hw8, q8⟩ => ?_
      refine thnF (pt.run _ s8 σ8 H8 _ I8 q8) fun b s9 ⟨H9, I9, q9⟩ => ?_
      cases b with
      | false => exact back hw8 I9 q9
      | true => exact thnF (pk.run _ s9 σ8 H9 _ I9 q9) fun _ s10 ⟨yk, H10, I10, r10, q10⟩ => thnF (pe.run _ s10 σ8 H10 _ I10 q10) fun _ s11 ⟨yv, H11, I11, r11, q11⟩ => B.put (X := X.blk s3 H3 scope ce fp) rfl rfl I11 r10 r11 q11 fun s12 H12 I12 nx => back hw8 I12 nx
  exact codeAny_compStart_dict loop (T.self X.A 0 _ _ _ t4 loop)
section
variable {X : Cx}
theorem ps_setDcS {o0 : Addr → HO} {ST : Addr → V → V → Hp → (Hp → Prop) → Prop} {i : Nat} {y : Str} {py : Pos} {kx vx tg iter : Expr} {ifs : List Expr} {scope : Scope} {own : List (Str × Nat)} {pos spos : Pos} {wi : TI} {g : TG} {tt : TT} {tk tv : TE} (B : Store X.prog X.w X.A o0 ST) (hc : X.calm = true) (hN : X.N.Nodup) (hy : X.N[i]? = some y) (hyl : X.env.scope.names.lookup y = some .local)
    (hsw : swapsWith (.DictComp kx vx [⟨tg, iter, ifs, 0⟩] scope pos) (some (.Name y py)) spos.line X.env = pure true) (hi : PI X tg iter wi) (ok : BlkOk X.N X.env.scope scope own)
    (hg : ∀ (s : Shared) (H : Hp) (C : Addr) (cl : List (Str × Addr)) (fp : List Addr), PG (X.blk s H scope (compEnvC scope cl C X.env) fp) tg g) (ht : ∀ (s : Shared) (H : Hp) (C : Addr) (cl : List (Str × Addr)) (fp : List Addr), PTs (X.blk s H scope (compEnvC scope cl C X.env) fp) ifs tt)
    (hk : ∀ (s : Shared) (H : Hp) (C : Addr) (cl : List (Str × Addr)) (fp : List Addr), PE (X.blk s H scope (compEnvC scope cl C X.env) fp) kx tk)
    (he : ∀ (s : Shared) (H : Hp) (C : Addr) (cl : List (Str × Addr)) (fp : List Addr), PE (X.blk s H scope (compEnvC scope cl C X.env) fp) vx tv) (hs : ∀ x, foldedSetIterable iter X.env x = pure x := by intro _; rfl) :
    PS X (.Assign [.Name y py] (.DictComp kx vx [⟨tg, iter, ifs, 0⟩] scope pos) spos) (tAsg (tDcS o0 ST wi g tt tk tv (own.map (·.2))) (gName i)) := by
  refine ⟨fun pins s σ H D I h => ?_⟩
  rw [exec_Assign_Name_used _ _ _ _ hsw]
  refine wpAny_bind (wpAny_standAt (wpAny_bind ?_))
  show wpAny _ X.A (do let _ ← comprehension (.DictComp kx vx [⟨tg, iter, ifs, 0⟩] scope pos) scope X.env (firstIterPos [⟨tg, iter, ifs, 0⟩] pos) newDict false (eval iter X.env) (some (assign (.Name y py) X.env))) _ _ s
  have h : tDcS o0 ST wi g tt tk tv (own.map (·.2)) σ H (fun x H1 => gName i x σ H1 D.nx) := h
  refine wpAny_bind (thn (dcS_core (Qf := fun _ s' => SP X pins D .next s') B hc hN hi ok hg ht hk he hs h I fun L C s' m H' I' q hn f => ?_) fun _ s' hq => wpAny_pure (wpAny_pure hq))
  show wpAny _ _ (assign (.Name y py) X.env (.ref L)) _ _ _
  obtain ⟨f0, f1, f2, f3, f4, f5⟩ := f
  refine wpAny_assign_Name (store_ok2 (v := V.ref L) I' hN hy (.inl hyl) rfl (fun s2 I2 ⟨a, sb, ha⟩ => ?_) (.inr hyl))
  have haC : C ≠ a := ha.elim (fun z => by rw [z]; exact f1) fun z e => f4 y a z e.symm
  exact ⟨m, hn.sameBut sb haC, fun h3 sb3 => ⟨_, H', I2.turned (t' := s2.toks) (fun b o hb e => (sb3.2 b hb).trans e) f0 f1 f3 f4 f5, q⟩⟩
end
end S
namespace S
open PySem PySem.Spec PyProof.Rows L2 GenW
/-! for and if with a yield in their bodies -/
section
variable {prog : Program} {w : World} {A : Around} {R : GenEnd} {Y : Protocol} {n : Nat} {s₀ : Shared} {fs : List Frame} {s : Shared} {env : Env}
abbrev notes (env : Env) (x : Value) : Sem PySem.Fin := (do noteFrame x env; theTreesLotGoes x : Sem Unit).wrap (fun _ => .raise x) .raise id id
theorem seg_forLoop {target : Expr} {it : Value} {body : List Stmt}
    (h : wpAny (model prog w) (A.over (.forLoop target it body [] env) fs) (pyNext it) (fun r s' => match r with
        | none => Seg (model prog w) A R Y n s₀ (.block [] env) ((model prog w).den (.block [] env)) fs s'
        | some v => wpAny (model prog w) (A.over (.forLoop target it body [] env) fs) (letOwnedTupleGo target it v) (fun _ s1 =>
            wpAny (model prog w) (A.over (.forLoop target it body [] env) fs) (assign target env v) (fun _ s2 =>
              Seg (model prog w) A R Y n s₀ (.forLoop target it body [] env) ((execs body env).wrap (fun f => match f with
                | .next | .cont => .pure (.again (.forLoop target it body [] env))
                | .brk => .pure (.done .next)
                | .ret v => .pure (.done (.ret v))) (notes env) id id) fs s2)
              (fun x s' => Seg (model prog w) A R Y n s₀ (.forLoop target it body [] env) (notes env x) fs s') s1)
            (fun x s' => Seg (model prog w) A R Y n s₀ (.forLoop target it body [] env) (notes env x) fs s') s')
      (fun x s' => Seg (model prog w) A R Y n s₀ (.forLoop target it body [] env) (notes env x) fs s') s) :
    Seg (model prog w) A R Y n s₀ (.forLoop target it body [] env) ((model prog w).den (.forLoop target it body [] env)) fs s := by
  have hn : ∀ x, (do noteFrame x env; theTreesLotGoes x : Sem Unit).bind (fun _ => (.raise x : Sem PySem.Fin)) = notes env x := fun x => by
    first | exact Sem.bind_eq_wrap _ _ | (rw [Sem.bind_eq_wrap])
  show Seg _ A R Y n s₀ _ ((forTurn target it body [] env).onRaise (fun x => do noteFrame x env; theTreesLotGoes x)) fs s
  unfold forTurn
  rw [Sem.onRaise_eq_wrap]
  refine seg_bind_wrap (wpAny_standAt ?_)
  refine seg_bind_wrap (wpAny_onRaise (wpAny_mono h (fun r s' hr => ?_) fun x s' hx => wpAny_standAt ?_))
  · cases r with
    | none =>
      show Seg _ A R Y n s₀ _ (.pure (.again (.block [] env))) fs s'
      exact seg_again rfl hr
    | some v =>
      show Seg _ A R Y n s₀ _ ((letOwnedTupleGo target it v >>= fun _ => assign target env v >>= fun _ => execs body env >>= fun f => match f with
          | Flow.next => again (Code.forLoop target it body [] env)
          | Flow.cont => again (Code.forLoop target it body [] env)
          | Flow.brk => pure (Fin.done Flow.next)
          | Flow.ret v => pure (Fin.done (Flow.ret v)) : Sem PySem.Fin).wrap Sem.pure _ id id) fs s'
      refine seg_bind_wrap (wpAny_mono hr (fun _ s1 h1 => ?_) fun x s' hx => by rw [hn]; exact hx)
      refine seg_bind_wrap (wpAny_mono h1 (fun _ s2 h2 => ?_) fun x s' hx => by rw [hn]; exact hx)
      rw [Sem.bind_eq_wrap', Sem.wrap_wrap]
      rw [Sem.wrap_congr (execs body env) _ _ (K' := fun f => match f with
            | .next | .cont => .pure (.again (.forLoop target it body [] env))
            | .brk => .pure (.done .next)
            | .ret v => .pure (.done (.ret v))) (H' := notes env)
        (fun f => by cases f <;> rfl) (fun e => by exact hn e)]
      exact h2
  · rw [hn]
    exact hx
/-- a loop's own code, called -/
theorem seg_runOwn {M : Model} {c c' : Code} {K : Flow → Sem PySem.Fin} {H : Value → Sem PySem.Fin} {gd : Bool → Bool} {lv : List Value → List Value}
    (h : ∀ p, Seg M A R Y n s₀ c' (M.den c') (.ret (fun r => ((match r with | .ok f => (.pure f : Sem Flow) | .error e => .raise e).onRaise (cameBack env)).wrap K H gd lv) none (gd false) (lv []) c p [] :: fs) s) :
    Seg M A R Y n s₀ c ((runOwn c' env).wrap K H gd lv) fs s := seg_call h
theorem seg_For {M : Model} {c : Code} {K : Flow → Sem PySem.Fin} {H : Value → Sem PySem.Fin} {gd : Bool → Bool} {lv : List Value → List Value} {target iter : Expr} {body : List Stmt} {pos : Pos}
    (hs : ∀ x, foldedSetIterable iter env x = pure x)
    (h : wpAny M (A.over c fs) (eval iter env) (fun x s1 => wpAny M (A.over c fs) (pyIter x) (fun it s2 =>
      ∀ p, Seg M A R Y n s₀ (.forLoop target it body [] env) (M.den (.forLoop target it body [] env)) (.ret (fun r => ((match r with | .ok f => (.pure f : Sem Flow) | .error e => .raise e).onRaise (cameBack env)).wrap K H gd lv) none (gd false) (lv []) c p [] :: fs) s2)
      (fun x s' => Seg M A R Y n s₀ c (H x) fs s') s1) (fun x s' => Seg M A R Y n s₀ c (H x) fs s') s) :
    Seg M A R Y n s₀ c ((exec (.For target iter body [] pos) env).wrap K H gd lv) fs s := by
  rw [exec_For]
  refine seg_bind_wrap (wpAny_standAt ?_)
  refine seg_bind_wrap (wpAny_mono h (fun x s1 h1 => ?_) fun _ _ hx => hx)
  refine seg_bind_wrap (wpAny_of_eq (hs x) ?_)
  refine seg_bind_wrap (wpAny_standAt ?_)
  refine seg_bind_wrap (wpAny_holding (wpAny_mono h1 (fun it s2 h2 => ?_) fun _ _ hx => hx))
  exact seg_runOwn h2
end
section
variable {X : Cx}
def tGFor (wi : TI) (g : TG) (tb : TGn) : TGn := fun D ys σ H => wi σ H fun J H1 => ∃ W : Nat → Nat → List V → L2.St → Hp → Prop, (∃ m, W 0 m ys σ H1) ∧ ∀ i m ys σ H, W i m ys σ H →
  (J.stop i H ∧ D.nx ys σ H) ∨ (J.go i H ∧ ∃ N : List V → L2.St → Hp → Prop, (∀ ys' σ' H', N ys' σ' H' → ∃ m', m' < m ∧ W (i + 1) m' ys' σ' H') ∧ ∀ x H', J.yld i H x H' → g x σ H' fun σ2 H2 => tb { D with nx := N, ct := N, bk := D.nx } ys σ2 H2)
theorem gs_for {tg iter : Expr} {body : List Stmt} {wi : TI} {g : TG} {tb : TGn} {pos : Pos} (hp : PassesOwn (model X.prog X.w) X.A X.env X.xe) (hc : X.calm = true) (hi : PI X tg iter wi) (hg : PG X tg g) (hb : GSs X body tb)
    (hs : ∀ x, foldedSetIterable iter X.env x = pure x := by intro _; rfl) : GS X (.For tg iter body [] pos) (tGFor wi g tb) := by
  refine ⟨fun A S ip R n ys s₀ c fs K J gd lv s σ H D g0 hn k hI ht => ?_⟩
  obtain ⟨acc0, cc0, r0, I0⟩ := hI
  refine seg_For hs ?_
  rw [g0.over]
  refine wpAny_mono (hi.run _ s σ H _ I0 ht) (fun v s1 h1 => wpAny_mono h1 (fun itv s2 h2 => ?_) fun x s' hx => k.exc n s₀ x s' hx) fun x s' hx => k.exc n s₀ x s' hx
  obtain ⟨it, fp, tn, Jt, H2, e, I2, T, st2, f2, W, ⟨m0, w0⟩, turn⟩ := h2
  subst e
  intro p
  have stat : ∀ {H' : Hp} {acc : Array Value} {cc : Nat}, (∀ b ∈ fp, H' b = none) → ∀ b ∈ fp, FpOk X ((S, lstObj acc cc) :: ip) H' b := fun hn b hb => by
    obtain ⟨q1, q2, q3, q4, q5, q6⟩ := f2 b hb
    refine ⟨hn b hb, q2, q3, q4, q5, fun p hp => ?_⟩
    rcases List.mem_append.mp hp with hp | hp
    · exact q6 p (List.mem_append_left _ hp)
    · rcases List.mem_cons.mp hp with hp | hp
      · rw [hp]
        exact q6 (S, lstObj acc0 cc0) (List.mem_append_right _ List.mem_cons_self)
      · exact q6 p (List.mem_append_right _ (List.mem_cons_of_mem _ hp))
  have nS : ∀ b ∈ fp, b ≠ S := fun b hb e => by
    obtain ⟨_, _, _, _, _, q6⟩ := f2 b hb
    exact q6 (S, lstObj acc0 cc0) (List.mem_append_right _ List.mem_cons_self) e.symm
  have gl := fun (kk : Result → Sem PySem.Fin) => gc_loop (k := kk) (c' := .forLoop tg (.ref it) body [] X.env) (l := lv []) (kp := []) (p := p) g0 rfl rfl
  have loop : ∀ (m n : Nat) (i : Nat) (ys : List V) (s₀ s : Shared) (σ : L2.St) (H : Hp) (acc : Array Value) (cc : Nat), n + ys.length = sizeLine → W i m ys σ H → Vals ys acc.toList → Inv X ((S, lstObj acc cc) :: ip) σ H s → tn i s.heap → (∀ b ∈ fp, H b = none) →
      Seg (model X.prog X.w) A R (GY X S) n s₀ (.forLoop tg (.ref it) body [] X.env) ((model X.prog X.w).den (.forLoop tg (.ref it) body [] X.env))
        (.ret (fun r => ((match r with | .ok f => (.pure f : Sem Flow) | .error e => .raise e).onRaise (cameBack X.env)).wrap K J gd lv) none (gd false) (lv []) c p [] :: fs) s := by
    intro m
    induction m using Nat.strongRecOn with
    | ind m ih =>
      intro n i ys s₀ s σ H acc cc hn w r I st fr
      have ee : ∀ (n : Nat) (s₀ : Shared) (x : Value) (s' : Shared), X.xe x s' → Seg (model X.prog X.w) A R (GY X S) n s₀ (.forLoop tg (.ref it) body [] X.env) (notes X.env x)
          (.ret (fun r => ((match r with | .ok f => (.pure f : Sem Flow) | .error e => .raise e).onRaise (cameBack X.env)).wrap K J gd lv) none (gd false) (lv []) c p [] :: fs) s' := fun n s₀ x s' hx => by
        refine seg_wrap ?_
        rw [(gl _).over]
        refine wpAny_bind (wpAny_mono (hp x s' hx) (fun _ s'' hcb => wpAny_theTreesLotGoes ?_) fun y s'' hcb => ?_)
        · exact seg_leaf (.error x) (seg_cameBack g0 k hcb)
        · exact seg_leaf (.error y) (seg_cameBack g0 k hcb)
      refine seg_forLoop ?_
      rw [(gl _).over]
      rcases turn i m ys σ H w with ⟨stop, qn⟩ | ⟨go, N, hN, step⟩
      · refine wpAny_mono (T.done X rfl rfl rfl hc i _ s σ H X.xe I (stat fr) st stop) (fun r' s4 ⟨hr, I4⟩ => ?_) fun x s' hx => ee n s₀ x s' hx
        subst hr
        show Seg _ _ _ _ _ _ _ ((model X.prog X.w).den (.block [] X.env)) _ _
        show Seg _ _ _ _ _ _ _ (.pure (.done .next)) _ _
        exact seg_leaf (.ok .next) (k.ok n ys s₀ s4 .next hn ⟨σ, H, ⟨acc, cc, r, I4⟩, qn⟩)
      · refine wpAny_mono (T.item X rfl rfl rfl hc i _ s σ H X.xe I (stat fr) st go) (fun r' s4 ⟨u, hr, h4⟩ => ?_) fun x s' hx => ee n s₀ x s' hx
        subst hr
        refine wpAny_mono h4 (fun _ s5 ⟨x, H5, I5, r5, y5, st5, fr5⟩ => ?_) fun x s' hx => ee n s₀ x s' hx
        have I5' := I5.pinned (stat fr5) (T.obj _ _ st5)
        refine wpAny_mono (hg.run _ s5 σ H5 x u _ I5' r5 (step x H5 y5)) (fun _ s6 ⟨σ6, H6, I6, q6⟩ => ?_) fun x s' hx => ee n s₀ x s' hx
        refine hb.run A S (ip ++ pinsAt fp s5.heap) R n ys s₀ _ _ _ _ id id s6 σ6 H6 { D with nx := N, ct := N, bk := D.nx } ⟨g0.pn, fun p hp => ?_, g0.apart, (gl _).over, (gl _).split, (gl _).guard, rfl⟩ hn ⟨fun n' ys' s₀' s3 f hn' hs => ?_, fun n' s₀' x s3 hx => ee n' s₀' x s3 hx⟩ ⟨acc, cc, r, I6⟩ q6
        · rcases List.mem_append.mp hp with hp | hp
          · exact g0.ip p hp
          · exact nS _ (of_pinsAt hp).1
        have again : ∀ {σ7 : L2.St} {H7 : Hp}, GI X S (ip ++ pinsAt fp s5.heap) ys' σ7 H7 s3 → N ys' σ7 H7 → Seg (model X.prog X.w) A R (GY X S) n' s₀' (.forLoop tg (.ref it) body [] X.env) (.pure (.again (.forLoop tg (.ref it) body [] X.env)))
            (.ret (fun r => ((match r with | .ok f => (.pure f : Sem Flow) | .error e => .raise e).onRaise (cameBack X.env)).wrap K J gd lv) none (gd false) (lv []) c p [] :: fs) s3 := fun {σ7 H7} I7 n7 => by
          obtain ⟨acc7, cc7, r7, I7⟩ := I7
          obtain ⟨m', hm, w7⟩ := hN ys' σ7 H7 n7
          have pin7 : ∀ {b : Addr} {o : Obj}, b ∈ fp → s5.heap.get? b = some o → (b, o) ∈ X.pn ++ ((S, lstObj acc7 cc7) :: (ip ++ pinsAt fp s5.heap)) := fun hb e => List.mem_append_right _ (List.mem_cons_of_mem _ (List.mem_append_right _ (mem_pinsAt hb e)))
          have I8 : Inv X (((S, lstObj acc7 cc7) :: ip) ++ pinsAt fp s5.heap) σ7 H7 s3 := I7
          refine seg_again rfl (ih m' hm n' (i + 1) ys' s₀' s3 σ7 H7 acc7 cc7 hn' w7 r7 I8.unpinned (T.keep _ _ _ st5 fun b hb o e => (I7.pin (b, o) (pin7 hb e)).1) fun b hb => ?_)
          obtain ⟨o, e, d⟩ := T.obj _ _ st5 b hb
          exact (I7.pin (b, o) (pin7 hb e)).2.1
        cases f with
        | next =>
          obtain ⟨σ7, H7, I7, n7⟩ := hs
          exact again I7 n7
        | cont =>
          obtain ⟨σ7, H7, I7, n7⟩ := hs
          exact again I7 n7
        | brk =>
          obtain ⟨σ7, H7, ⟨acc7, cc7, r7, I7⟩, q7⟩ := hs
          have I8 : Inv X (((S, lstObj acc7 cc7) :: ip) ++ pinsAt fp s5.heap) σ7 H7 s3 := I7
          exact seg_leaf (.ok .next) (k.ok n' ys' s₀' s3 .next hn' ⟨σ7, H7, ⟨acc7, cc7, r7, I8.unpinned⟩, q7⟩)
        | ret v =>
          obtain ⟨v7, σ7, H7, ⟨acc7, cc7, r7, I7⟩, rv, q7⟩ := hs
          have I8 : Inv X (((S, lstObj acc7 cc7) :: ip) ++ pinsAt fp s5.heap) σ7 H7 s3 := I7
          exact seg_leaf (.ok (.ret v)) (k.ok n' ys' s₀' s3 (.ret v) hn' ⟨v7, σ7, H7, ⟨acc7, cc7, r7, I8.unpinned⟩, rv, q7⟩)
  exact loop m0 n 0 ys s₀ s2 σ H2 acc0 cc0 hn w0 r0 I2 st2 fun b hb => (f2 b hb).1
theorem gfor_list {K : Frag} {a : Addr} {xs : List V} {g : TG} {tb : TGn} {D : GEnds} {ys : List V} {σ : L2.St} {H : Hp} (Pv : Nat → List V → L2.St → Hp → Prop) (h0 : Pv 0 ys σ H) (hl : ∀ i ys σ H, i ≤ xs.length → Pv i ys σ H → SqL K H a xs)
    (hs : ∀ i x ys σ H, xs[i]? = some x → Pv i ys σ H → g x σ H fun σ2 H2 => tb { D with nx := Pv (i + 1), ct := Pv (i + 1), bk := D.nx } ys σ2 H2) (hd : ∀ ys σ H, Pv xs.length ys σ H → D.nx ys σ H) :
    ∃ W : Nat → Nat → List V → L2.St → Hp → Prop, (∃ m, W 0 m ys σ H) ∧ ∀ i m ys σ H, W i m ys σ H →
      ((Itl K a).stop i H ∧ D.nx ys σ H) ∨ ((Itl K a).go i H ∧ ∃ N : List V → L2.St → Hp → Prop, (∀ ys' σ' H', N ys' σ' H' → ∃ m', m' < m ∧ W (i + 1) m' ys' σ' H') ∧ ∀ x H', (Itl K a).yld i H x H' → g x σ H' fun σ2 H2 => tb { D with nx := N, ct := N, bk := D.nx } ys σ2 H2) := by
  refine ⟨fun i m ys σ H => m = xs.length - i ∧ i ≤ xs.length ∧ Pv i ys σ H, ⟨xs.length, by simp, Nat.zero_le _, h0⟩, ?_⟩
  rintro i m ys σ H ⟨rfl, hi, p⟩
  have q := hl i ys σ H hi p
  by_cases hlt : i < xs.length
  · refine .inr ⟨⟨xs, xs[i], q, by simp [hlt]⟩, Pv (i + 1), fun ys' σ' H' p' => ⟨xs.length - (i + 1), by omega, rfl, hlt, p'⟩, fun x H' y => ?_⟩
    obtain ⟨e, y⟩ := y
    subst e
    exact hs i x ys σ _ (y xs q) p
  · have e : i = xs.length := by omega
    subst e
    exact .inl ⟨⟨xs, q, Nat.le_refl _⟩, hd ys σ H p⟩
theorem gfor_range {lo : Int} {n : Nat} {g : TG} {tb : TGn} {D : GEnds} {ys : List V} {σ : L2.St} {H : Hp} (Pv : Nat → List V → L2.St → Hp → Prop) (h0 : Pv 0 ys σ H)
    (hs : ∀ i ys σ H, i < n → Pv i ys σ H → g (.int (lo + i)) σ H fun σ2 H2 => tb { D with nx := Pv (i + 1), ct := Pv (i + 1), bk := D.nx } ys σ2 H2) (hd : ∀ ys σ H, Pv n ys σ H → D.nx ys σ H) :
    ∃ W : Nat → Nat → List V → L2.St → Hp → Prop, (∃ m, W 0 m ys σ H) ∧ ∀ i m ys σ H, W i m ys σ H →
      ((Itr lo n).stop i H ∧ D.nx ys σ H) ∨ ((Itr lo n).go i H ∧ ∃ N : List V → L2.St → Hp → Prop, (∀ ys' σ' H', N ys' σ' H' → ∃ m', m' < m ∧ W (i + 1) m' ys' σ' H') ∧ ∀ x H', (Itr lo n).yld i H x H' → g x σ H' fun σ2 H2 => tb { D with nx := N, ct := N, bk := D.nx } ys σ2 H2) := by
  refine ⟨fun i m ys σ H => m = n - i ∧ i ≤ n ∧ Pv i ys σ H, ⟨n, by simp, Nat.zero_le _, h0⟩, ?_⟩
  rintro i m ys σ H ⟨rfl, hi, p⟩
  by_cases hlt : i < n
  · refine .inr ⟨hlt, Pv (i + 1), fun ys' σ' H' p' => ⟨n - (i + 1), by omega, rfl, hlt, p'⟩, fun x H' y => ?_⟩
    obtain ⟨e, y⟩ := y
    subst e y
    exact hs i ys σ _ hlt p
  · have e : i = n := by omega
    subst e
    exact .inl ⟨Nat.le_refl _, hd ys σ H p⟩
def tGIf (c : TT) (t u : TGn) : TGn := fun D ys σ H => c σ H fun b H1 => if b = true then t D ys σ H1 else u D ys σ H1
theorem gs_if {c : Expr} {a b : List Stmt} {tc : TT} {t u : TGn} {pos : Pos} (hc : PT X c tc) (ha : GSs X a t) (hb : GSs X b u) : GS X (.If c a b pos) (tGIf tc t u) := by
  refine ⟨fun A S ip R n ys s₀ cd fs K J gd lv s σ H D g hn k hI ht => ?_⟩
  obtain ⟨acc, cc, r, I⟩ := hI
  rw [exec_If]
  refine seg_bind_wrap (wpAny_standAt ?_)
  refine seg_bind_wrap ?_
  rw [g.over]
  refine wpAny_mono (hc.run _ s σ H _ I ht) (fun d s1 h1 => ?_) fun x s' hx => k.exc n s₀ x s' hx
  obtain ⟨H1, I1, q⟩ := h1
  cases d with
  | true => exact ha.run A S ip R n ys s₀ cd fs K J gd lv s1 σ H1 D g hn k ⟨acc, cc, r, I1⟩ q
  | false => exact hb.run A S ip R n ys s₀ cd fs K J gd lv s1 σ H1 D g hn k ⟨acc, cc, r, I1⟩ q
end
/-! a generator def's promise, by the number of its arguments -/
def SpG1 (f : V → Hp → (List V → Hp → Prop) → XK → Prop) : SpG := fun vs H Q E => ∃ x, vs = [x] ∧ f x H Q E
def SpG2 (f : V → V → Hp → (List V → Hp → Prop) → XK → Prop) : SpG := fun vs H Q E => ∃ x y, vs = [x, y] ∧ f x y H Q E
section
variable {vs : List V} {H : Hp} {Q : List V → Hp → Prop} {E : XK}
theorem sgplen1 {f} (h : SpG1 f vs H Q E) : vs.length = 1 := by obtain ⟨_, rfl, _⟩ := h; rfl
theorem sgplen2 {f} (h : SpG2 f vs H Q E) : vs.length = 2 := by obtain ⟨_, _, rfl, _⟩ := h; rfl
end
section
variable {P : Program} {w : World} {K : PySem.W.Frag} {mg : Str → Option Value} {base : Heap} {x qual : Str} {params : Arguments} {body : List Stmt} {scope : Scope} {dvs : List V} {kws : List (Str × V)} {f : Addr} {fd : FuncData}
theorem FunD.okG {N ps : List Str} {k : Nat} {sp : SpG} (F : FunD K x qual params body scope dvs kws f fd) (S : GScope N ps scope) (len : ∀ vs H Q E, sp vs H Q E → vs.length = ps.length)
    (hbody : ∀ (cdv : Value) (A : Around) (outer : List Env) (s : Shared) (H : Hp) (vs : List V) (Q : List V → Hp → Prop) (E : XK) (pn : List (Addr × Obj)), Room k (A.deeper (envOfC qual scope s.heap.objs.size f cdv)) → sp vs H Q E →
      ∃ t, GSs (gcxOf P w K mg base N qual scope f cdv A outer s H E pn) body t ∧ t { nx := fun ys _ H' => Q ys H', rt := fun ys v H' => v = .non ∧ Q ys H' } [] (L2.start N vs) H) : GFn P w K mg base (k + 1) f fd ps sp := by
  obtain ⟨oc, od, dV, kV, doc, pm, an, cdv, ct, osl, rfl, lk, hcd, _, _⟩ := F.ex
  exact gfn_of lk hcd S len fun A outer s H vs Q E pn hr hsp => hbody cdv A outer s H vs Q E pn hr hsp
end
/-! one def, two promises -/
def spOr (a b : Sp) : Sp := fun vs H Q E => a vs H Q E ∨ b vs H Q E
theorem fnOr {P : Program} {w : World} {K : PySem.W.Frag} {mg : Str → Option Value} {base : Heap} {CX : CXT} {k : Nat} {f : Addr} {fd : FuncData} {ps : List Str} {a b : Sp} (h1 : FnOk P w K mg base CX k f fd ps a) (h2 : FnOk P w K mg base CX k f fd ps b) : FnOk P w K mg base CX k f fd ps (spOr a b) where
  len := fun vs H Q E h => h.elim (h1.len vs H Q E) (h2.len vs H Q E)
  run := fun A outer s H args us vs Q E hr e0 hb r h => h.elim (h1.run A outer s H args us vs Q E hr e0 hb r) (h2.run A outer s H args us vs Q E hr e0 hb r)
/-! a def without arguments -/
def Sp0 (f : Hp → VK → XK → Prop) : Sp := fun vs H Q E => vs = [] ∧ f H Q E
theorem splen0 {f : Hp → VK → XK → Prop} {vs : List V} {H : Hp} {Q : VK} {E : XK} (h : Sp0 f vs H Q E) : vs.length = 0 := by obtain ⟨rfl, _⟩ := h; rfl
section
variable {X : Cx} {CX : CXT} {k : Nat} {f : Addr} {fd : FuncData} {ps ks : List Str} {sp : Sp} {E : L2.St → XK} {x : Str} {p pos : Pos} {kws : List Keyword} {tk : TA} {g : List Value → List Value → List Value} {gV : List V → List V → List V}
theorem pe_fnS0 (F : FnOk X.prog X.w X.K X.mg X.base CX k f fd ps sp) (hr : Room k X.A) (hg : Gl X x) (hm : X.mg x = some (.ref f)) (hk : PySem.W.keepIn X.K (.ref f) = true) (hb : KBn X.K fd ps 0 ks g gV) (hx : ∀ σ, PassesAt CX X σ (E σ))
    (hkw : PK X kws tk) (hall : (backToKw pos (keywordEach kws X.env)).all (·.1.isSome) = true) (hks : (backToKw pos (keywordEach kws X.env)).filterMap (·.1) = ks)
    (hdb : (x == ("__debug__" : Str)) = false := by decide)
    (hpl : ((backTo pos (starEach [] X.env)).any (·.1) || (backToKw pos (keywordEach kws X.env)).any (·.1.isNone)) = false := by rfl) :
    PE X (.Call (.Name x p) [] kws pos) (tFnS 0 ks.length sp gV E tNil tk) := ⟨fun pins s σ H Q I h =>
  wpAny_Call_Name_kw (ld_glob I hg hm (PySem.W.callWith_KW0 (first := []) (h₀ := X.base) I.ok.mod.kin hk hall
    (thn (hkw.run pos pins s σ H _ I h) fun ws s2 ⟨zs, H2, I2, rz, l1, l2, q2⟩ => ⟨I2.kIn, by rw [hks]; exact run_S (us := []) (vs := []) F hr hb (hx σ) I2 .nil rz l1 l2 q2⟩) hpl) hdb)⟩
end
theorem isiLT {X : Cx} {K : Frag} (hK : X.K = K) (u : Value) : CallR X (.builtin "isinstance") (SlX.rIsiSl K u) := hK ▸ SlX.call_isiSl u
end S
namespace S
open PySem PySem.Spec PyProof.Rows L2
/-! defs of seven arguments -/
def Sp7 (f : V → V → V → V → V → V → V → Hp → VK → XK → Prop) : Sp := fun vs H Q E => ∃ x y z u v w t, vs = [x, y, z, u, v, w, t] ∧ f x y z u v w t H Q E
theorem splen7 {vs : List V} {H : Hp} {Q : VK} {E : XK} {f} (h : Sp7 f vs H Q E) : vs.length = 7 := by obtain ⟨_, _, _, _, _, _, _, rfl, _⟩ := h; rfl
end S
namespace S
open PySem PySem.Spec PyProof.Rows L2 HT
/-! t[::-1] of a tuple -/
section
variable {prog : Program} {w : World} {A : Around} {E : Value → Shared → Prop} {s : Shared}
theorem rv_places (n : Nat) : Builtin.Slice.slicePlaces ((n : Int) - 1) (-1) (-1) = n := by
  unfold Builtin.Slice.slicePlaces
  rw [if_neg (by decide)]
  by_cases c : (n : Int) - 1 > -1
  · rw [if_pos c, show (- -1 : Int) = 1 by decide, Int.ediv_one]
    omega
  · rw [if_neg c]
    omega
theorem rv_part {v : Value} {o : Option Int} {Q : Option Int → Shared → Prop} (p : IsPart v o) (h : Q o s) : wpAny (model prog w) A (Builtin.Slice.slicePartIndex v) Q E s := slicePart_ p h
theorem rv_applied {sl : Addr} {vl vu vs : Value} {n : Nat} {Q : Int × Int × Nat → Shared → Prop} (hs : s.heap.IsSliceOf sl vl vu vs) (pl : IsPart vl none) (pu : IsPart vu none) (ps : IsPart vs (some (-1))) (h : Q ((n : Int) - 1, -1, n) s) :
    wpAny (model prog w) A (Builtin.Slice.sliceApplied (.ref sl) (pure (n : Int))) Q E s := by
  obtain ⟨ob, g1, g2, g3⟩ := id hs
  unfold Builtin.Slice.sliceApplied Builtin.Slice.sliceFields
  refine wpAny_bind (wpAny_bind (wpAny_field g1 g3 (x := vl) rfl (wpAny_bind (wpAny_field g1 g3 (x := vu) rfl (wpAny_bind (wpAny_field g1 g3 (x := vs) rfl (wpAny_pure ?_)))))))
  refine wpAny_bind (rv_part ps ?_)
  show wpAny _ _ (if ((-1 : Int) == 0) = true then _ else _) _ _ s
  rw [if_neg (show ¬ ((-1 : Int) == 0) = true by decide)]
  refine wpAny_bind (rv_part pl (wpAny_bind (rv_part pu (wpAny_bind (wpAny_pure ?_)))))
  show wpAny _ _ (pure ((n : Int) - 1, (-1 : Int), Builtin.Slice.slicePlaces ((n : Int) - 1) (-1) (-1))) _ _ s
  rw [rv_places]
  exact wpAny_pure h
theorem rv_pick (xs : Array Value) : ((List.range xs.size).filterMap fun (m : Nat) => xs[(((xs.size : Int) - 1) + (m : Int) * (-1)).toNat]?).toArray = xs.toList.reverse.toArray := by
  have e : ((List.range xs.size).filterMap fun (m : Nat) => xs[(((xs.size : Int) - 1) + (m : Int) * (-1)).toNat]?) = ((List.range xs.size).map fun m => xs.size - 1 - m).filterMap (xs[·]?) := by
    rw [List.filterMap_map]
    congr 1
    funext m
    have : (((xs.size : Int) - 1) + (m : Int) * (-1)).toNat = xs.size - 1 - m := by omega
    rw [this]
    rfl
  rw [e, PySem.W.krv_range, List.filterMap_reverse, PySem.W.krv_all]
theorem rv_get {t sl : Addr} {its : Array Value} {vl vu vs : Value} {Q : Value → Shared → Prop} (ht : IsTup s.heap t its) (hs : s.heap.IsSliceOf sl vl vu vs) (pl : IsPart vl none) (pu : IsPart vu none) (ps : IsPart vs (some (-1)))
    (h : Q (.ref s.heap.objs.size) { s with heap := s.heap.push { cls := .type "tuple", data := .seq its.toList.reverse.toArray } }) (hz : its.size ≤ sizeLine) : wpAny (model prog w) A (getItem (.ref t) (.ref sl)) Q E s := by
  have hk : sizeOk (.seq its.toList.reverse.toArray) := by
    show its.toList.reverse.toArray.size ≤ sizeLine
    rw [List.size_toArray, List.length_reverse, Array.length_toList]; exact hz
  obtain ⟨ob, g1, g2, g3⟩ := id hs
  have tS : s.TypeIs (.ref sl) "slice" := ⟨ob, g1, g2⟩
  unfold getItem
  first | (with_reducible refine wpAny_holding ?_; refine wpAny_bind (wpAny_pure ?_)) | (with_reducible refine wpAny_holding ?_) | refine wpAny_bind (wpAny_pure ?_) | skip
  refine wpAny_bind (wpAny_sequenceKey ht.typeIs (by decide) (wpAny_bind (wpAny_callSpecial?_slot (name := Str.ofString "__getitem__") ht.typeIs PyProof.Rows.slot_tuple_getitem (wpAny_call_entry PyProof.Rows.slot_tuple_getitem ht.typeIs entry_tuple_getitem ?_ (args_tuple_getitem _ _)))))
  show wpAny _ _ (Builtin.Tuple.tupleItemsOf (.ref t) >>= _) _ _ _
  refine wpAny_bind (tupleItemsOf_ ht (wpAny_bind (wpAny_typeOf tS ?_)))
  rw [if_pos (show _ from by decide)]
  refine wpAny_bind (rv_applied hs pl pu ps ?_)
  have hno : ¬ ((((its.size : Int) - 1) == 0 && (-1 : Int) == 1 && its.size == its.size) = true) := by simp
  show wpAny _ _ (if (((its.size : Int) - 1) == 0 && (-1 : Int) == 1 && its.size == its.size) = true then _ else _) _ _ s
  rw [if_neg hno, rv_pick]
  first | exact wpAny_bind (m := Builtin.Tuple.tupleExact _) (wpAny_newObj_type (wpAny_pure ⟨_, rfl, wpAny_pure h⟩) hk) | exact wpAny_bind (m := Builtin.Tuple.tupleExact _) (wpAny_newObj_type (wpAny_bind (wpAny_pure (wpAny_pure ⟨_, rfl, wpAny_pure h⟩))) hk) | exact wpAny_bind (wpAny_bind (m := Builtin.Tuple.tupleExact _) (wpAny_newObj_type (wpAny_pure (wpAny_pure ⟨_, rfl, wpAny_pure h⟩)) hk)) | exact wpAny_bind (wpAny_bind (m := Builtin.Tuple.tupleExact _) (wpAny_newObj_type (wpAny_pure ⟨_, rfl, wpAny_pure h⟩) hk))
end
section
variable {X : Cx} {K : Frag}
def tRevT (K : Frag) (te : TE) : TE := fun σ H Q => te σ H fun x H1 => ∃ a xs, x = .ref a ∧ SqT K H1 a xs ∧ ∀ p, H1 p = none → Q (.ref p) (upd H1 p (.tup xs.reverse))
theorem pe_revTK (hK : X.K = K) {e : Expr} {te : TE} {k : Nat} {p1 p2 p3 pos : Pos} (he : PE X e te) : PE X (.Subscript e (.Slice none none (some (.UnaryOp .USub (.Constant (.int 1) k p1) p2)) p3) pos) (tRevT K te) := by
  subst hK
  refine ⟨fun pins s σ H Q I h => ?_⟩
  refine Subscript_ (thn (he.run pins s σ H _ I h) fun v s1 ⟨x, H1, I1, r1, q1⟩ => ?_)
  obtain ⟨a, xs, rfl, hx, q⟩ := q1
  cases r1
  have hst : PO X (some (.UnaryOp .USub (.Constant (.int 1) k p1) p2)) (tPart (tUn (rU fun i => .int (-i)) (tC (.int 1)))) := po_some (pe_un un_neg pe_int)
  refine wpAny_Slice (thn (po_none.run pins s1 σ H1 (fun o Hx => o = none ∧ Hx = H1) I1 ⟨rfl, rfl⟩) fun vl s2 ⟨l, H2, I2, pl, el, e2⟩ => thn (po_none.run pins s2 σ H2 (fun o Hx => o = none ∧ Hx = H2) I2 ⟨rfl, rfl⟩) fun vu s3 ⟨u, H3, I3, pu, eu, e3⟩ => thn (hst.run pins s3 σ H3 (fun o Hx => o = some (-1) ∧ Hx = H3) I3 ⟨1, rfl, -1, rfl, rfl, rfl⟩) fun vs s4 ⟨o, H4, I4, ps, eo, e4⟩ => ?_)
  subst el e2 eu e3 eo e4
  have I5 : Inv X pins σ H4 { s4 with heap := s4.heap.push { cls := .type "slice", data := .fields #[vl, vu, vs] } } := I4.kept (t' := s4.toks) fun b ob y => Heap.get?_push_of_some _ y
  obtain ⟨its, r, ht, hz⟩ := I5.tuple hx
  have hl := r.length
  refine tail_any (ops := [.ref a, .ref s4.heap.objs.size]) ht.typeIs PyProof.Rows.slot_tuple_getitem.lookup ?_ (by with_unfolding_all rfl)
  refine rv_get ht (Heap.IsSliceOf.new _ vl vu vs) pl pu ps ?_ (by rw [List.size_toArray]; omega)
  refine ⟨.ref _, _, I5.laid (t' := s4.toks) (o := .tup xs.reverse) (fun b ob y => Heap.get?_push_of_some _ y) (Nat.le_refl _) ?_, rfl, q _ (I5.hok.fresh (Nat.le_refl _))⟩
  exact ⟨by rw [List.length_reverse]; exact hz, _, r.reverse, IsTup.new _ _⟩
end
end S
namespace S
open PySem PySem.Spec PyProof.Rows L2
/-! ### tuples whose items are compared by an own == and an own < -/
section
open PySem.SeqAt
open AutoSeq1 (wpAny_loadPart')
open MeetsSeq MeetsSeq2 MeetsSeq3 SeqRoads2
variable {prog : Program} {w : World} {A : Around} {R : Result → Shared → Prop}
theorem tupB_eq (l b : Addr) (items items2 : Array Value) (n n2 : Nat) (dd dd2 : Option Addr) (sl sl2 : Array (Option Value)) (hsz : items.size = items2.size) (I : Nat → Shared → Prop)
    (turn : ∀ i (h1 : i < items.size) (h2 : i < items2.size) s, I i s → wpAny (model prog w) A.in1 (eqBool items[i] items2[i]) (fun r s' => if r = true then I (i + 1) s' else R (.ok (.ret (.bool false))) s') (fun e s' => R (.error e) s') s)
    (fin : ∀ s, I items.size s → R (.ok (.ret (.bool true))) s) {s : Shared} (hl1 : s.heap.get? l = some { cls := .type "tuple", dict := dd, data := .seq items n, slots := sl }) (hb1 : s.heap.get? b = some { cls := .type "tuple", dict := dd2, data := .seq items2 n2, slots := sl2 }) (h : I 0 s) :
    wpAny (model prog w) A.in1 (Builtin.«tuple.__eq__» ⟨[.ref l, .ref b], []⟩) (GQ.FinOf prog w A R) (fun e s' => R (.error e) s') s := by
  have f2 := AutoSeq1.sub_tuple_tuple
  have hZ : (items.toList.zip items2.toList).length = items.size := by simp [hsz]
  have h0 := h
  obtain ⟨hp, g, d, tk, os⟩ := s
  wp_walk using wpAny_loadPart' hl1, wpAny_loadPart' hb1, wpAny_forIn_list _ (fun rest b s' => b.1 = none ∧ ∃ i, rest = (items.toList.zip items2.toList).drop i ∧ i ≤ items.size ∧ I i s') _
  case turn =>
    rintro ⟨y, x⟩ rest b s' ⟨hb', i, hz, hi, hI⟩
    have hlt : i < (items.toList.zip items2.toList).length := by
      rcases Nat.lt_or_ge i (items.toList.zip items2.toList).length with h' | h'
      · exact h'
      · rw [List.drop_of_length_le h'] at hz; cases hz
    have h1 : i < items.size := hZ ▸ hlt
    have h2 : i < items2.size := hsz ▸ h1
    rw [List.drop_eq_getElem_cons hlt] at hz
    injection hz with hyx hrest
    have hy : y = items[i] := by have := congrArg Prod.fst hyx; simpa using this
    have hx : x = items2[i] := by have := congrArg Prod.snd hyx; simpa using this
    subst hy hx
    refine wpAny_bind (wpAny_mono (turn i h1 h2 s' hI) (fun r s2 q2 => ?_) fun _ _ x => x)
    cases r with
    | true =>
      rw [if_pos rfl] at q2
      wp_walk
      exact ⟨rfl, i + 1, hrest, h1, q2⟩
    | false =>
      rw [if_neg Bool.false_ne_true] at q2
      obtain ⟨hp2, g2, d2, tk2, os2⟩ := s2
      wp_walk
      exact q2
  case fin =>
    rintro ⟨b1, b2⟩ s' ⟨hb', i, hz, hi, hI⟩
    simp only at hb'
    subst hb'
    have hge : items.size ≤ i := by
      rcases Nat.lt_or_ge i (items.toList.zip items2.toList).length with h' | h'
      · rw [List.drop_eq_getElem_cons h'] at hz; cases hz
      · exact hZ ▸ h'
    have hi' : i = items.size := by omega
    have hR : R (.ok (.ret (.bool true))) s' := fin s' (hi' ▸ hI)
    wp_walk
    simpa [Builtin.Tuple.tupleCompareSizes, hsz] using hR
  case h =>
    exact ⟨rfl, 0, rfl, Nat.zero_le _, h0⟩
theorem tupB_lt (l b : Addr) (items items2 : Array Value) (n n2 : Nat) (dd dd2 : Option Addr) (sl sl2 : Array (Option Value)) (hsz : items.size = items2.size) (I : Nat → Shared → Prop)
    (turn : ∀ i (h1 : i < items.size) (h2 : i < items2.size) s, I i s → wpAny (model prog w) A.in1 (eqBool items[i] items2[i]) (fun r s' => if r = true then I (i + 1) s' else wpAny (model prog w) A.in1 (richCompare .Lt items[i] items2[i]) (fun v s2 => R (.ok (.ret v)) s2) (fun e s2 => R (.error e) s2) s') (fun e s' => R (.error e) s') s)
    (fin : ∀ s, I items.size s → R (.ok (.ret (.bool false))) s) {s : Shared} (hl1 : s.heap.get? l = some { cls := .type "tuple", dict := dd, data := .seq items n, slots := sl }) (hb1 : s.heap.get? b = some { cls := .type "tuple", dict := dd2, data := .seq items2 n2, slots := sl2 }) (h : I 0 s) :
    wpAny (model prog w) A.in1 (Builtin.«tuple.__lt__» ⟨[.ref l, .ref b], []⟩) (GQ.FinOf prog w A R) (fun e s' => R (.error e) s') s := by
  have f2 := AutoSeq1.sub_tuple_tuple
  have hZ : (items.toList.zip items2.toList).length = items.size := by simp [hsz]
  have h0 := h
  obtain ⟨hp, g, d, tk, os⟩ := s
  wp_walk using wpAny_loadPart' hl1, wpAny_loadPart' hb1, wpAny_forIn_list _ (fun rest b s' => b.1 = none ∧ ∃ i, rest = (items.toList.zip items2.toList).drop i ∧ i ≤ items.size ∧ I i s') _
  case turn =>
    rintro ⟨y, x⟩ rest b s' ⟨hb', i, hz, hi, hI⟩
    have hlt : i < (items.toList.zip items2.toList).length := by
      rcases Nat.lt_or_ge i (items.toList.zip items2.toList).length with h' | h'
      · exact h'
      · rw [List.drop_of_length_le h'] at hz; cases hz
    have h1 : i < items.size := hZ ▸ hlt
    have h2 : i < items2.size := hsz ▸ h1
    rw [List.drop_eq_getElem_cons hlt] at hz
    injection hz with hyx hrest
    have hy : y = items[i] := by have := congrArg Prod.fst hyx; simpa using this
    have hx : x = items2[i] := by have := congrArg Prod.snd hyx; simpa using this
    subst hy hx
    refine wpAny_bind (wpAny_mono (turn i h1 h2 s' hI) (fun r s2 q2 => ?_) fun _ _ x => x)
    cases r with
    | true =>
      rw [if_pos rfl] at q2
      wp_walk
      exact ⟨rfl, i + 1, hrest, h1, q2⟩
    | false =>
      rw [if_neg Bool.false_ne_true] at q2
      obtain ⟨hp2, g2, d2, tk2, os2⟩ := s2
      generalize richCompare CmpOp.Lt items[i] items2[i] = rc at q2 ⊢
      wp_walk
      refine wpAny_mono q2 (fun v s3 q3 => ?_) fun _ _ x => x
      obtain ⟨hp3, g3, d3, tk3, os3⟩ := s3
      wp_walk
      exact q3
  case fin =>
    rintro ⟨b1, b2⟩ s' ⟨hb', i, hz, hi, hI⟩
    simp only at hb'
    subst hb'
    have hge : items.size ≤ i := by
      rcases Nat.lt_or_ge i (items.toList.zip items2.toList).length with h' | h'
      · rw [List.drop_eq_getElem_cons h'] at hz; cases hz
      · exact hZ ▸ h'
    have hi' : i = items.size := by omega
    have hR : R (.ok (.ret (.bool false))) s' := fin s' (hi' ▸ hI)
    wp_walk
    simpa [Builtin.Tuple.tupleCompareSizes, hsz] using hR
  case h =>
    exact ⟨rfl, 0, rfl, Nat.zero_le _, h0⟩
end
section
open PySem.SeqAt
open MeetsSeq MeetsSeq2 MeetsSeq3 SeqRoads2
variable {prog : Program} {w : World} {A : Around} {E : Value → Shared → Prop} {s : Shared} {l b : Addr} {items items2 : Array Value} {Q : Value → Shared → Prop}
theorem rc_tupB (hsz : items.size = items2.size) (hu : A.units < cLine) (I : Nat → Shared → Prop) (hl : s.heap.IsTuple l items) (hb : s.heap.IsTuple b items2)
    (turn : ∀ i (h1 : i < items.size) (h2 : i < items2.size) s, I i s → wpAny (model prog w) A.in1 (eqBool items[i] items2[i]) (fun r s' => if r = true then I (i + 1) s' else Q (.bool false) s') E s)
    (fin : ∀ s, I items.size s → Q (.bool true) s) (h : I 0 s) : wpAny (model prog w) A (richCompare .Eq (.ref l) (.ref b)) Q E s := by
  obtain ⟨⟨cls, dd, data, sl⟩, ho, hc, n, hd⟩ := id hl
  obtain ⟨⟨cls2, dd2, data2, sl2⟩, ho2, hc2, n2, hd2⟩ := id hb
  simp only at hc hd hc2 hd2
  subst hc hd hc2 hd2
  refine wpAny_richCompare_same_room (op := .Eq) ⟨_, ho, rfl⟩ ⟨_, ho2, rfl⟩ F.slot_tuple_eq (GQ.call_here F.slot_tuple_eq ⟨_, ho, rfl⟩ F.entry_tuple_eq (F.args_tuple_eq_2 _ _) ?_) hu
  exact tupB_eq (R := wants (fun v s' => v ≠ .notImplemented ∧ Q v s') E) l b items items2 n n2 dd dd2 sl sl2 hsz I (fun i h1 h2 s' q => wpAny_mono (turn i h1 h2 s' q) (fun r s2 q2 => by
    cases r with
    | true => exact q2
    | false => exact ⟨(fun x => nomatch x), q2⟩) fun _ _ x => x) (fun s' q => ⟨(fun x => nomatch x), fin s' q⟩) ho ho2 h
theorem rc_tupL (hsz : items.size = items2.size) (hu : A.units < cLine) (I : Nat → Shared → Prop) (hl : s.heap.IsTuple l items) (hb : s.heap.IsTuple b items2)
    (turn : ∀ i (h1 : i < items.size) (h2 : i < items2.size) s, I i s → wpAny (model prog w) A.in1 (eqBool items[i] items2[i]) (fun r s' => if r = true then I (i + 1) s' else wpAny (model prog w) A.in1 (richCompare .Lt items[i] items2[i]) (fun v s2 => v ≠ .notImplemented ∧ Q v s2) E s') E s)
    (fin : ∀ s, I items.size s → Q (.bool false) s) (h : I 0 s) : wpAny (model prog w) A (richCompare .Lt (.ref l) (.ref b)) Q E s := by
  obtain ⟨⟨cls, dd, data, sl⟩, ho, hc, n, hd⟩ := id hl
  obtain ⟨⟨cls2, dd2, data2, sl2⟩, ho2, hc2, n2, hd2⟩ := id hb
  simp only at hc hd hc2 hd2
  subst hc hd hc2 hd2
  refine wpAny_richCompare_same_room (op := .Lt) ⟨_, ho, rfl⟩ ⟨_, ho2, rfl⟩ F.slot_tuple_lt (GQ.call_here F.slot_tuple_lt ⟨_, ho, rfl⟩ F.entry_tuple_lt (F.args_tuple_lt_2 _ _) ?_) hu
  exact tupB_lt (R := wants (fun v s' => v ≠ .notImplemented ∧ Q v s') E) l b items items2 n n2 dd dd2 sl sl2 hsz I turn (fun s' q => ⟨(fun x => nomatch x), fin s' q⟩) ho ho2 h
end
/-- x == y inside a builtin: flat values, one object, or instances of C by their own == -/
def ElE (C : Addr) (sp : Sp) (x y : V) (H : Hp) (e : Bool) : Prop :=
  (flatV x = true ∧ flatV y = true ∧ eqV x y = e) ∨ (∃ a, x = .ref a ∧ y = .ref a ∧ e = true) ∨
  (∃ a b dx vs dy ws, x = .ref a ∧ y = .ref b ∧ a ≠ b ∧ SlX.Slt H a C dx vs ∧ SlX.Slt H b C dy ws ∧ ∀ Z : VK, Z (.bl e) H → sp [x, y] H Z E0)
/-- x < y inside a builtin: like data, or instances of C by their own < -/
def ElL (K : Frag) (C : Addr) (sp : Sp) (x y : V) (H : Hp) (e : Bool) : Prop :=
  (∃ d d', Dp K H x d ∧ Dp K H y d' ∧ PySem.W.alike d d' = true ∧ d ≠ .none ∧ d.depth ≤ 20 ∧ PySem.W.dataLt d d' = e) ∨
  (∃ a b dx vs dy ws, x = .ref a ∧ y = .ref b ∧ SlX.Slt H a C dx vs ∧ SlX.Slt H b C dy ws ∧ ∀ Z : VK, Z (.bl e) H → sp [x, y] H Z E0)
section
variable {X : Cx} {n : Nat} {C g g2 : Addr} {sp sp2 : Sp} {A : Around} {pins : List (Addr × Obj)} {s : Shared} {σ : L2.St} {H : Hp} {x y : V} {u v : Value} {e : Bool}
theorem Sub.env0 (sb : Sub X n A) (I : Inv X pins σ H s) : Env0 X.prog X.w X.K X.mg X.base A X.stack s H := by
  have e := I.env0
  exact ⟨by rw [sb.fr]; exact e.frames, e.mod, e.bs, e.bsz, e.funs, e.frf, e.hok, e.bare⟩
theorem own_rc {op : CmpOp} (hs : PySem.W.findIn X.K (.ref C) (cmpInfo op).2.1 = some (some (.ref g))) (hf : PySem.W.isFn X.K (.ref g) = true) (F : FnR X.prog X.w X.K X.mg X.base (L2.CX X.prog X.w) n g sp) (sb : Sub X n A) (I : Inv X pins σ H s)
    {a b : Addr} {dx dy : Addr} {vs ws : List (Option V)} (ha : SlX.Slt H a C dx vs) (hb : SlX.Slt H b C dy ws) (hsp : ∀ Z : VK, Z (.bl e) H → sp [.ref a, .ref b] H Z E0) {Q : Value → Shared → Prop} (q : ∀ s', Inv X pins σ H s' → Q (.bool e) s') :
    wpAny (model X.prog X.w) A (richCompare op (.ref a) (.ref b)) Q X.xe s := by
  obtain ⟨sl, od, _, J, _⟩ := SlX.slt_inst I ha
  obtain ⟨sl', od', _, J', _⟩ := SlX.slt_inst I hb
  obtain ⟨m, hF⟩ := I.fr
  refine PySem.W.cmp_K (op := op) (tb := .ref C) sb.room.units0 hF I.ok.mod.kin J J'.type (by simp [PySem.W.notFirst]) hs hf ?_
  refine wpAny_mono (wpAny_call (SlX.run_at (us := [.ref a, .ref b]) (ws := [.ref a, .ref b]) (Q := fun z H2 => z = .bl e ∧ H2 = H) F sb.room (Sub.env0 sb I) passL I (.cons rfl (.cons rfl .nil)) (hsp _ ⟨rfl, rfl⟩))) (fun z s2 hz2 => ?_) fun _ _ x => x
  obtain ⟨z2, H2, I2, rz, rfl, rfl⟩ := hz2
  cases (show z = Value.bool e from rz)
  exact q s2 I2
theorem el_eq (hs : PySem.W.findIn X.K (.ref C) "__eq__" = some (some (.ref g))) (hf : PySem.W.isFn X.K (.ref g) = true) (F : FnR X.prog X.w X.K X.mg X.base (L2.CX X.prog X.w) n g sp) (sb : Sub X n A) (I : Inv X pins σ H s)
    (rx : RelV x u) (ry : RelV y v) (d : ElE C sp x y H e) {Q : Bool → Shared → Prop} (q : ∀ s', Inv X pins σ H s' → Q e s') : wpAny (model X.prog X.w) A (eqBool u v) Q X.xe s := by
  rcases d with ⟨fx, fy, ee⟩ | ⟨a, rfl, rfl, rfl⟩ | ⟨a, b, dx, vs, dy, ws, rfl, rfl, hab, ha, hb, hsp⟩
  · have z := eqAt_V (A := A) (s := s) rx ry fx fy
    rw [ee] at z
    exact z X.prog X.w X.xe _ (q s I)
  · cases rx
    cases ry
    exact SeqAt.EqAt.same (A := A) (s := s) (.ref a) X.prog X.w X.xe _ (q s I)
  · cases rx
    cases ry
    exact GQ.eqBool_refG hab (own_rc (op := .Eq) hs hf F sb I ha hb hsp fun s' I' => ⟨e, rfl, q s' I'⟩)
theorem el_lt (hs : PySem.W.findIn X.K (.ref C) "__lt__" = some (some (.ref g))) (hf : PySem.W.isFn X.K (.ref g) = true) (F : FnR X.prog X.w X.K X.mg X.base (L2.CX X.prog X.w) n g sp) (sb : Sub X n A) (hu : A.units + 60 < cLine) (I : Inv X pins σ H s)
    (rx : RelV x u) (ry : RelV y v) (d : ElL X.K C sp x y H e) {Q : Value → Shared → Prop} (q : ∀ s', Inv X pins σ H s' → Q (.bool e) s') : wpAny (model X.prog X.w) A (richCompare .Lt u v) Q X.xe s := by
  rcases d with ⟨d, d', hd, hd', al, nn, dp, rfl⟩ | ⟨a, b, dx, vs, dy, ws, rfl, rfl, ha, hb, hsp⟩
  · obtain ⟨as, r1⟩ := Dp.reads I d x u hd rx
    obtain ⟨bs, r2⟩ := Dp.reads I d' y v hd' ry
    exact PySem.W.rcLt_alike d d' A s u v as bs r1 r2 al nn (by omega) X.prog X.w _ _ (q s I)
  · cases rx
    cases ry
    exact own_rc (op := .Lt) hs hf F sb I ha hb hsp q
/-- what is known of two tuples' items -/
def Tys (C : Addr) (sp : Sp) (xs ys : List V) (es : Nat → Bool) (H : Hp) : Prop := xs.length = ys.length ∧ ∀ (i : Nat) x y, xs[i]? = some x → ys[i]? = some y → (∀ j < i, es j = true) → ElE C sp x y H (es i)
theorem its_get {its : List Value} {xs : List V} (r : Vals xs its) {i : Nat} (h1 : i < its.toArray.size) : ∃ x, xs[i]? = some x ∧ RelV x its.toArray[i] := by
  have g1 : its[i]? = some its.toArray[i] := by
    have h1' : i < its.length := by simpa using h1
    rw [List.getElem?_eq_getElem h1'] <;> simp
  have k1 : i < xs.length := by rw [r.length]; simpa using h1
  obtain ⟨u, hu, ru⟩ := r.get (List.getElem?_eq_getElem k1)
  rw [g1] at hu
  rw [Option.some.inj hu]
  exact ⟨_, List.getElem?_eq_getElem k1, ru⟩
theorem tys_rc (hs : PySem.W.findIn X.K (.ref C) "__eq__" = some (some (.ref g))) (hf : PySem.W.isFn X.K (.ref g) = true) (F : FnR X.prog X.w X.K X.mg X.base (L2.CX X.prog X.w) n g sp) (sb : Sub X (n + 1) A) (I : Inv X pins σ H s)
    {a b : Addr} {xs ys : List V} {es : Nat → Bool} (ha : SqT X.K H a xs) (hb : SqT X.K H b ys) (d : Tys C sp xs ys es H) {Q : Value → Shared → Prop} (q : ∀ s', Inv X pins σ H s' → Q (.bool ((List.range xs.length).all es)) s') :
    wpAny (model X.prog X.w) A (richCompare .Eq (.ref a) (.ref b)) Q X.xe s := by
  obtain ⟨its, r, e, z⟩ := I.tuple ha
  obtain ⟨its2, r2, e2, z2⟩ := I.tuple hb
  have sz : its.toArray.size = xs.length := by rw [List.size_toArray, ← r.length]
  have hsz : its.toArray.size = its2.toArray.size := by rw [sz, List.size_toArray, ← r2.length]; exact d.1
  refine rc_tupB hsz sb.room.units0 (fun i s' => Inv X pins σ H s' ∧ ∀ j < i, es j = true) e e2 (fun i h1 h2 s' hI => ?_) (fun s' hI => ?_) ⟨I, fun _ h => by omega⟩
  · obtain ⟨x, ex, rx⟩ := its_get r h1
    obtain ⟨y, ey, ry⟩ := its_get r2 h2
    refine el_eq hs hf F sb.in1 hI.1 rx ry (d.2 i x y ex ey hI.2) fun s2 I2 => ?_
    cases ee : es i with
    | true =>
      rw [if_pos rfl]
      exact ⟨I2, fun j hj => by
        by_cases c : j = i
        · rw [c]; exact ee
        · exact hI.2 j (by omega)⟩
    | false =>
      rw [if_neg Bool.false_ne_true]
      have hq := q s2 I2
      rwa [show (List.range xs.length).all es = false from Bool.eq_false_iff.mpr fun h => by
        have := List.all_eq_true.mp h i (List.mem_range.mpr (by rw [← sz]; exact h1))
        rw [ee] at this
        cases this] at hq
  · have hq := q s' hI.1
    rwa [show (List.range xs.length).all es = true from List.all_eq_true.mpr fun j hj => hI.2 j (by rw [sz]; exact List.mem_range.mp hj)] at hq
/-- a < b, the first items that differ decide -/
def rLtT (K : Frag) (C : Addr) (spE spL : Sp) : R2 := fun x y H Q => ∃ (a b : Addr) (xs ys : List V) (es ls : Nat → Bool), x = .ref a ∧ y = .ref b ∧ SqT K H a xs ∧ SqT K H b ys ∧ Tys C spE xs ys es H ∧
  (∀ (i : Nat) x y, xs[i]? = some x → ys[i]? = some y → (∀ j < i, es j = true) → es i = false → ElL K C spL x y H (ls i)) ∧ Q (.bl (PySem.SeqAt.firstLt es ls false (List.range xs.length))) H
theorem firstLt_at {es ls : Nat → Bool} {fin : Bool} : ∀ (l : List Nat) {i : Nat} {t : List Nat}, (∀ j ∈ l, es j = true) → es i = false → PySem.SeqAt.firstLt es ls fin (l ++ i :: t) = ls i
  | [], _, _, _, h => PySem.SeqAt.firstLt_no h
  | j :: l, _, _, hl, h => by
    rw [List.cons_append, PySem.SeqAt.firstLt_yes (hl j List.mem_cons_self)]
    exact firstLt_at l (fun k hk => hl k (List.mem_cons_of_mem _ hk)) h
theorem firstLt_all {es ls : Nat → Bool} {fin : Bool} : ∀ (l : List Nat), (∀ j ∈ l, es j = true) → PySem.SeqAt.firstLt es ls fin l = fin
  | [], _ => rfl
  | j :: l, hl => by
    rw [PySem.SeqAt.firstLt_yes (hl j List.mem_cons_self)]
    exact firstLt_all l fun k hk => hl k (List.mem_cons_of_mem _ hk)
theorem range_at {n i : Nat} (h : i < n) : ∃ t, List.range n = List.range i ++ i :: t := by
  refine ⟨(List.range n).drop (i + 1), ?_⟩
  have h1 : (List.range n).take i = List.range i := by rw [List.take_range]; congr 1; omega
  have h2 : (List.range n).drop i = i :: (List.range n).drop (i + 1) := by
    rw [List.drop_eq_getElem_cons (by simpa using h)]
    simp
  rw [← h1, ← h2, List.take_append_drop]
theorem ltTK {P : Program} {w : World} {K : Frag} {mg : Str → Option Value} {base : Heap} (hP : X.prog = P) (hw : X.w = w) (hK : X.K = K) (hm : X.mg = mg) (hb : X.base = base)
    (hs : PySem.W.findIn K (.ref C) "__eq__" = some (some (.ref g))) (hf : PySem.W.isFn K (.ref g) = true) (F : FnR P w K mg base (L2.CX P w) n g sp)
    (hs2 : PySem.W.findIn K (.ref C) "__lt__" = some (some (.ref g2))) (hf2 : PySem.W.isFn K (.ref g2) = true) (F2 : FnR P w K mg base (L2.CX P w) n g2 sp2) (hr : Room (n + 1) X.A) (hu : X.A.units + 64 < cLine) : OpR X (compareOp .Lt) (rLtT K C sp sp2) := by
  subst hP hw hK hm hb
  intro pins s σ H x y v u Q I rx ry h
  obtain ⟨a, b, xs, ys, es, ls, rfl, rfl, ha, hb, d, dl, q⟩ := h
  cases (show v = Value.ref a from rx)
  cases (show u = Value.ref b from ry)
  obtain ⟨its, r, e, z⟩ := I.tuple ha
  obtain ⟨its2, r2, e2, z2⟩ := I.tuple hb
  have sz : its.toArray.size = xs.length := by rw [List.size_toArray, ← r.length]
  have hsz : its.toArray.size = its2.toArray.size := by rw [sz, List.size_toArray, ← r2.length]; exact d.1
  have sb : Sub X (n + 1) X.A := ⟨hr, rfl⟩
  show wpAny _ _ (richCompare .Lt (.ref a) (.ref b)) _ _ _
  refine rc_tupL hsz hr.units0 (fun i s' => Inv X pins σ H s' ∧ ∀ j < i, es j = true) e e2 (fun i h1 h2 s' hI => ?_) (fun s' hI => ?_) ⟨I, fun _ h => by omega⟩
  · obtain ⟨x, ex, rx⟩ := its_get r h1
    obtain ⟨y, ey, ry⟩ := its_get r2 h2
    refine el_eq hs hf F sb.in1 hI.1 rx ry (d.2 i x y ex ey hI.2) fun s2 I2 => ?_
    cases ee : es i with
    | true =>
      rw [if_pos rfl]
      exact ⟨I2, fun j hj => by
        by_cases c : j = i
        · rw [c]; exact ee
        · exact hI.2 j (by omega)⟩
    | false =>
      rw [if_neg Bool.false_ne_true]
      refine el_lt hs2 hf2 F2 sb.in1 (by have := (show X.A.in1.units = X.A.units + 1 from rfl); omega) I2 rx ry (dl i x y ex ey hI.2 ee) fun s3 I3 => ⟨(fun x => nomatch x), .bl (ls i), H, I3, rfl, ?_⟩
      obtain ⟨t, et⟩ := range_at (show i < xs.length by rw [← sz]; exact h1)
      rwa [et, firstLt_at _ (fun j hj => hI.2 j (List.mem_range.mp hj)) ee] at q
  · refine ⟨.bl false, H, hI.1, rfl, ?_⟩
    rwa [firstLt_all _ fun j hj => hI.2 j (by rw [sz]; exact List.mem_range.mp hj)] at q
/-- x in a list of tuples -/
def rInT (K : Frag) (C : Addr) (sp : Sp) (neg : Bool) : R2 := fun x y H Q => ∃ (a l : Addr) (xs : List V) (bs : List (Addr × List V)) (e : Addr → Bool), x = .ref a ∧ y = .ref l ∧ H l = some (.lst (bs.map fun b => .ref b.1)) ∧ SqT K H a xs ∧
  (∀ b ∈ bs, b.1 ≠ a → SqT K H b.1 b.2 ∧ ∃ es : Nat → Bool, e b.1 = (List.range b.2.length).all es ∧ Tys C sp b.2 xs es H) ∧
  Q (.bl (if neg then !(bs.any fun b => decide (b.1 = a) || e b.1) else bs.any fun b => decide (b.1 = a) || e b.1)) H
theorem contT (hs : PySem.W.findIn X.K (.ref C) "__eq__" = some (some (.ref g))) (hf : PySem.W.isFn X.K (.ref g) = true) (F : FnR X.prog X.w X.K X.mg X.base (L2.CX X.prog X.w) n g sp) (hr : Room (n + 2) X.A)
    {a l : Addr} {xs : List V} {bs : List (Addr × List V)} {e : Addr → Bool} (I : Inv X pins σ H s) (hl : H l = some (.lst (bs.map fun b => .ref b.1))) (ha : SqT X.K H a xs)
    (hb : ∀ b ∈ bs, b.1 ≠ a → SqT X.K H b.1 b.2 ∧ ∃ es : Nat → Bool, e b.1 = (List.range b.2.length).all es ∧ Tys C sp b.2 xs es H) {Q : Bool → Shared → Prop}
    (q : ∀ s', Inv X pins σ H s' → Q (bs.any fun b => decide (b.1 = a) || e b.1) s') : wpAny (model X.prog X.w) X.A (contains (.ref l) (.ref a)) Q X.xe s := by
  refine contains_G (N := bs.length) (fun i s' => Inv X pins σ H s' ∧ (bs.take i).any (fun b => decide (b.1 = a) || e b.1) = false) ?_ ?_ ⟨I, rfl⟩
  · rintro i s1 ⟨I1, no⟩
    obtain ⟨hz, its, m, rv, hg⟩ := (show ObjOk X.prog X.w H s1.heap l (.lst (bs.map fun b => V.ref b.1)) from I1.hok l _ hl)
    have hlen : its.length = bs.length := by rw [← rv.length, List.length_map]
    refine ⟨its.toArray, m, hg, by simp [hlen], fun h1 => ?_⟩
    have hi : i < bs.length := by simpa [hlen] using h1
    obtain ⟨x, ex, rx⟩ := its_get rv h1
    have eb := List.getElem?_eq_getElem hi
    generalize bs[i] = b at eb
    rw [List.getElem?_map, eb] at ex
    cases ex
    have mem := List.mem_of_getElem? eb
    rw [show its.toArray[i] = Value.ref b.1 from rx]
    have step : ∀ r : Bool, (decide (b.1 = a) || e b.1) = r → ∀ s2, Inv X pins σ H s2 → (if r = true then wants (fun v s' => ∃ b, v = .bool b ∧ Q b s') X.xe (.ok (.ret (.bool true))) s2 else Inv X pins σ H s2 ∧ (bs.take (i + 1)).any (fun b => decide (b.1 = a) || e b.1) = false) := by
      intro r er s2 I2
      have tk : bs.take (i + 1) = bs.take i ++ [b] := by rw [List.take_add_one, eb]; rfl
      cases r with
      | true =>
        rw [if_pos rfl]
        refine ⟨true, rfl, ?_⟩
        have hq := q s2 I2
        rw [show (bs.any fun b => decide (b.1 = a) || e b.1) = true from List.any_eq_true.mpr ⟨_, mem, er⟩] at hq
        exact hq
      | false =>
        rw [if_neg Bool.false_ne_true]
        refine ⟨I2, ?_⟩
        rw [tk, List.any_append, no, List.any_cons, er]
        rfl
    by_cases hab : b.1 = a
    · rw [hab]
      exact SeqAt.EqAt.same (A := X.A.in1) (s := s1) (.ref a) X.prog X.w _ _ (step true (by simp [hab]) s1 I1)
    · obtain ⟨hbt, es, ee, d⟩ := hb b mem hab
      refine GQ.eqBool_refG hab (tys_rc hs hf F (A := X.A.in1) (Sub.in1 ⟨hr, rfl⟩) I1 hbt ha d fun s2 I2 => ⟨_, rfl, ?_⟩)
      rw [← ee]
      exact step (e b.1) (by simp [hab]) s2 I2
  · rintro s1 ⟨I1, no⟩
    have hq := q s1 I1
    rw [List.take_length] at no
    rw [no] at hq
    exact hq
theorem inTK {P : Program} {w : World} {K : Frag} {mg : Str → Option Value} {base : Heap} (hP : X.prog = P) (hw : X.w = w) (hK : X.K = K) (hm : X.mg = mg) (hb : X.base = base)
    (hs : PySem.W.findIn K (.ref C) "__eq__" = some (some (.ref g))) (hf : PySem.W.isFn K (.ref g) = true) (F : FnR P w K mg base (L2.CX P w) n g sp) (hr : Room (n + 2) X.A) : OpR X (compareOp .In) (rInT K C sp false) := by
  subst hP hw hK hm hb
  intro pins s σ H x y v u Q I rx ry h
  obtain ⟨a, l, xs, bs, e, rfl, rfl, hl, ha, hb, q⟩ := h
  cases (show v = Value.ref a from rx)
  cases (show u = Value.ref l from ry)
  show wpAny _ _ (do return Value.bool (← contains (.ref l) (.ref a))) _ _ _
  exact wpAny_bind (contT hs hf F hr I hl ha hb fun s' I' => wpAny_pure ⟨.bl _, H, I', rfl, q⟩)
theorem notInTK {P : Program} {w : World} {K : Frag} {mg : Str → Option Value} {base : Heap} (hP : X.prog = P) (hw : X.w = w) (hK : X.K = K) (hm : X.mg = mg) (hb : X.base = base)
    (hs : PySem.W.findIn K (.ref C) "__eq__" = some (some (.ref g))) (hf : PySem.W.isFn K (.ref g) = true) (F : FnR P w K mg base (L2.CX P w) n g sp) (hr : Room (n + 2) X.A) : OpR X (compareOp .NotIn) (rInT K C sp true) := by
  subst hP hw hK hm hb
  intro pins s σ H x y v u Q I rx ry h
  obtain ⟨a, l, xs, bs, e, rfl, rfl, hl, ha, hb, q⟩ := h
  cases (show v = Value.ref a from rx)
  cases (show u = Value.ref l from ry)
  show wpAny _ _ (do return Value.bool (!(← contains (.ref l) (.ref a)))) _ _ _
  exact wpAny_bind (contT hs hf F hr I hl ha hb fun s' I' => wpAny_pure ⟨.bl _, H, I', rfl, q⟩)
end
end S
namespace S
open PySem PySem.Spec PyProof.Rows L2
/-! ### < <= > >= with an int at the left, by the right side's own reflected def -/
section
open PySem.W PySem.Calls
variable {prog : Program} {w : World} {A : Around} {E : Value → Shared → Prop} {s : Shared} {K : Frag} {x C f : Addr} {ox : Obj} {od : Option Obj}
/-- what is known of int's own slot for a comparison -/
structure IntCmp (op : CmpOp) (idl : String) (B : Builtin) : Prop where
  sl : Slot "int" (cmpInfo op).2.1 idl
  en : entryFor table idl = some B
  ar : ∀ a b : Value, argsOk idl ⟨[a, b], []⟩
  de : ∀ (a : Int) (t : Tok) (x : Addr), GivesAt (NoInt x) (B ⟨[.int a t, .ref x], []⟩) (.val (Value.notImplemented))
  hop : ∀ a b, compareOp op a b = richCompare op a b
theorem ic_lt : IntCmp .Lt "int.__lt__" Builtin.«int.__lt__» := ⟨PySem.F.slot_int_lt, PySem.F.entry_int_lt, PySem.F.args_int_lt_2, fun _ _ _ _ _ _ _ _ h q => decl_bin h q, fun _ _ => rfl⟩
theorem ic_gt : IntCmp .Gt "int.__gt__" Builtin.«int.__gt__» := ⟨PySem.F.slot_int_gt, PySem.F.entry_int_gt, PySem.F.args_int_gt_2, fun _ _ _ _ _ _ _ _ h q => decl_bin h q, fun _ _ => rfl⟩
theorem cmp_refl {op : CmpOp} {idl : String} {B : Builtin} {i : Int} {t : Tok} {Q : Value → Shared → Prop} (c : IntCmp op idl B) (hu : A.units < cLine) (X : K.In s.heap) (I : InstAt s.heap x ox C od) (hno : NoInt x s)
    (hsR : findIn K (.ref C) (cmpInfo op).2.2 = some (some (.ref f))) (hf : isFn K (.ref f) = true) (hsub : subIn K (.ref C) (.type "int") = some false)
    (h : wpAny (model prog w) A (call (.ref f) [.ref x, .int i t]) (PySem.W.CmpBack Q) E s) : wpAny (model prog w) A (richCompare op (.int i t) (.ref x)) Q E s := by
  have ha := typeIs_int s i t
  unfold richCompare
  simp only [ha.oneThing_none]
  refine wpAny_holding (wpAny_bind (wpAny_cRoomFor hu ?_))
  refine wpAny_bind (wpAny_typeOf ha (wpAny_bind (I.type.here ?_)))
  have hne : (Value.type "int" != Value.ref C) = true := rfl
  simp only [hne, if_true]
  refine wpAny_bind ((looks_subIn X hsub).here ?_)
  simp only [Bool.false_eq_true, if_false]
  refine wpAny_bind (wpAny_tryCompare_declines ha c.sl (call_givesAt (Q := fun v s1 => v = .notImplemented ∧ _) c.sl ha c.en (c.ar _ _) (c.de i t x) hno ⟨rfl, ?_⟩))
  simp only [Bool.not_false, if_true]
  unfold tryCompare
  refine wpAny_bind (wpAny_bind (ifBound_K X I hsR hf (wpAny_mono h (fun v s' hv => ?_) fun _ _ e => e)))
  cases v <;> first | exact hv.elim | exact wpAny_pure (wpAny_pure hv)
end
section
variable {X : Cx} {n k : Nat} {C f g : Addr} {sp spR : Sp} {op : CmpOp} {idl : String} {B : Builtin}
/-- a comparison by an own def, or by the reflected one where an int stands at the left -/
def rCmpB (K : Frag) (C : Addr) (sp spR : Sp) : R2 := fun x y H Q => rCmpL K C sp x y H Q ∨ ∃ b dy ws i, x = .int i ∧ y = .ref b ∧ SlX.Slt H b C dy ws ∧ spR [y, x] H Q E0
theorem op_cmpB (c : IntCmp op idl B) (hs : PySem.W.findIn X.K (.ref C) (cmpInfo op).2.1 = some (some (.ref f))) (hf : PySem.W.isFn X.K (.ref f) = true) (F : FnR X.prog X.w X.K X.mg X.base (L2.CX X.prog X.w) n f sp)
    (hsR : PySem.W.findIn X.K (.ref C) (cmpInfo op).2.2 = some (some (.ref g))) (hg : PySem.W.isFn X.K (.ref g) = true) (G : FnR X.prog X.w X.K X.mg X.base (L2.CX X.prog X.w) k g spR)
    (hsub : PySem.W.subIn X.K (.ref C) (.type "int") = some false) (hr : Room n X.A) (hr2 : Room k X.A) : OpR X (compareOp op) (rCmpB X.K C sp spR) := by
  intro pins s σ H x y v u Q I rx ry h
  rcases h with h | ⟨b, dy, ws, i, rfl, rfl, h1, q⟩
  · exact op_cmpL c.hop hs hf F hr pins s σ H x y v u Q I rx ry h
  · obtain ⟨t, rfl⟩ := (show ∃ t, v = Value.int i t from rx)
    cases (show u = Value.ref b from ry)
    obtain ⟨sl, od, _, J, _⟩ := SlX.slt_inst I h1
    rw [c.hop]
    refine cmp_refl c hr.units0 I.kIn J ⟨_, J.at_, fun _ _ => by intro z; cases z⟩ hsR hg hsub ?_
    refine wpAny_mono (wpAny_call (run_fnR (us := [.ref b, .int i t]) (vs := [.ref b, .int i]) G hr2 passL I (.cons rfl (.cons ⟨t, rfl⟩ .nil)) q)) (fun w s' z => ?_) fun _ _ x => x
    obtain ⟨z2, H2, I2, rz, qz⟩ := z
    exact SlX.cmpback rz ⟨z2, H2, I2, rz, qz⟩
end
end S
namespace S
open PySem PySem.Spec PyProof.Rows L2
/-! defs of eight arguments -/
def Sp8 (f : V → V → V → V → V → V → V → V → Hp → VK → XK → Prop) : Sp := fun vs H Q E => ∃ x y z u v w t r, vs = [x, y, z, u, v, w, t, r] ∧ f x y z u v w t r H Q E
theorem splen8 {vs : List V} {H : Hp} {Q : VK} {E : XK} {f} (h : Sp8 f vs H Q E) : vs.length = 8 := by obtain ⟨_, _, _, _, _, _, _, _, rfl, _⟩ := h; rfl
end S
namespace W
open PySem PySem.Spec PyProof.Rows L2
def top (i : Nat) : Stmt := PySem.Challenge.pw_seenshares_k50_inside.main.body.getD i (.Pass ⟨0, 0, 0, 0⟩)
abbrev s_is_integer : Stmt := top 2
theorem sc_is_integer : FnScope ["value"] ["value"] (defScope s_is_integer) := by
  refine ⟨rfl, rfl, rfl, ?_, rfl, ?_, ?_⟩ <;> decide +kernel
abbrev d_is_integer : He.DefD := ⟨("is_integer", none), "is_integer", "is_integer", defArgs s_is_integer, defBody s_is_integer, defScope s_is_integer, [], []⟩
abbrev s_BadShare___init__ : Stmt := inClass (top 5) 0
theorem sc_BadShare___init__ : FnScope ["self", "part"] ["self", "part"] (defScope s_BadShare___init__) := by
  refine ⟨rfl, rfl, rfl, ?_, rfl, ?_, ?_⟩ <;> decide +kernel
abbrev d_BadShare___init__ : He.DefD := ⟨("BadShare", some "__init__"), "__init__", "BadShare.__init__", defArgs s_BadShare___init__, defBody s_BadShare___init__, defScope s_BadShare___init__, [], []⟩
abbrev s_common_divisor : Stmt := top 8
theorem sc_common_divisor : FnScope ["first", "second"] ["first", "second"] (defScope s_common_divisor) := by
  refine ⟨rfl, rfl, rfl, ?_, rfl, ?_, ?_⟩ <;> decide +kernel
abbrev d_common_divisor : He.DefD := ⟨("common_divisor", none), "common_divisor", "common_divisor", defArgs s_common_divisor, defBody s_common_divisor, defScope s_common_divisor, [], []⟩
abbrev s_as_share : Stmt := top 10
theorem sc_as_share : FnScope ["value"] ["value"] (defScope s_as_share) := by
  refine ⟨rfl, rfl, rfl, ?_, rfl, ?_, ?_⟩ <;> decide +kernel
abbrev d_as_share : He.DefD := ⟨("as_share", none), "as_share", "as_share", defArgs s_as_share, defBody s_as_share, defScope s_as_share, [], []⟩
abbrev s_Share___init__ : Stmt := inClass (top 13) 1
theorem sc_Share___init__ : FnScope ["self", "top", "bottom", "shared"] ["self", "top", "bottom"] (defScope s_Share___init__) := by
  refine ⟨rfl, rfl, rfl, ?_, rfl, ?_, ?_⟩ <;> decide +kernel
abbrev d_Share___init__ : He.DefD := ⟨("Share", some "__init__"), "__init__", "Share.__init__", defArgs s_Share___init__, defBody s_Share___init__, defScope s_Share___init__, [.int 1], []⟩
abbrev s_turn : Stmt := top 15
theorem sc_turn : FnScope ["left", "right", "pair"] ["left", "right", "pair"] (defScope s_turn) := by
  refine ⟨rfl, rfl, rfl, ?_, rfl, ?_, ?_⟩ <;> decide +kernel
abbrev d_turn : He.DefD := ⟨("turn", none), "turn", "turn", defArgs s_turn, defBody s_turn, defScope s_turn, [], []⟩
abbrev s_between : Stmt := top 16
theorem sc_between : FnScope ["value", "one", "other"] ["value", "one", "other"] (defScope s_between) := by
  refine ⟨rfl, rfl, rfl, ?_, rfl, ?_, ?_⟩ <;> decide +kernel
abbrev d_between : He.DefD := ⟨("between", none), "between", "between", defArgs s_between, defBody s_between, defScope s_between, [], []⟩
abbrev s_inside : Stmt := top 17
theorem sc_inside : FnScope ["polygon", "pair", "point", "at", "first", "last"] ["polygon", "pair"] (defScope s_inside) := by
  refine ⟨rfl, rfl, rfl, ?_, rfl, ?_, ?_⟩ <;> decide +kernel
abbrev d_inside : He.DefD := ⟨("inside", none), "inside", "inside", defArgs s_inside, defBody s_inside, defScope s_inside, [], []⟩
abbrev s__law_pool : Stmt := top 19
theorem sc__law_pool : FnScope ["_law_script", "_law_seed", "_law_great", "_law_cell", "_law_number_here"] ["_law_script"] (defScope s__law_pool) := by
  refine ⟨rfl, rfl, rfl, ?_, rfl, ?_, ?_⟩ <;> decide +kernel
abbrev d__law_pool : He.DefD := ⟨("_law_pool", none), "_law_pool", "_law_pool", defArgs s__law_pool, defBody s__law_pool, defScope s__law_pool, [], []⟩
abbrev s__law_take : Stmt := top 20
theorem sc__law_take : FnScope ["_law_pool_here", "_law_many", "_law_great", "_law_cut", "_law_mixed"] ["_law_pool_here", "_law_many"] (defScope s__law_take) := by
  refine ⟨rfl, rfl, rfl, ?_, rfl, ?_, ?_⟩ <;> decide +kernel
abbrev d__law_take : He.DefD := ⟨("_law_take", none), "_law_take", "_law_take", defArgs s__law_take, defBody s__law_take, defScope s__law_take, [], []⟩
abbrev s__law_cross : Stmt := top 21
theorem sc__law_cross : FnScope ["_law_one", "_law_two", "_law_three", "_law_dx", "_law_dy"] ["_law_one", "_law_two", "_law_three"] (defScope s__law_cross) := by
  refine ⟨rfl, rfl, rfl, ?_, rfl, ?_, ?_⟩ <;> decide +kernel
abbrev d__law_cross : He.DefD := ⟨("_law_cross", none), "_law_cross", "_law_cross", defArgs s__law_cross, defBody s__law_cross, defScope s__law_cross, [], []⟩
abbrev s__law_arranged : Stmt := top 22
theorem sc__law_arranged : FnScope ["_law_points", "_law_rows", "_law_point_here", "_law_at"] ["_law_points"] (defScope s__law_arranged) := by
  refine ⟨rfl, rfl, rfl, ?_, rfl, ?_, ?_⟩ <;> decide +kernel
abbrev d__law_arranged : He.DefD := ⟨("_law_arranged", none), "_law_arranged", "_law_arranged", defArgs s__law_arranged, defBody s__law_arranged, defScope s__law_arranged, [], []⟩
abbrev s__law_half : Stmt := top 23
theorem sc__law_half : FnScope ["_law_rows", "_law_kept", "_law_point_here"] ["_law_rows"] (defScope s__law_half) := by
  refine ⟨rfl, rfl, rfl, ?_, rfl, ?_, ?_⟩ <;> decide +kernel
abbrev d__law_half : He.DefD := ⟨("_law_half", none), "_law_half", "_law_half", defArgs s__law_half, defBody s__law_half, defScope s__law_half, [], []⟩
abbrev s__law_hull : Stmt := top 24
theorem sc__law_hull : FnScope ["_law_points", "_law_rows"] ["_law_points"] (defScope s__law_hull) := by
  refine ⟨rfl, rfl, rfl, ?_, rfl, ?_, ?_⟩ <;> decide +kernel
abbrev d__law_hull : He.DefD := ⟨("_law_hull", none), "_law_hull", "_law_hull", defArgs s__law_hull, defBody s__law_hull, defScope s__law_hull, [], []⟩
abbrev s__law_due : Stmt := top 25
theorem sc__law_due : FnScope ["_law_hull_here", "_law_many", "_law_point_here", "_law_k", "_law_left", "_law_right", "_law_one", "_law_two"] ["_law_hull_here", "_law_many", "_law_point_here"] (defScope s__law_due) := by
  refine ⟨rfl, rfl, rfl, ?_, rfl, ?_, ?_⟩ <;> decide +kernel
abbrev d__law_due : He.DefD := ⟨("_law_due", none), "_law_due", "_law_due", defArgs s__law_due, defBody s__law_due, defScope s__law_due, [], []⟩
abbrev s__law_point : Stmt := top 26
theorem sc__law_point : FnScope ["_law_pool_here", "_law_hull_here", "_law_points", "_law_many", "_law_size", "_law_kind", "_law_at", "_law_corner", "_law_chosen"] ["_law_pool_here", "_law_hull_here", "_law_points", "_law_many", "_law_size"] (defScope s__law_point) := by
  refine ⟨rfl, rfl, rfl, ?_, rfl, ?_, ?_⟩ <;> decide +kernel
abbrev d__law_point : He.DefD := ⟨("_law_point", none), "_law_point", "_law_point", defArgs s__law_point, defBody s__law_point, defScope s__law_point, [], []⟩
abbrev s__law_number : Stmt := top 27
theorem sc__law_number : FnScope ["_law_number_here", "_law_many", "_law_whole"] ["_law_number_here", "_law_many", "_law_whole"] (defScope s__law_number) := by
  refine ⟨rfl, rfl, rfl, ?_, rfl, ?_, ?_⟩ <;> decide +kernel
abbrev d__law_number : He.DefD := ⟨("_law_number", none), "_law_number", "_law_number", defArgs s__law_number, defBody s__law_number, defScope s__law_number, [], []⟩
abbrev s_law : Stmt := top 28
theorem sc_law : FnScope ["_law_script", "_law_pool_here", "_law_whole", "_law_size", "_law_many", "_law_points", "_law_count", "_law_hull_here", "_law_point_here", "_law_shape", "_law_row", "_law_pair", "_law_told"] ["_law_script"] (defScope s_law) := by
  refine ⟨rfl, rfl, rfl, ?_, rfl, ?_, ?_⟩ <;> decide +kernel
abbrev d_law : He.DefD := ⟨("law", none), "law", "law", defArgs s_law, defBody s_law, defScope s_law, [], []⟩
abbrev s_is_number : Stmt := top 9
theorem sc_is_number : FnScope ["value"] ["value"] (defScope s_is_number) := by
  refine ⟨rfl, rfl, rfl, ?_, rfl, ?_, ?_⟩ <;> decide +kernel
abbrev d_is_number : He.DefD := ⟨("is_number", none), "is_number", "is_number", defArgs s_is_number, defBody s_is_number, defScope s_is_number, [], []⟩
abbrev s_top_of : Stmt := top 11
theorem sc_top_of : FnScope ["value"] ["value"] (defScope s_top_of) := by
  refine ⟨rfl, rfl, rfl, ?_, rfl, ?_, ?_⟩ <;> decide +kernel
abbrev d_top_of : He.DefD := ⟨("top_of", none), "top_of", "top_of", defArgs s_top_of, defBody s_top_of, defScope s_top_of, [], []⟩
abbrev s_bottom_of : Stmt := top 12
theorem sc_bottom_of : FnScope ["value"] ["value"] (defScope s_bottom_of) := by
  refine ⟨rfl, rfl, rfl, ?_, rfl, ?_, ?_⟩ <;> decide +kernel
abbrev d_bottom_of : He.DefD := ⟨("bottom_of", none), "bottom_of", "bottom_of", defArgs s_bottom_of, defBody s_bottom_of, defScope s_bottom_of, [], []⟩
abbrev s_Share___sub__ : Stmt := inClass (top 13) 6
theorem sc_Share___sub__ : FnScope ["self", "other", "top"] ["self", "other"] (defScope s_Share___sub__) := by
  refine ⟨rfl, rfl, rfl, ?_, rfl, ?_, ?_⟩ <;> decide +kernel
abbrev d_Share___sub__ : He.DefD := ⟨("Share", some "__sub__"), "__sub__", "Share.__sub__", defArgs s_Share___sub__, defBody s_Share___sub__, defScope s_Share___sub__, [], []⟩
abbrev s_Share___rsub__ : Stmt := inClass (top 13) 7
theorem sc_Share___rsub__ : FnScope ["self", "other"] ["self", "other"] (defScope s_Share___rsub__) := by
  refine ⟨rfl, rfl, rfl, ?_, rfl, ?_, ?_⟩ <;> decide +kernel
abbrev d_Share___rsub__ : He.DefD := ⟨("Share", some "__rsub__"), "__rsub__", "Share.__rsub__", defArgs s_Share___rsub__, defBody s_Share___rsub__, defScope s_Share___rsub__, [], []⟩
abbrev s_Share___mul__ : Stmt := inClass (top 13) 8
theorem sc_Share___mul__ : FnScope ["self", "other"] ["self", "other"] (defScope s_Share___mul__) := by
  refine ⟨rfl, rfl, rfl, ?_, rfl, ?_, ?_⟩ <;> decide +kernel
abbrev d_Share___mul__ : He.DefD := ⟨("Share", some "__mul__"), "__mul__", "Share.__mul__", defArgs s_Share___mul__, defBody s_Share___mul__, defScope s_Share___mul__, [], []⟩
abbrev s_Share___rmul__ : Stmt := inClass (top 13) 9
theorem sc_Share___rmul__ : FnScope ["self", "other"] ["self", "other"] (defScope s_Share___rmul__) := by
  refine ⟨rfl, rfl, rfl, ?_, rfl, ?_, ?_⟩ <;> decide +kernel
abbrev d_Share___rmul__ : He.DefD := ⟨("Share", some "__rmul__"), "__rmul__", "Share.__rmul__", defArgs s_Share___rmul__, defBody s_Share___rmul__, defScope s_Share___rmul__, [], []⟩
abbrev s_Share___lt__ : Stmt := inClass (top 13) 15
theorem sc_Share___lt__ : FnScope ["self", "other"] ["self", "other"] (defScope s_Share___lt__) := by
  refine ⟨rfl, rfl, rfl, ?_, rfl, ?_, ?_⟩ <;> decide +kernel
abbrev d_Share___lt__ : He.DefD := ⟨("Share", some "__lt__"), "__lt__", "Share.__lt__", defArgs s_Share___lt__, defBody s_Share___lt__, defScope s_Share___lt__, [], []⟩
abbrev s_Share___le__ : Stmt := inClass (top 13) 16
theorem sc_Share___le__ : FnScope ["self", "other"] ["self", "other"] (defScope s_Share___le__) := by
  refine ⟨rfl, rfl, rfl, ?_, rfl, ?_, ?_⟩ <;> decide +kernel
abbrev d_Share___le__ : He.DefD := ⟨("Share", some "__le__"), "__le__", "Share.__le__", defArgs s_Share___le__, defBody s_Share___le__, defScope s_Share___le__, [], []⟩
def fns : List He.DefD := [d_is_integer, d_BadShare___init__, d_common_divisor, d_as_share, d_Share___init__, d_turn, d_between, d_inside, d__law_pool, d__law_take, d__law_cross, d__law_arranged, d__law_half, d__law_hull, d__law_due, d__law_point, d__law_number, d_law, d_is_number, d_top_of, d_bottom_of, d_Share___sub__, d_Share___rsub__, d_Share___mul__, d_Share___rmul__, d_Share___lt__, d_Share___le__]
def gts : List He.DefD := []
def cks : List S.Ck := [
  (He.Fa.glo "is_integer").ok,
  (He.Fa.glo "common_divisor").ok,
  (He.Fa.glo "as_share").ok,
  (He.Fa.glo "turn").ok,
  (He.Fa.glo "between").ok,
  (He.Fa.glo "inside").ok,
  (He.Fa.glo "_law_pool").ok,
  (He.Fa.glo "_law_take").ok,
  (He.Fa.glo "_law_cross").ok,
  (He.Fa.glo "_law_arranged").ok,
  (He.Fa.glo "_law_half").ok,
  (He.Fa.glo "_law_hull").ok,
  (He.Fa.glo "_law_due").ok,
  (He.Fa.glo "_law_point").ok,
  (He.Fa.glo "_law_number").ok,
  (He.Fa.glo "law").ok,
  (He.Fa.glo "is_number").ok,
  (He.Fa.glo "top_of").ok,
  (He.Fa.glo "bottom_of").ok,
  (He.Fa.glo "BadShare").ok,
  (He.Fa.glo "Share").ok,
  (He.Fa.free "int").ok,
  (He.Fa.free "bool").ok,
  (He.Fa.free "tuple").ok,
  (He.Fa.free "isinstance").ok,
  (He.Fa.free "len").ok,
  (He.Fa.free "range").ok,
  (He.Fa.free "abs").ok,
  (fun K => S.oexB K (He.ga K "BadShare")),
  (fun K => He.eqO (PySem.W.findIn K (.ref (He.ga K "BadShare")) "__init__") (some (some (.ref (He.ma K (He.ga K "BadShare") "__init__"))))),
  (fun K => decide (PySem.W.typeIn K (.ref (He.ma K (He.ga K "BadShare") "__init__")) = some (.type "function"))),
  (fun K => He.eqO (PySem.W.findIn K (.ref (He.ga K "BadShare")) "part") (some none)),
  (fun K => S.sclB K (He.ga K "Share")),
  (fun K => S.insB K (He.ga K "Share")),
  (He.Fa.mkr "Share").ok,
  (fun K => S.sltB K (He.ga K "Share") "bottom" 0),
  (fun K => S.sltB K (He.ga K "Share") "top" 1),
  (He.Fa.meth "Share" "__lt__").ok,
  (He.Fa.meth "Share" "__le__").ok,
  (fun K => decide (PySem.W.kitOne K (.ref (He.ga K "Share")) (.ref (He.ga K "Share")) = some true)),
  (fun K => decide (PySem.W.kitOne K (.type "int") (.ref (He.ga K "Share")) = some false)),
  (fun K => S.binB K (He.ga K "Share") "sub" (He.ma K (He.ga K "Share") "__sub__") (He.ma K (He.ga K "Share") "__rsub__")),
  (fun K => S.binB K (He.ga K "Share") "mul" (He.ma K (He.ga K "Share") "__mul__") (He.ma K (He.ga K "Share") "__rmul__")),
  (fun K => PySem.W.notFirst K (He.ga K "Share") (.type "int"))]
structure Txt (K : S.Frag) (mg : Str → Option Value) : Prop where
  F_is_integer : S.FunA K d_is_integer
  F_BadShare___init__ : S.FunA K d_BadShare___init__
  F_common_divisor : S.FunA K d_common_divisor
  F_as_share : S.FunA K d_as_share
  F_Share___init__ : S.FunA K d_Share___init__
  F_turn : S.FunA K d_turn
  F_between : S.FunA K d_between
  F_inside : S.FunA K d_inside
  F__law_pool : S.FunA K d__law_pool
  F__law_take : S.FunA K d__law_take
  F__law_cross : S.FunA K d__law_cross
  F__law_arranged : S.FunA K d__law_arranged
  F__law_half : S.FunA K d__law_half
  F__law_hull : S.FunA K d__law_hull
  F__law_due : S.FunA K d__law_due
  F__law_point : S.FunA K d__law_point
  F__law_number : S.FunA K d__law_number
  F_law : S.FunA K d_law
  F_is_number : S.FunA K d_is_number
  F_top_of : S.FunA K d_top_of
  F_bottom_of : S.FunA K d_bottom_of
  F_Share___sub__ : S.FunA K d_Share___sub__
  F_Share___rsub__ : S.FunA K d_Share___rsub__
  F_Share___mul__ : S.FunA K d_Share___mul__
  F_Share___rmul__ : S.FunA K d_Share___rmul__
  F_Share___lt__ : S.FunA K d_Share___lt__
  F_Share___le__ : S.FunA K d_Share___le__
  g_is_integer : mg "is_integer" = some (.ref (He.ga K "is_integer"))
  g_common_divisor : mg "common_divisor" = some (.ref (He.ga K "common_divisor"))
  g_as_share : mg "as_share" = some (.ref (He.ga K "as_share"))
  g_turn : mg "turn" = some (.ref (He.ga K "turn"))
  g_between : mg "between" = some (.ref (He.ga K "between"))
  g_inside : mg "inside" = some (.ref (He.ga K "inside"))
  g__law_pool : mg "_law_pool" = some (.ref (He.ga K "_law_pool"))
  g__law_take : mg "_law_take" = some (.ref (He.ga K "_law_take"))
  g__law_cross : mg "_law_cross" = some (.ref (He.ga K "_law_cross"))
  g__law_arranged : mg "_law_arranged" = some (.ref (He.ga K "_law_arranged"))
  g__law_half : mg "_law_half" = some (.ref (He.ga K "_law_half"))
  g__law_hull : mg "_law_hull" = some (.ref (He.ga K "_law_hull"))
  g__law_due : mg "_law_due" = some (.ref (He.ga K "_law_due"))
  g__law_point : mg "_law_point" = some (.ref (He.ga K "_law_point"))
  g__law_number : mg "_law_number" = some (.ref (He.ga K "_law_number"))
  g_law : mg "law" = some (.ref (He.ga K "law"))
  g_is_number : mg "is_number" = some (.ref (He.ga K "is_number"))
  g_top_of : mg "top_of" = some (.ref (He.ga K "top_of"))
  g_bottom_of : mg "bottom_of" = some (.ref (He.ga K "bottom_of"))
  g_BadShare : mg "BadShare" = some (.ref (He.ga K "BadShare"))
  g_Share : mg "Share" = some (.ref (He.ga K "Share"))
  n_int : mg "int" = none
  n_bool : mg "bool" = none
  n_tuple : mg "tuple" = none
  n_isinstance : mg "isinstance" = none
  n_len : mg "len" = none
  n_range : mg "range" = none
  n_abs : mg "abs" = none
  ox_BadShare : OexC K (He.ga K "BadShare")
  xi_BadShare : PySem.W.findIn K (.ref (He.ga K "BadShare")) "__init__" = some (some (.ref (He.ma K (He.ga K "BadShare") "__init__")))
  xt_BadShare : PySem.W.typeIn K (.ref (He.ma K (He.ga K "BadShare") "__init__")) = some (.type "function")
  xn_BadShare_part : PySem.W.findIn K (.ref (He.ga K "BadShare")) "part" = some none
  sc_Share : SlX.SCls K (He.ga K "Share")
  si_Share : SlX.SIsi K (He.ga K "Share")
  mk_Share : Mk K (He.ga K "Share") (He.ma K (He.ga K "Share") "__init__")
  sl_Share_bottom : SlX.Slot1 K (He.ga K "Share") "bottom" (S.slA K (He.ga K "Share") "bottom") 0
  sl_Share_top : SlX.Slot1 K (He.ga K "Share") "top" (S.slA K (He.ga K "Share") "top") 1
  me_Share___lt__ : Meth K (He.ga K "Share") "__lt__" (He.ma K (He.ga K "Share") "__lt__")
  me_Share___le__ : Meth K (He.ga K "Share") "__le__" (He.ma K (He.ga K "Share") "__le__")
  ko_Share_Share : PySem.W.kitOne K (.ref (He.ga K "Share")) (.ref (He.ga K "Share")) = some true
  kb_Share_int : PySem.W.kitOne K (.type "int") (.ref (He.ga K "Share")) = some false
  bn_sub : S.BinC K (He.ga K "Share") "sub" (He.ma K (He.ga K "Share") "__sub__") (He.ma K (He.ga K "Share") "__rsub__")
  bn_mul : S.BinC K (He.ga K "Share") "mul" (He.ma K (He.ga K "Share") "__mul__") (He.ma K (He.ga K "Share") "__rmul__")
  nf_Share : PySem.W.notFirst K (He.ga K "Share") (.type "int") = true
theorem txt_of {K : S.Frag} {h : Heap} {mg : Str → Option Value} (X : K.In h) (G : h.Ns mainGlobals mg) (c : S.SaysX cks fns gts K) : Txt K mg where
  F_is_integer := c.def_ 0
  F_BadShare___init__ := c.def_ 1
  F_common_divisor := c.def_ 2
  F_as_share := c.def_ 3
  F_Share___init__ := c.def_ 4
  F_turn := c.def_ 5
  F_between := c.def_ 6
  F_inside := c.def_ 7
  F__law_pool := c.def_ 8
  F__law_take := c.def_ 9
  F__law_cross := c.def_ 10
  F__law_arranged := c.def_ 11
  F__law_half := c.def_ 12
  F__law_hull := c.def_ 13
  F__law_due := c.def_ 14
  F__law_point := c.def_ 15
  F__law_number := c.def_ 16
  F_law := c.def_ 17
  F_is_number := c.def_ 18
  F_top_of := c.def_ 19
  F_bottom_of := c.def_ 20
  F_Share___sub__ := c.def_ 21
  F_Share___rsub__ := c.def_ 22
  F_Share___mul__ := c.def_ 23
  F_Share___rmul__ := c.def_ 24
  F_Share___lt__ := c.def_ 25
  F_Share___le__ := c.def_ 26
  g_is_integer := He.glo_ok X G (c.fact 0)
  g_common_divisor := He.glo_ok X G (c.fact 1)
  g_as_share := He.glo_ok X G (c.fact 2)
  g_turn := He.glo_ok X G (c.fact 3)
  g_between := He.glo_ok X G (c.fact 4)
  g_inside := He.glo_ok X G (c.fact 5)
  g__law_pool := He.glo_ok X G (c.fact 6)
  g__law_take := He.glo_ok X G (c.fact 7)
  g__law_cross := He.glo_ok X G (c.fact 8)
  g__law_arranged := He.glo_ok X G (c.fact 9)
  g__law_half := He.glo_ok X G (c.fact 10)
  g__law_hull := He.glo_ok X G (c.fact 11)
  g__law_due := He.glo_ok X G (c.fact 12)
  g__law_point := He.glo_ok X G (c.fact 13)
  g__law_number := He.glo_ok X G (c.fact 14)
  g_law := He.glo_ok X G (c.fact 15)
  g_is_number := He.glo_ok X G (c.fact 16)
  g_top_of := He.glo_ok X G (c.fact 17)
  g_bottom_of := He.glo_ok X G (c.fact 18)
  g_BadShare := He.glo_ok X G (c.fact 19)
  g_Share := He.glo_ok X G (c.fact 20)
  n_int := He.free_ok X G (c.fact 21)
  n_bool := He.free_ok X G (c.fact 22)
  n_tuple := He.free_ok X G (c.fact 23)
  n_isinstance := He.free_ok X G (c.fact 24)
  n_len := He.free_ok X G (c.fact 25)
  n_range := He.free_ok X G (c.fact 26)
  n_abs := He.free_ok X G (c.fact 27)
  ox_BadShare := S.oexB_ok (c.fact 28)
  xi_BadShare := He.eqO_ok (c.fact 29)
  xt_BadShare := of_decide_eq_true (c.fact 30)
  xn_BadShare_part := He.eqO_ok (c.fact 31)
  sc_Share := S.sclB_ok (c.fact 32)
  si_Share := S.sisB_ok (c.fact 33)
  mk_Share := He.mkr_ok (c.fact 34)
  sl_Share_bottom := S.sltB_ok (by decide) (c.fact 35)
  sl_Share_top := S.sltB_ok (by decide) (c.fact 36)
  me_Share___lt__ := He.meth_ok (c.fact 37)
  me_Share___le__ := He.meth_ok (c.fact 38)
  ko_Share_Share := of_decide_eq_true (c.fact 39)
  kb_Share_int := of_decide_eq_true (c.fact 40)
  bn_sub := S.binB_ok (c.fact 41)
  bn_mul := S.binB_ok (c.fact 42)
  nf_Share := (c.fact 43)
theorem kb_Share___init___2 {K : S.Frag} {mg : Str → Option Value} (T : Txt K mg) : ∃ g, KBn K (S.fdA K ("Share", some "__init__")) ["self", "top", "bottom"] 2 [] g (fun vs zs => vs ++ (([V.int 1] : List V).drop 0)) := by
  obtain ⟨_, h⟩ := T.F_Share___init__.kbindsD (ps := ["self", "top", "bottom"]) 2 [] (fun us its ws => us ++ (its.drop 0)) (List.cons_ne_nil _ _) (fun a b d => (a.append (b.drop 0)))
    (fun _ _ _ _ _ _ _ us its ws l1 l2 l4 => match us, its, ws, l1, l2, l4 with | [_, _], [_], [], _, _, _ => ⟨_, rfl, rfl⟩)
  exact ⟨_, h⟩
theorem kb_is_integer_1 {K : S.Frag} {mg : Str → Option Value} (T : Txt K mg) : KBn K (S.fdA K ("is_integer", none)) ["value"] 1 [] (fun us _ => us ++ []) (fun vs _ => vs ++ []) :=
  S.kb_of_binds (T.F_is_integer.bindsN fun _ _ _ _ _ _ us hl => match us, hl with | [_], _ => rfl) .nil rfl
theorem kb_BadShare___init___2 {K : S.Frag} {mg : Str → Option Value} (T : Txt K mg) : KBn K (S.fdA K ("BadShare", some "__init__")) ["self", "part"] 2 [] (fun us _ => us ++ []) (fun vs _ => vs ++ []) :=
  S.kb_of_binds (T.F_BadShare___init__.bindsN fun _ _ _ _ _ _ us hl => match us, hl with | [_, _], _ => rfl) .nil rfl
theorem kb_common_divisor_2 {K : S.Frag} {mg : Str → Option Value} (T : Txt K mg) : KBn K (S.fdA K ("common_divisor", none)) ["first", "second"] 2 [] (fun us _ => us ++ []) (fun vs _ => vs ++ []) :=
  S.kb_of_binds (T.F_common_divisor.bindsN fun _ _ _ _ _ _ us hl => match us, hl with | [_, _], _ => rfl) .nil rfl
theorem kb_as_share_1 {K : S.Frag} {mg : Str → Option Value} (T : Txt K mg) : KBn K (S.fdA K ("as_share", none)) ["value"] 1 [] (fun us _ => us ++ []) (fun vs _ => vs ++ []) :=
  S.kb_of_binds (T.F_as_share.bindsN fun _ _ _ _ _ _ us hl => match us, hl with | [_], _ => rfl) .nil rfl
theorem kb_turn_3 {K : S.Frag} {mg : Str → Option Value} (T : Txt K mg) : KBn K (S.fdA K ("turn", none)) ["left", "right", "pair"] 3 [] (fun us _ => us ++ []) (fun vs _ => vs ++ []) :=
  S.kb_of_binds (T.F_turn.bindsN fun _ _ _ _ _ _ us hl => match us, hl with | [_, _, _], _ => rfl) .nil rfl
theorem kb_between_3 {K : S.Frag} {mg : Str → Option Value} (T : Txt K mg) : KBn K (S.fdA K ("between", none)) ["value", "one", "other"] 3 [] (fun us _ => us ++ []) (fun vs _ => vs ++ []) :=
  S.kb_of_binds (T.F_between.bindsN fun _ _ _ _ _ _ us hl => match us, hl with | [_, _, _], _ => rfl) .nil rfl
theorem kb__law_cross_3 {K : S.Frag} {mg : Str → Option Value} (T : Txt K mg) : KBn K (S.fdA K ("_law_cross", none)) ["_law_one", "_law_two", "_law_three"] 3 [] (fun us _ => us ++ []) (fun vs _ => vs ++ []) :=
  S.kb_of_binds (T.F__law_cross.bindsN fun _ _ _ _ _ _ us hl => match us, hl with | [_, _, _], _ => rfl) .nil rfl
theorem kb__law_arranged_1 {K : S.Frag} {mg : Str → Option Value} (T : Txt K mg) : KBn K (S.fdA K ("_law_arranged", none)) ["_law_points"] 1 [] (fun us _ => us ++ []) (fun vs _ => vs ++ []) :=
  S.kb_of_binds (T.F__law_arranged.bindsN fun _ _ _ _ _ _ us hl => match us, hl with | [_], _ => rfl) .nil rfl
theorem kb__law_half_1 {K : S.Frag} {mg : Str → Option Value} (T : Txt K mg) : KBn K (S.fdA K ("_law_half", none)) ["_law_rows"] 1 [] (fun us _ => us ++ []) (fun vs _ => vs ++ []) :=
  S.kb_of_binds (T.F__law_half.bindsN fun _ _ _ _ _ _ us hl => match us, hl with | [_], _ => rfl) .nil rfl
theorem kb__law_take_2 {K : S.Frag} {mg : Str → Option Value} (T : Txt K mg) : KBn K (S.fdA K ("_law_take", none)) ["_law_pool_here", "_law_many"] 2 [] (fun us _ => us ++ []) (fun vs _ => vs ++ []) :=
  S.kb_of_binds (T.F__law_take.bindsN fun _ _ _ _ _ _ us hl => match us, hl with | [_, _], _ => rfl) .nil rfl
theorem kb_Share___init___3 {K : S.Frag} {mg : Str → Option Value} (T : Txt K mg) : ∃ g, KBn K (S.fdA K ("Share", some "__init__")) ["self", "top", "bottom"] 3 [] g (fun vs zs => vs) := by
  obtain ⟨_, h⟩ := T.F_Share___init__.kbindsD (ps := ["self", "top", "bottom"]) 3 [] (fun us its ws => us) (List.cons_ne_nil _ _) (fun a b d => a)
    (fun _ _ _ _ _ _ _ us its ws l1 l2 l4 => match us, its, ws, l1, l2, l4 with | [_, _, _], [_], [], _, _, _ => ⟨_, rfl, rfl⟩)
  exact ⟨_, h⟩
theorem kb__law_pool_1 {K : S.Frag} {mg : Str → Option Value} (T : Txt K mg) : KBn K (S.fdA K ("_law_pool", none)) ["_law_script"] 1 [] (fun us _ => us ++ []) (fun vs _ => vs ++ []) :=
  S.kb_of_binds (T.F__law_pool.bindsN fun _ _ _ _ _ _ us hl => match us, hl with | [_], _ => rfl) .nil rfl
theorem kb__law_hull_1 {K : S.Frag} {mg : Str → Option Value} (T : Txt K mg) : KBn K (S.fdA K ("_law_hull", none)) ["_law_points"] 1 [] (fun us _ => us ++ []) (fun vs _ => vs ++ []) :=
  S.kb_of_binds (T.F__law_hull.bindsN fun _ _ _ _ _ _ us hl => match us, hl with | [_], _ => rfl) .nil rfl
theorem kb__law_point_5 {K : S.Frag} {mg : Str → Option Value} (T : Txt K mg) : KBn K (S.fdA K ("_law_point", none)) ["_law_pool_here", "_law_hull_here", "_law_points", "_law_many", "_law_size"] 5 [] (fun us _ => us ++ []) (fun vs _ => vs ++ []) :=
  S.kb_of_binds (T.F__law_point.bindsN fun _ _ _ _ _ _ us hl => match us, hl with | [_, _, _, _, _], _ => rfl) .nil rfl
theorem kb_inside_2 {K : S.Frag} {mg : Str → Option Value} (T : Txt K mg) : KBn K (S.fdA K ("inside", none)) ["polygon", "pair"] 2 [] (fun us _ => us ++ []) (fun vs _ => vs ++ []) :=
  S.kb_of_binds (T.F_inside.bindsN fun _ _ _ _ _ _ us hl => match us, hl with | [_, _], _ => rfl) .nil rfl
theorem kb__law_number_3 {K : S.Frag} {mg : Str → Option Value} (T : Txt K mg) : KBn K (S.fdA K ("_law_number", none)) ["_law_number_here", "_law_many", "_law_whole"] 3 [] (fun us _ => us ++ []) (fun vs _ => vs ++ []) :=
  S.kb_of_binds (T.F__law_number.bindsN fun _ _ _ _ _ _ us hl => match us, hl with | [_, _, _], _ => rfl) .nil rfl
theorem kb__law_due_3 {K : S.Frag} {mg : Str → Option Value} (T : Txt K mg) : KBn K (S.fdA K ("_law_due", none)) ["_law_hull_here", "_law_many", "_law_point_here"] 3 [] (fun us _ => us ++ []) (fun vs _ => vs ++ []) :=
  S.kb_of_binds (T.F__law_due.bindsN fun _ _ _ _ _ _ us hl => match us, hl with | [_, _, _], _ => rfl) .nil rfl
theorem kb_is_number_1 {K : S.Frag} {mg : Str → Option Value} (T : Txt K mg) : KBn K (S.fdA K ("is_number", none)) ["value"] 1 [] (fun us _ => us ++ []) (fun vs _ => vs ++ []) :=
  S.kb_of_binds (T.F_is_number.bindsN fun _ _ _ _ _ _ us hl => match us, hl with | [_], _ => rfl) .nil rfl
theorem kb_bottom_of_1 {K : S.Frag} {mg : Str → Option Value} (T : Txt K mg) : KBn K (S.fdA K ("bottom_of", none)) ["value"] 1 [] (fun us _ => us ++ []) (fun vs _ => vs ++ []) :=
  S.kb_of_binds (T.F_bottom_of.bindsN fun _ _ _ _ _ _ us hl => match us, hl with | [_], _ => rfl) .nil rfl
theorem kb_top_of_1 {K : S.Frag} {mg : Str → Option Value} (T : Txt K mg) : KBn K (S.fdA K ("top_of", none)) ["value"] 1 [] (fun us _ => us ++ []) (fun vs _ => vs ++ []) :=
  S.kb_of_binds (T.F_top_of.bindsN fun _ _ _ _ _ _ us hl => match us, hl with | [_], _ => rfl) .nil rfl
theorem kb_Share___sub___2 {K : S.Frag} {mg : Str → Option Value} (T : Txt K mg) : KBn K (S.fdA K ("Share", some "__sub__")) ["self", "other"] 2 [] (fun us _ => us ++ []) (fun vs _ => vs ++ []) :=
  S.kb_of_binds (T.F_Share___sub__.bindsN fun _ _ _ _ _ _ us hl => match us, hl with | [_, _], _ => rfl) .nil rfl
theorem kb_Share___rsub___2 {K : S.Frag} {mg : Str → Option Value} (T : Txt K mg) : KBn K (S.fdA K ("Share", some "__rsub__")) ["self", "other"] 2 [] (fun us _ => us ++ []) (fun vs _ => vs ++ []) :=
  S.kb_of_binds (T.F_Share___rsub__.bindsN fun _ _ _ _ _ _ us hl => match us, hl with | [_, _], _ => rfl) .nil rfl
theorem kb_Share___mul___2 {K : S.Frag} {mg : Str → Option Value} (T : Txt K mg) : KBn K (S.fdA K ("Share", some "__mul__")) ["self", "other"] 2 [] (fun us _ => us ++ []) (fun vs _ => vs ++ []) :=
  S.kb_of_binds (T.F_Share___mul__.bindsN fun _ _ _ _ _ _ us hl => match us, hl with | [_, _], _ => rfl) .nil rfl
theorem kb_Share___rmul___2 {K : S.Frag} {mg : Str → Option Value} (T : Txt K mg) : KBn K (S.fdA K ("Share", some "__rmul__")) ["self", "other"] 2 [] (fun us _ => us ++ []) (fun vs _ => vs ++ []) :=
  S.kb_of_binds (T.F_Share___rmul__.bindsN fun _ _ _ _ _ _ us hl => match us, hl with | [_, _], _ => rfl) .nil rfl
theorem kb_Share___lt___2 {K : S.Frag} {mg : Str → Option Value} (T : Txt K mg) : KBn K (S.fdA K ("Share", some "__lt__")) ["self", "other"] 2 [] (fun us _ => us ++ []) (fun vs _ => vs ++ []) :=
  S.kb_of_binds (T.F_Share___lt__.bindsN fun _ _ _ _ _ _ us hl => match us, hl with | [_, _], _ => rfl) .nil rfl
theorem kb_Share___le___2 {K : S.Frag} {mg : Str → Option Value} (T : Txt K mg) : KBn K (S.fdA K ("Share", some "__le__")) ["self", "other"] 2 [] (fun us _ => us ++ []) (fun vs _ => vs ++ []) :=
  S.kb_of_binds (T.F_Share___le__.bindsN fun _ _ _ _ _ _ us hl => match us, hl with | [_, _], _ => rfl) .nil rfl
end W

namespace W
open PySem PySem.W PySem.Calls PyProof.Rows
/-! the head: its run in four looks; the facts over all that the top made -/
abbrev R : PySem.W.OpenRow := PySem.W.OpenLaw.row PySem.Challenge.rw_seenshares_k50_inside
def obR (g : Addr → Option Obj) : He.AlD := S.obsX cks fns gts (He.frG g (List.range 2500))
def hk : PySem.W.Hook where
  α := He.AlD
  obs := fun s => obR s.heap.get?
  val := fun _ => S.valX fns gts
  says := fun _ h => ∃ K : S.Frag, K.In h ∧ S.SaysX cks fns gts K
  of := fun _ _ e => ⟨_, He.frG_in, e⟩
  keeps := fun _ _ _ ⟨K, hK, c⟩ k => ⟨K, PySem.W.Frag.In.keeps hK k, c⟩
def ob (s : PySem.W.SharedT) : He.AlD := obR (HandSHeadRun.getT s)
theorem ob_eq (s : PySem.W.SharedT) : ob s = hk.obs s.abs := by
  have e : HandSHeadRun.getT s = s.abs.heap.get? := funext (HandSHeadRun.getT_eq s)
  unfold ob
  rw [e]
  rfl
def lo0 : List PySem.Str := ["_wall", "is_integer", "SeenError", "BadShare", "NoShare", "common_divisor", "is_number", "as_share", "top_of", "bottom_of", "Share", "turn", "between", "inside", "_law_pool", "_law_take", "_law_cross", "_law_arranged", "_law_half", "_law_hull", "_law_due", "_law_point", "_law_number"]
def lo : List PySem.Str := lo0
noncomputable abbrev endS (w : World) (os : OsState) : Option PySem.W.SharedT := HandSHeadRun.endF (HandSHeadRun.stepQ (HandSHeadRun.denQ HandSHeadRun.tabQ) R.prog w) 9000 R.prog w os
theorem map4 {α β γ δ ε : Type} {x : Option α} {f : α → β} {g : α → γ} {h : α → δ × ε} {a : β} {b : γ} {c : δ × ε} (e1 : x.map f = some a) (e2 : x.map g = some b) (e3 : x.map (fun s => (h s).1) = some c.1) (e4 : x.map (fun s => (h s).2) = some c.2) : x.map (fun s => (f s, g s, h s)) = some (a, b, c) := by
  cases x with
  | none => cases e1
  | some s =>
    injection e1 with e1
    injection e2 with e2
    injection e3 with e3
    injection e4 with e4
    show some (f s, g s, h s) = _
    rw [e1, e2, show h s = c from Prod.ext e3 e4]
set_option maxHeartbeats 0 in
theorem run1 (w : World) (os : OsState) : (endS w os).map (fun s => HandSHeadRun.looksF R.prog (boot_heap w.params) s.abs) = some true := by
  kernel_rfl
set_option maxHeartbeats 0 in
theorem run2 (w : World) (os : OsState) : (endS w os).map (fun s => HandSHeadRun.seenQ (PySem.W.view R.prog [28]) lo (importedModules R.prog.main.body) (fun s => xlAt (PySem.W.view R.prog [28]) [] s && recOk R.toRowW.records s) s.abs) = some (openGood (PySem.W.view R.prog [28]) lo) := by
  kernel_rfl
set_option maxHeartbeats 0 in
theorem run3 (w : World) (os : OsState) : (endS w os).map (fun s => (ob s).1) = some true := by
  kernel_rfl
set_option maxHeartbeats 0 in
theorem run4 (w : World) (os : OsState) : (endS w os).map (fun s => (ob s).2) = some (S.valX fns gts).2 := by
  kernel_rfl
theorem run (w : World) : HandSHeadRun.RunEq R (PySem.W.view R.prog [28]) hk ob 9000 lo w := fun os => map4 (run1 w os) (run2 w os) (run3 w os) (run4 w os)
end W

namespace W
open PySem PySem.Spec PyProof.Rows L2
section
variable {P : Program} {w : World} {K : S.Frag} {mg : Str → Option Value} {base : Heap}
open S
theorem isi_true {H : Hp} {i : Int} : TyX K H (.int i) (.type "int") := .base (.int i)
def sp_isint (K : S.Frag) : Sp := Sp1 fun x H Q _ => ∃ b, IsI K H x b ∧ Q (.bl b) H
theorem ok_is_integer (T : Txt K mg) : FnOk P w K mg base (L2.CX P w) 1 (He.fAd K ("is_integer", none)) (S.fdA K ("is_integer", none)) ["value"] (sp_isint K) := by
  refine FunD.ok T.F_is_integer sc_is_integer (fun vs H Q E h => S.splen1 h) (fun cdv A outer s H vs Q E hr h => ?_)
  have hu := hu_of hr
  refine ⟨_, (pss_one (ps_ret (pe_and (pe_callB (S.isiK (K := K) rfl) rfl T.n_isinstance S.boot_isinstance (pa_cons (pv 0) (pa_cons (pe_bltn (v := .ty "int") rfl T.n_int S.boot_int rfl) pa_nil))) (pe_one (pe_not (pe_callB (S.isiK (K := K) rfl) rfl T.n_isinstance S.boot_isinstance (pa_cons (pv 0) (pa_cons (pe_bltn (v := .ty "bool") rfl T.n_bool S.boot_bool rfl) pa_nil)))))))), ?_⟩
  obtain ⟨x, rfl, b, hb, q⟩ := h
  cases hb with
  | int i => exact ⟨_, rfl, _, _, _, _, true, rfl, .ty _, isi_true, kit_ty (by decide +kernel), _, rfl, _, rfl, _, _, _, _, false, rfl, .ty _, isi_true, kit_ty (by decide +kernel), _, rfl, q⟩
  | bl b => exact ⟨_, rfl, _, _, _, _, true, rfl, .ty _, .base (.bl b), kit_ty (by decide +kernel), _, rfl, _, rfl, _, _, _, _, true, rfl, .ty _, .base (.bl b), kit_ty (by decide +kernel), _, rfl, q⟩
  | oth h e => exact ⟨_, rfl, _, _, _, _, false, rfl, .ty _, h, e, _, rfl, q⟩
/-- x is an integer from a to c, or not, as b says -/
def Win (K : S.Frag) (H : Hp) (x : V) (a c : Int) (b : Bool) : Prop := (∃ i, x = .int i ∧ b = (decide (a ≤ i) && decide (i ≤ c))) ∨ (IsI K H x false ∧ b = false)
def sp_within (K : S.Frag) : Sp := Sp3 fun x lo hi H Q _ => ∃ a c b, lo = .int a ∧ hi = .int c ∧ Win K H x a c b ∧ Q (.bl b) H
end
end W

namespace W
open PySem PySem.Spec PyProof.Rows L2
section
variable {P : Program} {w : World} {K : S.Frag} {mg : Str → Option Value} {base : Heap}
open S
/-- the values that the law hands about -/
inductive Od (H : Hp) : V → Prop where
  | int (i : Int) : Od H (.int i)
  | non : Od H .non
  | bl (b : Bool) : Od H (.bl b)
  | str (z : Str) : Od H (.str z)
  | tup {a : Addr} {xs : List V} (h : H a = some (.tup xs)) : Od H (.ref a)
  | lst {a : Addr} {xs : List V} (h : H a = some (.lst xs)) : Od H (.ref a)
  | dK {a : Addr} {xs : List (Key × V)} (h : H a = some (.dK xs)) : Od H (.ref a)
theorem Od.mono {H H' : Hp} {x : V} (h : Od H x) (s : Same H H') : Od H' x := by
  cases h with
  | int i => exact .int i
  | non => exact .non
  | bl b => exact .bl b
  | str z => exact .str z
  | tup h => exact .tup (s _ _ h)
  | lst h => exact .lst (s _ _ h)
  | dK h => exact .dK (s _ _ h)
def isInt : V → Bool
  | .int _ => true
  | _ => false
theorem Od.isi {H : Hp} {x : V} (h : Od H x) : IsI K H x (isInt x) := by
  cases h with
  | int i => exact .int i
  | non => exact .oth (.base .non) (kit_ty (by decide +kernel))
  | bl b => exact .bl b
  | str z => exact .oth (.base (.str z)) (kit_ty (by decide +kernel))
  | tup h => exact .oth (.base (.tup h)) (kit_ty (by decide +kernel))
  | lst h => exact .oth (.base (.lst h)) (kit_ty (by decide +kernel))
  | dK h => exact .oth (.base (.dK h)) (kit_ty (by decide +kernel))
/-- an integer from a to b -/
def inR (a b : Int) : V → Bool
  | .int i => decide (a ≤ i) && decide (i ≤ b)
  | _ => false
theorem Od.within {H : Hp} {x : V} {a b : Int} (h : Od H x) : Win K H x a b (inR a b x) := by
  cases h with
  | int i => exact .inl ⟨i, rfl, rfl⟩
  | non => exact .inr ⟨Od.isi .non, rfl⟩
  | bl b => exact .inr ⟨Od.isi (.bl b), rfl⟩
  | str z => exact .inr ⟨Od.isi (.str z), rfl⟩
  | tup h => exact .inr ⟨Od.isi (.tup h), rfl⟩
  | lst h => exact .inr ⟨Od.isi (.lst h), rfl⟩
  | dK h => exact .inr ⟨Od.isi (.dK h), rfl⟩
end
end W

namespace W
open PySem PySem.Spec PyProof.Rows L2
section
variable {P : Program} {w : World} {K : S.Frag} {mg : Str → Option Value} {base : Heap}
open S
def spTake : Sp := Sp2 fun x y H Q _ => ∃ (a : Addr) (n m : Int), x = .ref a ∧ H a = some (.lst [.int n]) ∧ y = .int m ∧ 0 < m ∧ m < 2 ^ 64 ∧ ∀ t n', 0 ≤ t → t < m → Q (.int t) (upd H a (.lst [.int n']))
end
end W

namespace W
open PySem PySem.Spec PyProof.Rows L2
section
variable {P : Program} {w : World} {K : S.Frag} {mg : Str → Option Value} {base : Heap}
open S
/-- the draws at a went on, all else stands -/
structure Dr (a : Addr) (H H' : Hp) : Prop where
  at_ : ∃ m : Int, H' a = some (.lst [.int m])
  kp : ∀ b o, b ≠ a → H b = some o → H' b = some o
theorem Dr.trans {a : Addr} {H H1 H2 : Hp} (x : Dr a H H1) (y : Dr a H1 H2) : Dr a H H2 := ⟨y.at_, fun b o n h => y.kp b o n (x.kp b o n h)⟩
theorem Dr.upd {a : Addr} {H : Hp} {n : Int} : Dr a H (upd H a (.lst [.int n])) := ⟨⟨n, upd_same⟩, fun b o nb h => by rw [upd_ne nb]; exact h⟩
theorem Dr.same {a : Addr} {H H' : Hp} {n : Int} (h : H a = some (.lst [.int n])) (s : Same H H') : Dr a H H' := ⟨⟨n, s _ _ h⟩, fun b o _ h => s b o h⟩
/-- values that do not lean on the draws -/
inductive Oa (a : Addr) (H : Hp) : V → Prop where
  | int (i : Int) : Oa a H (.int i)
  | non : Oa a H .non
  | bl (b : Bool) : Oa a H (.bl b)
  | str (z : Str) : Oa a H (.str z)
  | tup {c : Addr} {xs : List V} (n : c ≠ a) (h : H c = some (.tup xs)) : Oa a H (.ref c)
  | lst {c : Addr} {xs : List V} (n : c ≠ a) (h : H c = some (.lst xs)) : Oa a H (.ref c)
  | dK {c : Addr} {xs : List (Key × V)} (n : c ≠ a) (h : H c = some (.dK xs)) : Oa a H (.ref c)
theorem Oa.od {a : Addr} {H : Hp} {x : V} (h : Oa a H x) : Od H x := by
  cases h with
  | int i => exact .int i
  | non => exact .non
  | bl b => exact .bl b
  | str z => exact .str z
  | tup n h => exact .tup h
  | lst n h => exact .lst h
  | dK n h => exact .dK h
theorem Oa.dr {a : Addr} {H H' : Hp} {x : V} (h : Oa a H x) (d : Dr a H H') : Oa a H' x := by
  cases h with
  | int i => exact .int i
  | non => exact .non
  | bl b => exact .bl b
  | str z => exact .str z
  | tup n h => exact .tup n (d.kp _ _ n h)
  | lst n h => exact .lst n (d.kp _ _ n h)
  | dK n h => exact .dK n (d.kp _ _ n h)
theorem ix3 {H : Hp} {a : Addr} {xs : List V} {v : V} {i : Int} {Q : VK} (ha : H a = some (.lst xs)) (e : atI xs i = some v) (q : Q v H) : rIx K (.ref a) (.int i) H Q := .inl ⟨a, _, _, _, rfl, rfl, .inl (.inl ha), e, q⟩
theorem ixT {H : Hp} {a : Addr} {xs : List V} {v : V} {i : Int} {Q : VK} (ha : H a = some (.tup xs)) (e : atI xs i = some v) (q : Q v H) : rIx K (.ref a) (.int i) H Q := .inr (.inl ⟨a, _, _, _, rfl, rfl, .inl (.inl ha), e, q⟩)
theorem isInt_int {x : V} (h : isInt x = true) : ∃ i, x = .int i := by cases x <;> first | exact ⟨_, rfl⟩ | cases h
theorem inR_not {x : V} {a b : Int} (h : isInt x = false) : inR a b x = false := by cases x <;> first | rfl | cases h
/-- one new thing at r beside what stood -/
theorem dr_same {r : Addr} {H H1 H2 : Hp} (h : Same H H1) (n : H r = none) (d : Dr r H1 H2) : Same H H2 := fun b o e => d.kp b o (ne_of_none e n) (h b o e)
end
end W

namespace W
open PySem PySem.Spec PyProof.Rows L2
section
variable {P : Program} {w : World} {K : S.Frag} {mg : Str → Option Value} {base : Heap}
open S
end
end W

namespace W
open PySem PySem.Spec PyProof.Rows L2
section
variable {P : Program} {w : World} {K : S.Frag} {mg : Str → Option Value} {base : Heap}
open S
/-! names -/
abbrev abc : Str := "abcdefghijklmnopqrstuvwxyz"
abbrev keptW : List V := [.str "any", .str "closed", .str "end", .str "open", .str "to"]
def isNm (z : Str) : Bool := (decide (1 ≤ z.length) && decide (z.length ≤ 8)) && (!inV (.str z) keptW && z.cps.toList.all fun c => decide (c ∈ abc.cps.toList))
def nmV : V → Bool
  | .str z => isNm z
  | _ => false
def isStr : V → Bool
  | .str _ => true
  | _ => false
def isBl : V → Bool
  | .bl _ => true
  | _ => false
/-- a text of bounded length, or none -/
def sml : V → Prop
  | .str z => z.length ≤ 1000
  | _ => True
theorem Od.str? {H : Hp} {x : V} (h : Od H x) : ∃ t, TyX K H x t ∧ PySem.W.kitOne K t (.type "str") = some (isStr x) := by
  cases h with
  | int i => exact ⟨_, .base (.int i), kit_ty (r := false) (by decide +kernel)⟩
  | non => exact ⟨_, .base .non, kit_ty (r := false) (by decide +kernel)⟩
  | bl b => exact ⟨_, .base (.bl b), kit_ty (r := false) (by decide +kernel)⟩
  | str z => exact ⟨_, .base (.str z), kit_ty (r := true) (by decide +kernel)⟩
  | tup h => exact ⟨_, .base (.tup h), kit_ty (r := false) (by decide +kernel)⟩
  | lst h => exact ⟨_, .base (.lst h), kit_ty (r := false) (by decide +kernel)⟩
  | dK h => exact ⟨_, .base (.dK h), kit_ty (r := false) (by decide +kernel)⟩
theorem Od.bl? {H : Hp} {x : V} (h : Od H x) : ∃ t, TyX K H x t ∧ PySem.W.kitOne K t (.type "bool") = some (isBl x) := by
  cases h with
  | int i => exact ⟨_, .base (.int i), kit_ty (r := false) (by decide +kernel)⟩
  | non => exact ⟨_, .base .non, kit_ty (r := false) (by decide +kernel)⟩
  | bl b => exact ⟨_, .base (.bl b), kit_ty (r := true) (by decide +kernel)⟩
  | str z => exact ⟨_, .base (.str z), kit_ty (r := false) (by decide +kernel)⟩
  | tup h => exact ⟨_, .base (.tup h), kit_ty (r := false) (by decide +kernel)⟩
  | lst h => exact ⟨_, .base (.lst h), kit_ty (r := false) (by decide +kernel)⟩
  | dK h => exact ⟨_, .base (.dK h), kit_ty (r := false) (by decide +kernel)⟩
theorem all_take {z : Str} {i c : Nat} (h : z.cps[i]? = some c) : z.cps.toList.take (i + 1) = z.cps.toList.take i ++ [c] := by
  rw [List.take_succ, ← Array.getElem?_toList] at *
  rw [h]
  rfl
def spNm (K : S.Frag) : Sp := Sp1 fun x H Q _ => Od H x ∧ sml x ∧ Q (.bl (nmV x)) H
def intOf : V → Int
  | .int i => i
  | _ => 0
def mostV (l m : V) : V := if m = .non then l else m
/-- what is wrong with these four, or "" -/
def dueP (n l m t : V) : Str := if !nmV n then "name" else if !inR 1 6 l then "least" else if !inR (intOf l) 6 (mostV l m) then "most" else if !isBl t then "let" else ""
def fldP (n l m t : V) : List (Str × V) := [("name", n), ("least", l), ("most", m), ("let", t)]
theorem inR_int {a b : Int} {x : V} (h : inR a b x = true) : ∃ i, x = .int i ∧ a ≤ i ∧ i ≤ b := by
  cases x with
  | int i => simp [inR] at h; exact ⟨i, rfl, h⟩
  | _ => cases h
def spPlace (K : S.Frag) : Sp := Sp5 fun self n l m t H Q E => ∃ p dx, self = .ref p ∧ H p = some (.ins (He.ga K "Place") dx []) ∧ Od H n ∧ sml n ∧ Od H l ∧ Od H m ∧ Od H t ∧
  (dueP n l m t = "" → ∀ H', (∀ b o, H b = some o → b ≠ p → H' b = some o) → H' p = some (.ins (He.ga K "Place") dx (fldP n l (mostV l m) t)) → Q .non H') ∧
  (dueP n l m t ≠ "" → ∀ d H', H d = none → Same H H' → H' d = some (.xd [("why", .str (dueP n l m t))]) → E (.ref (He.ga K "BadPlace")) (some d) H')
section
variable (n l m t : V)
theorem lk_name : (fldP n l m t).lookup ("name" : Str) = some n := by
  unfold fldP
  rw [lookup_put, if_pos rfl]
theorem lk_least : (fldP n l m t).lookup ("least" : Str) = some l := by
  unfold fldP
  rw [lookup_put, if_neg (by decide +kernel), lookup_put, if_pos rfl]
theorem lk_most : (fldP n l m t).lookup ("most" : Str) = some m := by
  unfold fldP
  rw [lookup_put, if_neg (by decide +kernel), lookup_put, if_neg (by decide +kernel), lookup_put, if_pos rfl]
theorem lk_let : (fldP n l m t).lookup ("let" : Str) = some t := by
  unfold fldP
  rw [lookup_put, if_neg (by decide +kernel), lookup_put, if_neg (by decide +kernel), lookup_put, if_neg (by decide +kernel), lookup_put, if_pos rfl]
theorem lk_key : (fldP n l m t).lookup ("place_key" : Str) = none := by
  unfold fldP
  rw [lookup_put, if_neg (by decide +kernel), lookup_put, if_neg (by decide +kernel), lookup_put, if_neg (by decide +kernel), lookup_put, if_neg (by decide +kernel)]
  rfl
end
/-- a place stands at p -/
def PlAt (K : S.Frag) (H : Hp) (p : Addr) (n l m t : V) : Prop := ∃ dx, H p = some (.ins (He.ga K "Place") dx (fldP n l m t))
theorem PlAt.same {H H' : Hp} {p : Addr} {n l m t : V} (h : PlAt K H p n l m t) (s : Same H H') : PlAt K H' p n l m t := let ⟨dx, e⟩ := h; ⟨dx, s _ _ e⟩
def spKey (K : S.Frag) : Sp := Sp1 fun x H Q _ => ∃ p n l m t, x = .ref p ∧ PlAt K H p n l m t ∧ ∀ k, H k = none → Q (.ref k) (upd H k (.tup [n, l, m, t]))
def spPEq (K : S.Frag) : Sp := Sp2 fun x y H Q _ => ∃ p n l m t q n' l' m' t', x = .ref p ∧ y = .ref q ∧ PlAt K H p n l m t ∧ PlAt K H q n' l' m' t' ∧ [n, l, m, t].all sca = true ∧ [n', l', m', t'].all sca = true ∧
  ∀ H', Same H H' → Q (.bl (PyData.eqvAll ([n, l, m, t].map dat) ([n', l', m', t'].map dat))) H'
end
end W

namespace W
open PySem PySem.Spec PyProof.Rows L2
section
variable {P : Program} {w : World} {K : S.Frag} {mg : Str → Option Value} {base : Heap}
open S
/-! drawn names -/
theorem str_len (z : Str) : z.length = z.cps.toList.length := by simp [Str.length]
theorem app_cps (x y : Str) : (x ++ y).cps.toList = x.cps.toList ++ y.cps.toList := by
  show ((⟨x.cps ++ y.cps⟩ : Str)).cps.toList = _
  simp
theorem app_len (x y : Str) : (x ++ y).length = x.length + y.length := by rw [str_len, str_len, str_len, app_cps, List.length_append]
theorem eqV_str (a b : Str) : eqV (.str a) (.str b) = decide (a = b) := by
  show (a == b) = _
  rw [Bool.eq_iff_iff]
  simp
theorem inV_str (z : Str) (ws : List Str) : inV (.str z) (ws.map V.str) = decide (z ∈ ws) := by
  unfold inV
  rw [List.any_map, Bool.eq_iff_iff]
  simp only [List.any_eq_true, Function.comp, eqV_str, decide_eq_true_eq]
  constructor
  · rintro ⟨x, h, rfl⟩
    exact h
  · intro h
    exact ⟨z, h, rfl⟩
theorem flat_strs (ws : List Str) : (ws.map V.str).all flatV = true := by
  rw [List.all_map, List.all_eq_true]
  exact fun _ _ => rfl
/-- as many holes as pigeons -/
theorem nodup_le {α : Type} [DecidableEq α] : ∀ {l m : List α}, l.Nodup → (∀ x ∈ l, x ∈ m) → l.length ≤ m.length
  | [], m, _, _ => Nat.zero_le _
  | a :: l, m, h, s => by
    have ha : a ∈ m := s a List.mem_cons_self
    have hn := List.nodup_cons.mp h
    have e : (m.erase a).length = m.length - 1 := List.length_erase_of_mem ha
    have p : 0 < m.length := List.length_pos_of_mem ha
    have r : l.length ≤ (m.erase a).length := nodup_le hn.2 fun x hx => by
      have hx2 := s x (List.mem_cons_of_mem _ hx)
      have ne : x ≠ a := fun z => hn.1 (z ▸ hx)
      exact (List.mem_erase_of_ne ne).mpr hx2
    rw [List.length_cons]
    omega
theorem atI_lt {α : Type} {xs : List α} {i : Int} {v : α} (h0 : 0 ≤ i) (h : xs[i.toNat]? = some v) : atI xs i = some v := by
  obtain ⟨k, rfl⟩ : ∃ k : Nat, i = (k : Int) := ⟨i.toNat, by omega⟩
  exact atI_nat (by simpa using h)
def signs : List Str := abc.cps.toList.map fun c => ⟨#[c]⟩
theorem signs_nd : signs.Nodup := by decide +kernel
theorem signs_len : signs.length = 26 := by decide +kernel
theorem signs_nm : signs.all isNm = true := by decide +kernel
/-- used at u: the texts ws, fewer than the letters -/
def spName (K : S.Frag) : Sp := Sp2 fun x y H Q _ => ∃ (a u : Addr) (n : Int) (ws : List Str), x = .ref a ∧ y = .ref u ∧ a ≠ u ∧ H a = some (.lst [.int n]) ∧ H u = some (.lst (ws.map V.str)) ∧ ws.length < 26 ∧
  ∀ z H', isNm z = true → z ∉ ws → Dr a H H' → Q (.str z) H'
end
end W

namespace W
open PySem PySem.Spec PyProof.Rows L2
section
variable {P : Program} {w : World} {K : S.Frag} {mg : Str → Option Value} {base : Heap}
open S
/-! the law's pool of draws -/
/-- the heap but for the pool -/
def cH (p g : Addr) (H : Hp) : Hp := fun b => if b = p ∨ b = g then none else H b
section
variable {p g b : Addr} {H H' : Hp} {o : HO}
theorem cH_sub : Same (cH p g H) H := fun b o h => by
  unfold cH at h
  split at h
  · cases h
  · exact h
theorem cH_of (h : H b = some o) (n1 : b ≠ p) (n2 : b ≠ g) : cH p g H b = some o := by
  unfold cH
  rw [if_neg (by rintro (e | e) <;> contradiction)]
  exact h
theorem cH_ne (h : cH p g H b = some o) : b ≠ p ∧ b ≠ g := by
  unfold cH at h
  split at h
  · cases h
  · rename_i n
    exact ⟨fun e => n (.inl e), fun e => n (.inr e)⟩
theorem cH_none (h : H b = none) : cH p g H b = none := by
  unfold cH
  split
  · rfl
  · exact h
theorem cH_same (s : Same H H') : Same (cH p g H) (cH p g H') := fun b o h => by
  obtain ⟨n1, n2⟩ := cH_ne h
  exact cH_of (s _ _ (cH_sub _ _ h)) n1 n2
theorem cH_put1 : cH p g (upd H p o) = cH p g H := by
  funext b
  unfold cH
  by_cases c : b = p ∨ b = g
  · rw [if_pos c, if_pos c]
  · rw [if_neg c, if_neg c, upd_ne (fun e => c (.inl e))]
theorem cH_put2 : cH p g (upd H g o) = cH p g H := by
  funext b
  unfold cH
  by_cases c : b = p ∨ b = g
  · rw [if_pos c, if_pos c]
  · rw [if_neg c, if_neg c, upd_ne (fun e => c (.inr e))]
theorem cH_upd {q : Addr} (n1 : q ≠ p) (n2 : q ≠ g) : cH p g (upd H q o) = upd (cH p g H) q o := by
  funext b
  by_cases e : b = q
  · subst e
    rw [upd_same, cH_of upd_same n1 n2]
  · rw [upd_ne e]
    unfold cH
    split
    · rfl
    · rw [upd_ne e]
end
structure PoolAt (H : Hp) (p g : Addr) : Prop where
  ne : p ≠ g
  ex : ∃ (gs : List Int) (s c : Int), H p = some (.lst [.ref g, .int s, .int c]) ∧ H g = some (.lst (gs.map V.int))
theorem PoolAt.same {H H' : Hp} {p g : Addr} (h : PoolAt H p g) (s : Same H H') : PoolAt H' p g := let ⟨gs, a, c, h1, h2⟩ := h.ex; ⟨h.ne, gs, a, c, s _ _ h1, s _ _ h2⟩
theorem PoolAt.nep {H : Hp} {p g q : Addr} (h : PoolAt H p g) (n : H q = none) : q ≠ p ∧ q ≠ g := let ⟨_, _, _, h1, h2⟩ := h.ex; ⟨(ne_of_none h1 n).symm, (ne_of_none h2 n).symm⟩
theorem PoolAt.new {H : Hp} {p g q : Addr} {o : HO} (h : PoolAt H p g) (n : H q = none) : cH p g (upd H q o) q = some o := cH_of upd_same (h.nep n).1 (h.nep n).2
theorem PoolAt.upd {H H0 : Hp} {p g q : Addr} {o : HO} (h : PoolAt H p g) (n : H0 q = none) (h0 : PoolAt H0 p g) : PoolAt (L2.upd H q o) p g := by
  obtain ⟨n1, n2⟩ := h0.nep n
  obtain ⟨gs, a, c, h1, h2⟩ := h.ex
  exact ⟨h.ne, gs, a, c, by rw [upd_ne n1.symm]; exact h1, by rw [upd_ne n2.symm]; exact h2⟩
theorem pool_free {H : Hp} {p g q : Addr} {J : Hp} (h : PoolAt J p g) (s : Same (cH p g H) (cH p g J)) (n : J q = none) : H q = none := by
  have nq := h.nep n
  have f := s.free (cH_none (p := p) (g := g) n)
  unfold cH at f
  rw [if_neg (fun h => h.elim nq.1 nq.2)] at f
  exact f
theorem poolI {xs : List Int} {x : Int} : atI ((xs ++ [x]).map V.int) (-1) = some (.int x) := by
  unfold atI ixN
  rw [if_neg (by decide), if_pos (by simp; omega)]
  show ((xs ++ [x]).map V.int)[((-1 : Int) + (((xs ++ [x]).map V.int).length : Int)).toNat]? = _
  rw [show ((-1 : Int) + (((xs ++ [x]).map V.int).length : Int)).toNat = xs.length by simp; omega, List.map_append, List.getElem?_append_right (by simp)]
  simp
theorem poolN {α : Type} {xs : List α} {x : α} : ixN (xs ++ [x]).length (-1) = some xs.length := by
  unfold ixN
  rw [if_neg (by decide), if_pos (by simp; omega)]
  congr 1
  simp
  omega
theorem iteAB {c A B : Prop} [Decidable c] (a : A) (b : B) : if c then A else B := by
  split
  · exact a
  · exact b
def spPool (K : S.Frag) : Sp := Sp1 fun x H Q _ => ∃ (a : Addr) (ns : List Int), x = .ref a ∧ SqL K H a (ns.map V.int) ∧ ns.length ≤ 63 ∧ ∀ p g H', Same H H' → H p = none → H g = none → PoolAt H' p g → Q (.ref p) H'
theorem ok__law_pool (T : Txt K mg) : FnOk P w K mg base (L2.CX P w) 1 (He.fAd K ("_law_pool", none)) (S.fdA K ("_law_pool", none)) ["_law_script"] (spPool K) := by
  refine FunD.ok T.F__law_pool sc__law_pool (fun vs H Q E h => S.splen1 h) (fun cdv A outer s H vs Q E hr h => ?_)
  have hu := hu_of hr
  refine ⟨_, (pss_cons (ps_set (i := 1) sc__law_pool.nd rfl (by first | exact Or.inl rfl | exact Or.inr rfl) pe_int)
      (pss_cons (ps_set (i := 2) sc__law_pool.nd rfl (by first | exact Or.inl rfl | exact Or.inr rfl) (pe_lst pa_nil))
      (pss_cons (ps_for (S.own_of rfl) rfl (S.pi_listK (K := K) rfl (pe_slice (S.slLK (K := K) rfl) (pv 0) po_none (po_some pe_int))) (pg_name (i := 3) sc__law_pool.nd rfl (by first | exact Or.inl rfl | exact Or.inr rfl))
        (pss_cons (ps_set (i := 4) sc__law_pool.nd rfl (by first | exact Or.inl rfl | exact Or.inr rfl) (pe_op S.op_mulA pe_int (pv 3)))
      (S.pss_cut (ps_if (pt_cmpR op_lt (pv 3) pe_int (nomark _)) (pss_one (ps_set (i := 4) sc__law_pool.nd rfl (by first | exact Or.inl rfl | exact Or.inr rfl) (pe_op op_sub (pe_op S.op_mulA (pe_un un_neg pe_int) (pv 3)) pe_int))) pss_nil)
      (pss_cons (ps_set (i := 1) sc__law_pool.nd rfl (by first | exact Or.inl rfl | exact Or.inr rfl) (pe_op op_mod (pe_callTy call_int1 rfl T.n_int S.boot_int (pa_cons (pe_op op_add (pe_op op_add (pe_op S.op_mulA (pv 1) pe_int) (pv 4)) pe_int) pa_nil)) pe_int))
      (pss_one (ps_if (pt_cmpR op_ge (pv 4) (pe_op op_pow pe_int pe_int) (nomark _)) (pss_one (ps_expr (pe_bm PySem.F.plainAttrs_list PySem.F.slot_list_append PySem.F.type_list_append mt_append (pv 2) (pa_cons (pv 4) pa_nil)))) pss_nil))))))
      (pss_one (ps_ret (pe_lst (pa_cons (S.pe_revK (K := K) rfl (pv 2)) (pa_cons (pv 1) (pa_cons pe_int pa_nil))))))))), ?_⟩
  obtain ⟨_, rfl, a, ns, rfl, hS, hl, q⟩ := h
  refine ⟨by show 0 ≤ sizeLine; decide, fun G hG => ?_⟩
  have sG := Same.new (o := .lst []) hG
  refine ⟨_, rfl, _, rfl, a, _, rfl, sqL_same hS sG, fun c hc => ?_⟩
  have sc := Same.new (o := .lst (cutV (ns.map V.int) none (some 63))) hc
  have mem : ∀ v ∈ cutV (ns.map V.int) none (some 63), ∃ i, v = .int i := fun v hv => by
    obtain ⟨i, _, rfl⟩ := List.mem_map.mp (show v ∈ ns.map V.int from List.mem_of_mem_drop (List.mem_of_mem_take hv))
    exact ⟨i, rfl⟩
  have lc : (cutV (ns.map V.int) none (some 63)).length ≤ 63 := Nat.le_trans (cutV_length _ _ _) (by rw [List.length_map]; exact hl)
  have eG0 : upd (upd H G (.lst [])) c (.lst (cutV (ns.map V.int) none (some 63))) G = some (.lst []) := sc _ _ upd_same
  have ec0 : upd (upd H G (.lst [])) c (.lst (cutV (ns.map V.int) none (some 63))) c = some (.lst (cutV (ns.map V.int) none (some 63))) := upd_same
  have nGc : G ≠ c := ne_of_none upd_same hc
  have s1 := sG.trans sc
  generalize upd (upd H G (.lst [])) c (.lst (cutV (ns.map V.int) none (some 63))) = J0 at sc eG0 ec0 s1
  generalize cutV (ns.map V.int) none (some 63) = xs at mem lc ec0
  refine ⟨c, rfl, ⟨_, .inl (.inl ec0)⟩, for_list (xs := xs) (fun i σ J => Same H J ∧ J c = some (.lst xs) ∧ ∃ (s : Int) (gs : List Int) (v3 v4 : Option V), J G = some (.lst (gs.map V.int)) ∧ gs.length ≤ i ∧ σ = [some (.ref a), some (.int s), some (.ref G), v3, v4]) ⟨s1, ec0, 1, [], _, _, eG0, Nat.le_refl _, rfl⟩ (fun i σ J _ h => .inl (.inl h.2.1)) ?_ ?_⟩
  · rintro i x σ J hx ⟨sJ, ec, s, gs, v3, v4, eG, lg, rfl⟩
    obtain ⟨z, rfl⟩ := mem x (List.mem_of_getElem? hx)
    have il := (List.getElem?_eq_some_iff.mp hx).1
    refine ⟨_, rfl, _, _, rfl, rfl, mul_smallL (by decide), ?_⟩
    refine ⟨fun σ J' => J' = J ∧ ∃ k : Int, σ = [some (.ref a), some (.int s), some (.ref G), some (.int z), some (.int k)], ?_, ?_⟩
    · refine ⟨_, rfl, _, _, rfl, rfl, _, rfl, iteAB ?_ ⟨rfl, _, rfl⟩⟩
      exact ⟨2, rfl, _, rfl, _, _, rfl, rfl, mul_smallL (by decide), _, _, rfl, rfl, rfl, _, rfl⟩
    rintro σ J' ⟨rfl, k, rfl⟩
    refine ⟨_, rfl, _, _, rfl, rfl, mul_small (by decide), _, rfl, _, _, rfl, rfl, _, _, rfl, rfl, .inl ⟨_, rfl, _, _, rfl, rfl, (by show (0 : Int) < 2147483647; decide), ?_⟩⟩
    refine ⟨_, rfl, _, _, rfl, rfl, ⟨by decide, by decide, by decide⟩, _, _, rfl, rfl, _, rfl, iteAB ?_ ?_⟩
    · refine ⟨_, rfl, .inl ⟨rfl, _, .inl (.inl eG)⟩, _, rfl, G, _, _, rfl, rfl, eG, by rw [List.length_map]; exact Nat.lt_of_le_of_lt (show gs.length ≤ 100 by omega) (by decide), ?_⟩
      exact ⟨Same.upd sJ hG, by rw [upd_ne nGc.symm]; exact ec, _, gs ++ [k], _, _, by rw [upd_same, List.map_append]; rfl, by simp; omega, rfl⟩
    · exact ⟨sJ, ec, _, gs, _, _, eG, by omega, rfl⟩
  · rintro σ J ⟨sJ, ec, s, gs, v3, v4, eG, lg, rfl⟩
    refine ⟨_, rfl, G, _, rfl, .inl (.inl eG), fun g hg => ⟨_, rfl, by show 3 ≤ sizeLine; decide, fun p hp => ?_⟩⟩
    have sg := Same.new (o := .lst (gs.map V.int).reverse) hg
    have sp := Same.new (o := .lst [.ref g, .int s, .int 0]) hp
    refine q p g _ ((sJ.trans sg).trans sp) ((sJ.trans sg).free hp) (sJ.free hg) ⟨(ne_of_none upd_same hp).symm, gs.reverse, s, 0, upd_same, ?_⟩
    rw [sp _ _ upd_same, List.map_reverse]
def spTakeP (K : S.Frag) : Sp := Sp2 fun x y H Q _ => ∃ (p g : Addr) (m : Int), x = .ref p ∧ PoolAt H p g ∧ y = .int m ∧ 0 < m ∧ m < 2 ^ 200 ∧ ∀ t H', 0 ≤ t → t < m → PoolAt H' p g → cH p g H' = cH p g H → Q (.int t) H'
theorem div_big {i j : Int} (h : 0 < j) (h2 : j < 2 ^ 200) : CDivW i j := wide_div (b := 200) h (by omega) (by decide) (by decide)
theorem ok__law_take (T : Txt K mg) : FnOk P w K mg base (L2.CX P w) 1 (He.fAd K ("_law_take", none)) (S.fdA K ("_law_take", none)) ["_law_pool_here", "_law_many"] ((spTakeP K)) := by
  refine FunD.ok T.F__law_take sc__law_take (fun vs H Q E h => S.splen2 h) (fun cdv A outer s H vs Q E hr h => ?_)
  have hu := hu_of hr
  refine ⟨_, (pss_cons (ps_set (i := 2) sc__law_take.nd rfl (by first | exact Or.inl rfl | exact Or.inr rfl) (pe_ix (S.ixK (K := K) rfl) (pv 0) pe_int (fun _ _ => rfl)))
      (pss_cons (ps_while (S.own_of rfl) (PW.pt (pw_and (pt_cmpR op_gt (pe_callB (S.lenK (K := K) rfl) rfl T.n_len S.boot_len (pa_cons (pv 2) pa_nil)) pe_int (nomark _)) (pw_and1 (pt_cmpR op_eq (pe_ix (S.ixK (K := K) rfl) (pv 2) (pe_un un_neg pe_int) (fun _ _ => rfl)) pe_int (nomark _)))))
        (pss_one (ps_expr (pe_bm0 PySem.F.plainAttrs_list PySem.F.slot_list_pop PySem.F.type_list_pop mt_pop (pv 2) ))))
      (pss_cons (ps_if (pt_cmpR op_gt (pe_callB (S.lenK (K := K) rfl) rfl T.n_len S.boot_len (pa_cons (pv 2) pa_nil)) pe_int (nomark _)) (pss_cons (ps_set (i := 3) sc__law_take.nd rfl (by first | exact Or.inl rfl | exact Or.inr rfl) (pe_op op_mod (pe_callTy call_int1 rfl T.n_int S.boot_int (pa_cons (pe_ix (S.ixK (K := K) rfl) (pv 2) (pe_un un_neg pe_int) (fun _ _ => rfl)) pa_nil)) (pv 1)))
      (pss_cons (ps_asg (pe_op op_fdivW (pe_callTy call_int1 rfl T.n_int S.boot_int (pa_cons (pe_ix (S.ixK (K := K) rfl) (pv 2) (pe_un un_neg pe_int) (fun _ _ => rfl)) pa_nil)) (pv 1)) (pg_sub (pv 2) (pe_un un_neg pe_int) set_list))
      (pss_one (ps_ret (pv 3))))) pss_nil)
      (pss_cons (ps_asg (pe_op op_add (pe_ix (S.ixK (K := K) rfl) (pv 0) pe_int (fun _ _ => rfl)) pe_int) (pg_sub (pv 0) pe_int set_list))
      (pss_cons (ps_set (i := 4) sc__law_take.nd rfl (by first | exact Or.inl rfl | exact Or.inr rfl) (pe_op op_mod (pe_op S.op_mulA (pe_callTy call_int1 rfl T.n_int S.boot_int (pa_cons (pe_op op_add (pe_ix (S.ixK (K := K) rfl) (pv 0) pe_int (fun _ _ => rfl)) (pe_op S.op_mulA pe_int (pe_ix (S.ixK (K := K) rfl) (pv 0) pe_int (fun _ _ => rfl)))) pa_nil)) pe_int) pe_int))
      (pss_cons (ps_set (i := 4) sc__law_take.nd rfl (by first | exact Or.inl rfl | exact Or.inr rfl) (pe_op op_mod (pe_callTy call_int1 rfl T.n_int S.boot_int (pa_cons (pe_op S.op_mulA (pv 4) (pe_op op_add (pe_op op_fdivW (pv 4) pe_int) pe_int)) pa_nil)) pe_int))
      (pss_cons (ps_set (i := 4) sc__law_take.nd rfl (by first | exact Or.inl rfl | exact Or.inr rfl) (pe_op op_mod (pe_callTy call_int1 rfl T.n_int S.boot_int (pa_cons (pe_op S.op_mulA (pv 4) (pe_op op_add (pe_op op_fdivW (pv 4) pe_int) pe_int)) pa_nil)) pe_int))
      (pss_one (ps_ret (pe_op op_mod (pe_op op_fdivW (pv 4) pe_int) (pv 1))))))))))), ?_⟩
  obtain ⟨_, _, rfl, p, g, m, rfl, ⟨npg, gs0, s, c, hp, hg⟩, rfl, m0, m1, q⟩ := h
  refine ⟨_, rfl, ix3 hp rfl ?_⟩
  refine ⟨fun k σ J => ∃ gs : List Int, gs.length = k ∧ J g = some (.lst (gs.map V.int)) ∧ J p = some (.lst [.ref g, .int s, .int c]) ∧ cH p g J = cH p g H ∧ σ = [some (.ref p), some (.int m), some (.ref g), none, none], ⟨gs0.length, gs0, rfl, hg, hp, rfl, rfl⟩, ?_⟩
  rintro k σ J ⟨gs, lk, eg, ep, ec, rfl⟩
  have tail : gs = [] ∨ (∃ L x, gs = L ++ [x]) := by simpa [List.concat_eq_append] using List.eq_nil_or_concat gs
  -- behind the loop
  have rest : ∀ (R : VK), (∀ t H', 0 ≤ t → t < m → PoolAt H' p g → cH p g H' = cH p g H → R (.int t) H') → True := fun _ _ => trivial
  refine ⟨_, rfl, _, _, rfl, lenVX (.inl (.inl (.inl eg))), _, _, rfl, rfl, _, rfl, ?_⟩
  have fin : ∀ t H', 0 ≤ t → t < m → (∃ (gs' : List Int) (s' c' : Int), H' p = some (.lst [.ref g, .int s', .int c']) ∧ H' g = some (.lst (gs'.map V.int))) → cH p g H' = cH p g H → Q (.int t) H' := fun t H' t0 t1 h e => q t H' t0 t1 ⟨npg, h⟩ e
  rcases tail with rfl | ⟨L, x, rfl⟩
  · refine iteN (by simp) ⟨_, rfl, _, _, rfl, lenVX (.inl (.inl (.inl eg))), _, _, rfl, rfl, _, rfl, iteN (by simp) ?_⟩
    refine ⟨_, rfl, ix3 ep rfl ⟨_, _, rfl, rfl, _, rfl, p, _, 2, 2, rfl, rfl, ep, rfl, ?_⟩⟩
    have ep2 : upd J p (.lst [.ref g, .int s, .int (c + 1)]) p = some (.lst [.ref g, .int s, .int (c + 1)]) := upd_same
    have eg2 : upd J p (.lst [.ref g, .int s, .int (c + 1)]) g = some (.lst (([] : List Int).map V.int)) := by rw [upd_ne npg.symm]; exact eg
    refine ⟨_, rfl, ix3 ep2 rfl ⟨_, rfl, ix3 ep2 rfl ⟨_, _, rfl, rfl, mul_smallL (by decide), _, _, rfl, rfl, .inl ⟨_, rfl, _, _, rfl, rfl, mul_small (by decide), _, _, rfl, rfl, (by show (0 : Int) < 2147483647; decide), ?_⟩⟩⟩⟩
    refine ⟨_, rfl, _, rfl, _, _, rfl, rfl, div_small (by decide) (by decide), _, _, rfl, rfl, _, _, rfl, rfl, mul_smallL (mod_small _ (by decide) (by decide)), .inl ⟨_, rfl, _, _, rfl, rfl, (by show (0 : Int) < 2147483647; decide), ?_⟩⟩
    refine ⟨_, rfl, _, rfl, _, _, rfl, rfl, div_small (by decide) (by decide), _, _, rfl, rfl, _, _, rfl, rfl, mul_smallL (mod_small _ (by decide) (by decide)), .inl ⟨_, rfl, _, _, rfl, rfl, (by show (0 : Int) < 2147483399; decide), ?_⟩⟩
    refine ⟨_, rfl, _, _, rfl, rfl, div_small (by decide) (by decide), _, rfl, _, _, rfl, rfl, m0, fin _ _ (mod_lo _ m0) (mod_hi _ m0) ⟨[], s, c + 1, ep2, eg2⟩ ?_⟩
    rw [cH_put1]
    exact ec
  · have lx : ((L ++ [x]).map V.int).length = L.length + 1 := by simp
    refine iteY (by rw [lx]; simp <;> omega) ⟨_, rfl, 1, rfl, ix3 eg poolI ⟨rfl, _, rfl, ?_⟩⟩
    by_cases c0 : x = 0
    · refine iteY (by simp [c0]) ⟨fun σ J' => cH p g J' = cH p g H ∧ J' g = some (.lst (L.map V.int)) ∧ J' p = some (.lst [.ref g, .int s, .int c]) ∧ σ = [some (.ref p), some (.int m), some (.ref g), none, none], fun σ J' h => ⟨L.length, by simp at lk; omega, L, rfl, h.2.1, h.2.2.1, h.1, h.2.2.2⟩, ?_⟩
      refine ⟨_, rfl, .inl ⟨rfl, _, .inl (.inl eg)⟩, g, _, V.int x, rfl, rfl, eg, by rw [lx, List.map_append, List.getElem?_append_right (by simp)]; simp, by rw [cH_put2]; exact ec, ?_, by rw [upd_ne npg]; exact ep, rfl⟩
      rw [upd_same, List.map_append]
      simp
    · refine iteN (by simpa using c0) ⟨_, rfl, _, _, rfl, lenVX (.inl (.inl (.inl eg))), _, _, rfl, rfl, _, rfl, iteY (by rw [lx]; simp <;> omega) ?_⟩
      refine ⟨_, rfl, 1, rfl, ix3 eg poolI (.inl ⟨_, rfl, _, rfl, _, _, rfl, rfl, m0, ?_⟩)⟩
      refine ⟨_, rfl, 1, rfl, ix3 eg poolI (.inl ⟨_, rfl, _, rfl, _, _, rfl, rfl, div_big m0 m1, _, rfl, 1, rfl, g, _, -1, _, rfl, rfl, eg, by rw [List.map_append]; exact poolN, ?_⟩)⟩
      refine ⟨_, rfl, fin _ _ (mod_lo _ m0) (mod_hi _ m0) ?_ (by rw [cH_put2]; exact ec)⟩
      refine ⟨L ++ [x / m], s, c, by rw [upd_ne npg]; exact ep, ?_⟩
      rw [upd_same, List.map_append, List.map_append, List.set_append_right _ _ (Nat.le_refl _)]
      simp
end
end W

namespace W
open PySem PySem.Spec PyProof.Rows L2
section
variable {P : Program} {w : World} {K : S.Frag} {mg : Str → Option Value} {base : Heap}
open S
/-! plain law of lowest terms -/
def gI (a b : Int) : Int := ((Nat.gcd a.natAbs b.natAbs : Nat) : Int)
def loT (t b : Int) : Int := (if b < 0 then -t else t) / gI t b
def loB (t b : Int) : Int := (if b < 0 then -b else b) / gI t b
theorem gI_pos {t b : Int} (h : b ≠ 0) : 0 < gI t b := by
  have : 0 < Nat.gcd t.natAbs b.natAbs := Nat.gcd_pos_of_pos_right _ (by omega)
  unfold gI
  omega
theorem gI_le {t b : Int} (h : b ≠ 0) : (gI t b).natAbs ≤ b.natAbs := by
  have : Nat.gcd t.natAbs b.natAbs ≤ b.natAbs := Nat.gcd_le_right _ (by omega)
  unfold gI
  omega
theorem gI_dT (t b : Int) : gI t b ∣ (if b < 0 then -t else t) := by
  have h : gI t b ∣ t := Int.ofNat_dvd_left.mpr (Nat.gcd_dvd_left _ _)
  split
  · exact Int.dvd_neg.mpr h
  · exact h
theorem gI_dB (t b : Int) : gI t b ∣ (if b < 0 then -b else b) := by
  have h : gI t b ∣ b := Int.ofNat_dvd_left.mpr (Nat.gcd_dvd_right _ _)
  split
  · exact Int.dvd_neg.mpr h
  · exact h
theorem lo_eT {t b : Int} : loT t b * gI t b = if b < 0 then -t else t := Int.ediv_mul_cancel (gI_dT t b)
theorem lo_eB {t b : Int} : loB t b * gI t b = if b < 0 then -b else b := Int.ediv_mul_cancel (gI_dB t b)
theorem loB_pos {t b : Int} (h : b ≠ 0) : 0 < loB t b := by
  have g := gI_pos (t := t) h
  have e := lo_eB (t := t) (b := b)
  have p : 0 < (if b < 0 then -b else b) := by split <;> omega
  rw [← e] at p
  exact Int.pos_of_mul_pos_left p g
theorem lo_same {t b : Int} (h : b ≠ 0) : loT t b * b = t * loB t b := by
  have g := gI_pos (t := t) h
  have e1 := lo_eT (t := t) (b := b)
  have e2 := lo_eB (t := t) (b := b)
  refine Int.eq_of_mul_eq_mul_right (Int.ne_of_gt g) ?_
  rw [Int.mul_right_comm, e1, Int.mul_assoc, e2]
  split
  · rw [Int.neg_mul, Int.mul_neg]
  · rfl
theorem lo_one {t b : Int} (h : b ≠ 0) : gI (loT t b) (loB t b) = 1 := by
  have e1 : (loT t b).natAbs * Nat.gcd t.natAbs b.natAbs = t.natAbs := by
    have := congrArg Int.natAbs (lo_eT (t := t) (b := b))
    rw [Int.natAbs_mul] at this
    refine this.trans ?_
    split
    · exact Int.natAbs_neg t
    · rfl
  have e2 : (loB t b).natAbs * Nat.gcd t.natAbs b.natAbs = b.natAbs := by
    have := congrArg Int.natAbs (lo_eB (t := t) (b := b))
    rw [Int.natAbs_mul] at this
    refine this.trans ?_
    split
    · exact Int.natAbs_neg b
    · rfl
  have gp : 0 < Nat.gcd t.natAbs b.natAbs := Nat.gcd_pos_of_pos_right _ (by omega)
  have e3 : Nat.gcd (loT t b).natAbs (loB t b).natAbs * Nat.gcd t.natAbs b.natAbs = 1 * Nat.gcd t.natAbs b.natAbs := by
    rw [← Nat.gcd_mul_right, e1, e2, Nat.one_mul]
  have := Nat.eq_of_mul_eq_mul_right gp e3
  unfold gI
  rw [this]
  rfl
theorem lo_leT {t b : Int} (h : b ≠ 0) : (loT t b).natAbs ≤ t.natAbs := by
  have g := gI_pos (t := t) h
  have := congrArg Int.natAbs (lo_eT (t := t) (b := b))
  rw [Int.natAbs_mul] at this
  have e : (if b < 0 then -t else t).natAbs = t.natAbs := by split <;> omega
  rw [← e, ← this]
  exact Nat.le_mul_of_pos_right _ (by omega)
theorem lo_leB {t b : Int} (h : b ≠ 0) : (loB t b).natAbs ≤ b.natAbs := by
  have g := gI_pos (t := t) h
  have := congrArg Int.natAbs (lo_eB (t := t) (b := b))
  rw [Int.natAbs_mul] at this
  have e : (if b < 0 then -b else b).natAbs = b.natAbs := by split <;> omega
  rw [← e, ← this]
  exact Nat.le_mul_of_pos_right _ (by omega)
theorem gI_one (t : Int) : gI t 1 = 1 := by
  unfold gI
  rw [show (1 : Int).natAbs = 1 from rfl, Nat.gcd_one_right]
  rfl
theorem loT_1 (t : Int) : loT t 1 = t := by
  unfold loT
  rw [gI_one, if_neg (by decide), Int.ediv_one]
theorem loB_1 (t : Int) : loB t 1 = 1 := by
  unfold loB
  rw [gI_one]
  decide
/-! the walk -/
theorem ok_BadShare___init__ (T : Txt K mg) : FnOk P w K mg base (L2.CX P w) 1 (He.fAd K ("BadShare", some "__init__")) (S.fdA K ("BadShare", some "__init__")) ["self", "part"] (sp_err (He.ga K "BadShare") "part") := by
  refine FunD.ok T.F_BadShare___init__ sc_BadShare___init__ (fun vs H Q E h => S.splen2 h) (fun cdv A outer s H vs Q E hr h => ?_)
  have hu := hu_of hr
  refine ⟨_, (pss_one (S.ps_ostK (K := K) rfl (pv 0) (pv 1) rfl)), ?_⟩
  obtain ⟨_, y, rfl, a, rfl, ha, k⟩ := h
  exact ⟨_, rfl, _, rfl, a, _, rfl, T.ox_BadShare, T.xn_BadShare_part, .inl ⟨ha, k⟩⟩
def spGcd : Sp := Sp2 fun x y H Q _ => ∃ a b : Int, x = .int a ∧ y = .int b ∧ 0 ≤ a ∧ 0 ≤ b ∧ Q (.int (gI a b)) H
theorem ok_common_divisor (T : Txt K mg) : FnOk P w K mg base (L2.CX P w) 1 (He.fAd K ("common_divisor", none)) (S.fdA K ("common_divisor", none)) ["first", "second"] (spGcd) := by
  refine FunD.ok T.F_common_divisor sc_common_divisor (fun vs H Q E h => S.splen2 h) (fun cdv A outer s H vs Q E hr h => ?_)
  have hu := hu_of hr
  refine ⟨_, (pss_cons (ps_while (S.own_of rfl) (pt_cmpR op_gt (pv 1) pe_int (nomark _))
        (pss_one (ps_par (i := 0) (j := 1) rfl sc_common_divisor.nd rfl rfl (by decide) rfl rfl (pa_cons (pv 1) (pa_cons (pe_op op_mod (pv 0) (pv 1)) pa_nil)) rfl)))
      (pss_one (ps_ret (pv 0)))), ?_⟩
  obtain ⟨_, _, rfl, a, b, rfl, rfl, ha, hb, q⟩ := h
  refine while_by (fun σ J => J = H ∧ ∃ m n : Nat, Nat.gcd m n = Nat.gcd a.natAbs b.natAbs ∧ σ = [some (.int (m : Int)), some (.int (n : Int))]) (fun σ J => match σ with | [_, some (.int n)] => n.natAbs | _ => 0) ⟨rfl, a.natAbs, b.natAbs, rfl, by rw [Int.natAbs_of_nonneg ha, Int.natAbs_of_nonneg hb]; rfl⟩ ?_ ?_
  · rintro σ J ⟨rfl, m, n, e, rfl⟩
    refine ⟨_, rfl, _, _, rfl, rfl, _, rfl, ?_⟩
    by_cases hn : 0 < n
    · refine iteY (by simpa using hn) ⟨_, rfl, _, rfl, _, rfl, _, _, rfl, rfl, (by omega : (0 : Int) < (n : Int)), _, _, rfl, ⟨rfl, n, m % n, ?_, rfl⟩, ?_⟩
      · rw [Nat.gcd_comm n, ← e, Nat.gcd_comm m n, Nat.gcd_rec n m]
      · exact Nat.mod_lt m hn
    · obtain rfl : n = 0 := by omega
      refine iteN (by simp) ⟨_, rfl, ?_⟩
      rw [Nat.gcd_zero_right] at e
      rw [e]
      exact q
  · exact fun σ J Q Q' k h => by
      obtain ⟨x, hx, y, z, e1, e2, b, hb, h⟩ := h
      exact ⟨x, hx, y, z, e1, e2, b, hb, k _ _ h⟩
def ShAt (K : S.Frag) (H : Hp) (a : Addr) (t b : Int) : Prop := ∃ dx vs, SlX.Slt H a (He.ga K "Share") dx vs ∧ vs[1]? = some (some (.int t)) ∧ vs[0]? = some (some (.int b))
theorem ShAt.same {H H' : Hp} {a : Addr} {t b : Int} (h : ShAt K H a t b) (s : Same H H') : ShAt K H' a t b := by
  obtain ⟨dx, vs, h, h1, h2⟩ := h
  refine ⟨dx, vs, ?_, h1, h2⟩
  rcases h with ⟨x, y⟩ | ⟨x, y⟩
  · exact .inl ⟨s _ _ x, y⟩
  · exact .inr ⟨s _ _ x, s _ _ y⟩
def intV : V → Int
  | .int i => i
  | _ => 0
/-- what is wrong with a top and a bottom, or "" -/
def dueS (t b : V) : Str := if !isInt t then "top" else if !isInt b || decide (intV b = 0) then "bottom" else ""
def bigV (x : V) : Prop := (intV x).natAbs < 2 ^ 4000
def spShare (K : S.Frag) : Sp := Sp3 fun self t b H Q E => ∃ p dx, self = .ref p ∧ H p = some (.ins (He.ga K "Share") dx []) ∧ dx ≠ p ∧ Od H t ∧ Od H b ∧ bigV t ∧ bigV b ∧
  (dueS t b = "" → ∀ H', (∀ c o, H c = some o → c ≠ p → c ≠ dx → H' c = some o) → ShAt K H' p (loT (intV t) (intV b)) (loB (intV t) (intV b)) → Q .non H') ∧
  (dueS t b ≠ "" → ∀ d H', H d = none → Same H H' → H' d = some (.xd [("part", .str (dueS t b))]) → E (.ref (He.ga K "BadShare")) (some d) H')
theorem ok_Share___init__ (T : Txt K mg) : FnOk P w K mg base (L2.CX P w) 3 (He.fAd K ("Share", some "__init__")) (S.fdA K ("Share", some "__init__")) ["self", "top", "bottom"] (spShare K) := by
  have G_is_integer := ok_is_integer (P := P) (w := w) (base := base) T
  have G_BadShare___init__ := ok_BadShare___init__ (P := P) (w := w) (base := base) T
  have G_common_divisor := ok_common_divisor (P := P) (w := w) (base := base) T
  refine FunD.ok T.F_Share___init__ sc_Share___init__ (fun vs H Q E h => S.splen3 h) (fun cdv A outer s H vs Q E hr h => ?_)
  have hu := hu_of hr
  refine ⟨_, (pss_cons (ps_if (pt_not (pt_val (S.pe_fnS G_is_integer (hr.mono (by decide)) rfl T.g_is_integer T.F_is_integer.kp (kb_is_integer_1 T) S.pas0 (pa_cons (pv 1) pa_nil) pk_nil rfl rfl))) (pss_one (S.ps_raiseO rfl (takes_of rfl rfl rfl rfl) T.ox_BadShare T.xi_BadShare T.xt_BadShare G_BadShare___init__ (hr.mono (by decide)) (kb_BadShare___init___2 T) rfl T.g_BadShare (pa_cons pe_str pa_nil))) pss_nil)
      (pss_cons (ps_if (PW.pt (pw_or (pt_not (pt_val (S.pe_fnS G_is_integer (hr.mono (by decide)) rfl T.g_is_integer T.F_is_integer.kp (kb_is_integer_1 T) S.pas0 (pa_cons (pv 2) pa_nil) pk_nil rfl rfl))) (pw_or1 (pt_cmpR op_eq (pv 2) pe_int (nomark _))))) (pss_one (S.ps_raiseO rfl (takes_of rfl rfl rfl rfl) T.ox_BadShare T.xi_BadShare T.xt_BadShare G_BadShare___init__ (hr.mono (by decide)) (kb_BadShare___init___2 T) rfl T.g_BadShare (pa_cons pe_str pa_nil))) pss_nil)
      (S.pss_cut (ps_if (pt_cmpR op_lt (pv 2) pe_int (nomark _)) (pss_one (ps_par (i := 1) (j := 2) rfl sc_Share___init__.nd rfl rfl (by decide) rfl rfl (pa_cons (pe_un un_neg (pv 1)) (pa_cons (pe_un un_neg (pv 2)) pa_nil)) rfl)) pss_nil)
      (pss_cons (ps_set (i := 3) sc_Share___init__.nd rfl (by first | exact Or.inl rfl | exact Or.inr rfl) (S.pe_fnS G_common_divisor (hr.mono (by decide)) rfl T.g_common_divisor T.F_common_divisor.kp (kb_common_divisor_2 T) S.pas0 (pa_cons (pe_callB call_abs rfl T.n_abs S.boot_abs (pa_cons (pv 1) pa_nil)) (pa_cons (pv 2) pa_nil)) pk_nil rfl rfl))
      (pss_cons (S.ps_slK (K := K) rfl (pv 0) (pe_op op_fdivW (pv 1) (pv 3)) rfl)
      (pss_one (S.ps_slK (K := K) rfl (pv 0) (pe_op op_fdivW (pv 2) (pv 3)) rfl))))))), ?_⟩
  obtain ⟨_, t, b, rfl, p, dx, rfl, hp, ne, ot, ob, bt, bb, k1, k2⟩ := h
  refine ⟨_, rfl, rfl, rfl, t, rfl, _, ot.isi, _, rfl, ?_⟩
  cases c1 : isInt t with
  | false =>
    have e : dueS t b = "top" := by simp [dueS, c1]
    rw [e] at k2
    exact iteT (raise_err (.str "top") (k2 (by decide +kernel)))
  | true =>
    obtain ⟨i, rfl⟩ := isInt_int c1
    refine iteF ⟨_, rfl, rfl, rfl, _, rfl, _, ob.isi, _, rfl, ?_⟩
    have bad : dueS (.int i) b = "bottom" → _ := fun e => k2 (by rw [e]; decide +kernel)
    cases c2 : isInt b with
    | false =>
      have e : dueS (.int i) b = "bottom" := by simp [dueS, c1, c2]
      have z := bad e
      rw [e] at z
      exact iteT (iteT (raise_err (.str "bottom") z))
    | true =>
      obtain ⟨j, rfl⟩ := isInt_int c2
      refine iteF ⟨_, rfl, rfl, _, rfl, ?_⟩
      by_cases c3 : j = 0
      · have e : dueS (.int i) (.int j) = "bottom" := by simp [dueS, c1, c2, c3, intV]
        have z := bad e
        rw [e] at z
        exact iteY (by simp [c3]) (raise_err (.str "bottom") z)
      · refine iteN (by simp [c3]) ⟨fun τ J => J = H ∧ τ = [some (.ref p), some (.int (if j < 0 then -i else i)), some (.int (if j < 0 then -j else j)), none], ?_, ?_⟩
        · refine ⟨_, rfl, _, _, rfl, rfl, _, rfl, ?_⟩
          by_cases c4 : j < 0
          · exact iteY (by simpa using c4) ⟨_, rfl, _, rfl, _, rfl, _, rfl, _, _, rfl, rfl, by rw [if_pos c4, if_pos c4]; rfl⟩
          · exact iteN (by simpa using c4) ⟨rfl, by rw [if_neg c4, if_neg c4]; rfl⟩
        · rintro τ J ⟨rfl, rfl⟩
          have jp : 0 ≤ (if j < 0 then -j else j) := by split <;> omega
          have g0 : gI (if (if j < 0 then -i else i) < 0 then -(if j < 0 then -i else i) else (if j < 0 then -i else i)) (if j < 0 then -j else j) = gI i j := by
            unfold gI
            have e1 : (if (if j < 0 then -i else i) < 0 then -(if j < 0 then -i else i) else (if j < 0 then -i else i)).natAbs = i.natAbs := by split <;> split <;> omega
            have e2 : (if j < 0 then -j else j).natAbs = j.natAbs := by split <;> omega
            rw [e1, e2]
          have gp := gI_pos (t := i) c3
          have gw : (gI i j).natAbs < 2 ^ 4000 := Nat.lt_of_le_of_lt (gI_le c3) bb
          have cw : ∀ x, CDivW x (gI i j) := fun x => wide_div (b := 4000) gp gw (by decide) (by decide)
          refine ⟨_, rfl, _, rfl, _, rfl, rfl, rfl, _, _, rfl, _, _, rfl, rfl, (by split <;> omega), jp, ?_⟩
          rw [g0]
          refine ⟨_, rfl, _, rfl, _, _, rfl, rfl, cw _, _, rfl, p, _, dx, _, _, 1, rfl, .inl ⟨hp, rfl⟩, T.sc_Share, T.sl_Share_top, ?_⟩
          refine ⟨_, rfl, _, rfl, _, _, rfl, rfl, cw _, _, rfl, p, _, dx, _, _, 0, rfl, SlX.slH_slt ne, T.sc_Share, T.sl_Share_bottom, ?_⟩
          refine k1 (by simp [dueS, isInt, intV, c3]) _ (fun c o hc n1 n2 => ?_) ⟨dx, _, SlX.slH_slt ne, ?_, SlX.putS_get _ _ _⟩
          · rw [SlX.slH_ne n1 n2, SlX.slH_ne n1 n2]
            exact hc
          · exact (SlX.putS_ne (by decide)).mpr (SlX.putS_get _ _ _)
def spFloor (K : S.Frag) : Sp := Sp1 fun x H Q _ => ∃ a t b, x = .ref a ∧ ShAt K H a t b ∧ 0 < b ∧ b.natAbs < 2 ^ 4000 ∧ Q (.int (t / b)) H
end
end W

namespace W
open PySem PySem.Spec PyProof.Rows L2
section
variable {P : Program} {w : World} {K : S.Frag} {mg : Str → Option Value} {base : Heap}
open S
/-- a new share of the value t/b -/
def NewS (K : S.Frag) (H : Hp) (t b : Int) (Q : VK) : Prop := ∀ (p : Addr) (H' : Hp) (T B : Int), Same H H' → ShAt K H' p T B → 0 < B → gI T B = 1 → T * b = t * B → T.natAbs ≤ t.natAbs → B.natAbs ≤ b.natAbs → Q (.ref p) H'
theorem mkR {H : Hp} {Q : VK} {E : XK} {t b : Int} {p dx : Addr} (np : H p = none) (ndx : H dx = none) (ne : dx ≠ p) (bt : t.natAbs < 2 ^ 4000) (bb : b.natAbs < 2 ^ 4000) (h : b ≠ 0) (k : NewS K H t b Q) :
    spShare K [.ref p, .int t, .int b] (upd (upd H dx (.own p)) p (.ins (He.ga K "Share") dx [])) (fun v H3 => v = .non ∧ Q (.ref p) H3) E := by
  have s0 : Same H (upd (upd H dx (.own p)) p (.ins (He.ga K "Share") dx [])) := Same.upd (Same.new ndx) np
  have du : dueS (.int t) (.int b) = "" := by simp [dueS, isInt, intV, h]
  exact ⟨_, _, _, rfl, p, dx, rfl, upd_same, ne, .int _, .int _, bt, bb, fun e H' kp hp => ⟨rfl, k p H' _ _ (fun c o hc => kp c o (s0 c o hc) (ne_of_none hc np) (ne_of_none hc ndx)) hp (loB_pos h) (lo_one h) (lo_same h) (lo_leT h) (lo_leB h)⟩, fun e => absurd du e⟩
end
end W

namespace W
open PySem PySem.Spec PyProof.Rows L2
section
variable {P : Program} {w : World} {K : S.Frag} {mg : Str → Option Value} {base : Heap}
open S
/-- a share u/v, or the integer u -/
def NumAt (K : S.Frag) (H : Hp) (x : V) (u v : Int) : Prop := (∃ c, x = .ref c ∧ ShAt K H c u v) ∨ (x = .int u ∧ v = 1)
theorem NumAt.same {H H' : Hp} {x : V} {u v : Int} (h : NumAt K H x u v) (s : Same H H') : NumAt K H' x u v := by
  rcases h with ⟨c, e, h⟩ | h
  · exact .inl ⟨c, e, h.same s⟩
  · exact .inr h
def spIsN (K : S.Frag) : Sp := Sp1 fun x H Q _ => ∃ u v, NumAt K H x u v ∧ Q (.bl true) H
theorem ok_is_number (T : Txt K mg) : FnOk P w K mg base (L2.CX P w) 2 (He.fAd K ("is_number", none)) (S.fdA K ("is_number", none)) ["value"] (spIsN K) := by
  have G_is_integer := ok_is_integer (P := P) (w := w) (base := base) T
  refine FunD.ok T.F_is_number sc_is_number (fun vs H Q E h => S.splen1 h) (fun cdv A outer s H vs Q E hr h => ?_)
  have hu := hu_of hr
  refine ⟨_, (pss_one (ps_ret (pe_or (pe_callB (S.isi2K (K := K) rfl (He.ga K "Share")) rfl T.n_isinstance S.boot_isinstance (pa_cons (pv 0) (pa_cons (pe_glob (v := .ref _) rfl T.g_Share rfl) pa_nil))) (pe_one (S.pe_fnS G_is_integer (hr.mono (by decide)) rfl T.g_is_integer T.F_is_integer.kp (kb_is_integer_1 T) S.pas0 (pa_cons (pv 0) pa_nil) pk_nil rfl rfl))))), ?_⟩
  obtain ⟨x, rfl, u, v, hx, q⟩ := h
  rcases hx with ⟨c, rfl, dx, vs, hs, h0, h1⟩ | ⟨rfl, rfl⟩
  · exact ⟨_, rfl, .inl ⟨c, _, dx, vs, _, true, rfl, rfl, (fun _ z => z), hs, T.sc_Share, T.si_Share, T.ko_Share_Share, _, rfl, q⟩⟩
  · exact ⟨_, rfl, .inr ⟨_, _, _, _, false, rfl, .own _, isi_true, T.kb_Share_int, _, rfl, _, rfl, rfl, rfl, _, rfl, true, .int u, q⟩⟩
def spTop (K : S.Frag) : Sp := Sp1 fun x H Q _ => ∃ u v, NumAt K H x u v ∧ Q (.int u) H
theorem ok_top_of (T : Txt K mg) : FnOk P w K mg base (L2.CX P w) 1 (He.fAd K ("top_of", none)) (S.fdA K ("top_of", none)) ["value"] (spTop K) := by
  refine FunD.ok T.F_top_of sc_top_of (fun vs H Q E h => S.splen1 h) (fun cdv A outer s H vs Q E hr h => ?_)
  have hu := hu_of hr
  refine ⟨_, (pss_cons (ps_if (pt_val (pe_callB (S.isi2K (K := K) rfl (He.ga K "Share")) rfl T.n_isinstance S.boot_isinstance (pa_cons (pv 0) (pa_cons (pe_glob (v := .ref _) rfl T.g_Share rfl) pa_nil)))) (pss_one (ps_ret (S.pe_slK (K := K) rfl (pv 0) rfl))) pss_nil)
      (pss_one (ps_ret (pv 0)))), ?_⟩
  obtain ⟨x, rfl, u, v, hx, q⟩ := h
  rcases hx with ⟨c, rfl, dx, vs, hs, h0, h1⟩ | ⟨rfl, rfl⟩
  · exact ⟨_, rfl, .inl ⟨c, _, dx, vs, _, true, rfl, rfl, (fun _ z => z), hs, T.sc_Share, T.si_Share, T.ko_Share_Share, _, rfl, iteT ⟨_, rfl, c, _, dx, _, vs, 1, _, rfl, hs, T.sc_Share, T.sl_Share_top, h0, q⟩⟩⟩
  · exact ⟨_, rfl, .inr ⟨_, _, _, _, false, rfl, .own _, isi_true, T.kb_Share_int, _, rfl, iteF ⟨_, rfl, q⟩⟩⟩
def spBot (K : S.Frag) : Sp := Sp1 fun x H Q _ => ∃ u v, NumAt K H x u v ∧ Q (.int v) H
theorem ok_bottom_of (T : Txt K mg) : FnOk P w K mg base (L2.CX P w) 1 (He.fAd K ("bottom_of", none)) (S.fdA K ("bottom_of", none)) ["value"] (spBot K) := by
  refine FunD.ok T.F_bottom_of sc_bottom_of (fun vs H Q E h => S.splen1 h) (fun cdv A outer s H vs Q E hr h => ?_)
  have hu := hu_of hr
  refine ⟨_, (pss_cons (ps_if (pt_val (pe_callB (S.isi2K (K := K) rfl (He.ga K "Share")) rfl T.n_isinstance S.boot_isinstance (pa_cons (pv 0) (pa_cons (pe_glob (v := .ref _) rfl T.g_Share rfl) pa_nil)))) (pss_one (ps_ret (S.pe_slK (K := K) rfl (pv 0) rfl))) pss_nil)
      (pss_one (ps_ret pe_int))), ?_⟩
  obtain ⟨x, rfl, u, v, hx, q⟩ := h
  rcases hx with ⟨c, rfl, dx, vs, hs, h0, h1⟩ | ⟨rfl, rfl⟩
  · exact ⟨_, rfl, .inl ⟨c, _, dx, vs, _, true, rfl, rfl, (fun _ z => z), hs, T.sc_Share, T.si_Share, T.ko_Share_Share, _, rfl, iteT ⟨_, rfl, c, _, dx, _, vs, 0, _, rfl, hs, T.sc_Share, T.sl_Share_bottom, h1, q⟩⟩⟩
  · exact ⟨_, rfl, .inr ⟨_, _, _, _, false, rfl, .own _, isi_true, T.kb_Share_int, _, rfl, iteF q⟩⟩
def sm (n : Int) : Prop := n.natAbs < 2 ^ 1000
theorem sm.mul {i j : Int} (a : sm i) (b : sm j) : (i * j).natAbs < 2 ^ 2000 := wide_lt (a := 1000) (b := 1000) a b
theorem sm.cm {i j : Int} (a : sm i) (b : sm j) : CMulA i j := .inr (wide_mul (a := 1000) (b := 1000) a b (by decide) (by decide) (by decide))
theorem b4 {n : Nat} (h : n < 2 ^ 2000) : n < 2 ^ 4000 := Nat.lt_of_lt_of_le h (Nat.pow_le_pow_right (by decide) (by decide))
theorem b4a {i j : Int} (a : i.natAbs < 2 ^ 2000) (b : j.natAbs < 2 ^ 2000) : (i + j).natAbs < 2 ^ 4000 := by
  have : (i + j).natAbs ≤ i.natAbs + j.natAbs := Int.natAbs_add_le i j
  have e : (2 : Nat) ^ 2001 = 2 ^ 2000 + 2 ^ 2000 := by rw [Nat.pow_succ]; omega
  have f : (2 : Nat) ^ 2001 ≤ 2 ^ 4000 := Nat.pow_le_pow_right (by decide) (by decide)
  omega
theorem b4s {i j : Int} (a : i.natAbs < 2 ^ 2000) (b : j.natAbs < 2 ^ 2000) : (i - j).natAbs < 2 ^ 4000 := by
  rw [Int.sub_eq_add_neg]
  exact b4a a (by rw [Int.natAbs_neg]; exact b)
theorem nz {b v : Int} (h1 : 0 < b) (h2 : 0 < v) : b * v ≠ 0 := Int.ne_of_gt (Int.mul_pos h1 h2)
def spBin (K : S.Frag) (p q : Int → Int → Int → Int → Int) : Sp := Sp2 fun x y H Q _ => ∃ a t b u v, x = .ref a ∧ ShAt K H a t b ∧ NumAt K H y u v ∧ 0 < b ∧ 0 < v ∧ sm t ∧ sm b ∧ sm u ∧ sm v ∧ NewS K H (p t b u v) (q t b u v) Q
def q1 (_ b _ v : Int) : Int := b * v
def pAdd (t b u v : Int) : Int := t * v + u * b
def pRadd (t b u v : Int) : Int := u * b + t * v
def pSub (t b u v : Int) : Int := t * v - u * b
def pRsub (t b u v : Int) : Int := u * b - t * v
def pMul (t _ u _ : Int) : Int := t * u
def pRmul (t _ u _ : Int) : Int := u * t
def q2 (_ b _ v : Int) : Int := v * b

theorem ok_Share___sub__ (T : Txt K mg) : FnOk P w K mg base (L2.CX P w) 5 (He.fAd K ("Share", some "__sub__")) (S.fdA K ("Share", some "__sub__")) ["self", "other"] (spBin K pSub q1) := by
  have G_is_number := ok_is_number (P := P) (w := w) (base := base) T
  have G_bottom_of := ok_bottom_of (P := P) (w := w) (base := base) T
  have G_top_of := ok_top_of (P := P) (w := w) (base := base) T
  have G_Share___init__ := ok_Share___init__ (P := P) (w := w) (base := base) T
  refine FunD.ok T.F_Share___sub__ sc_Share___sub__ (fun vs H Q E h => S.splen2 h) (fun cdv A outer s H vs Q E hr h => ?_)
  have hu := hu_of hr
  refine ⟨_, (pss_cons (ps_if (pt_not (pt_val (S.pe_fnS G_is_number (hr.mono (by decide)) rfl T.g_is_number T.F_is_number.kp (kb_is_number_1 T) S.pas0 (pa_cons (pv 1) pa_nil) pk_nil rfl rfl))) (pss_one S.ps_never) pss_nil)
      (pss_cons (ps_set (i := 2) sc_Share___sub__.nd rfl (by first | exact Or.inl rfl | exact Or.inr rfl) (pe_op op_sub (pe_op S.op_mulA (S.pe_slK (K := K) rfl (pv 0) rfl) (S.pe_fnS G_bottom_of (hr.mono (by decide)) rfl T.g_bottom_of T.F_bottom_of.kp (kb_bottom_of_1 T) S.pas0 (pa_cons (pv 1) pa_nil) pk_nil rfl rfl)) (pe_op S.op_mulA (S.pe_fnS G_top_of (hr.mono (by decide)) rfl T.g_top_of T.F_top_of.kp (kb_top_of_1 T) S.pas0 (pa_cons (pv 1) pa_nil) pk_nil rfl rfl) (S.pe_slK (K := K) rfl (pv 0) rfl))))
      (pss_one (ps_ret (S.pe_mkS T.mk_Share G_Share___init__ (hr.mono (by decide)) rfl T.g_Share (kb_Share___init___3 T).choose_spec (S.pasE (takes_of rfl rfl rfl rfl)) (pa_cons (pv 2) (pa_cons (pe_op S.op_mulA (S.pe_slK (K := K) rfl (pv 0) rfl) (S.pe_fnS G_bottom_of (hr.mono (by decide)) rfl T.g_bottom_of T.F_bottom_of.kp (kb_bottom_of_1 T) S.pas0 (pa_cons (pv 1) pa_nil) pk_nil rfl rfl)) pa_nil)) pk_nil rfl rfl))))), ?_⟩
  obtain ⟨_, _, rfl, a, t, b, u, v, rfl, ⟨dx, vs, hs, h0, h1⟩, hy, hb, hv, st, sb, su, sv, q⟩ := h
  refine ⟨_, rfl, rfl, rfl, _, rfl, u, v, hy, _, rfl, iteF ?_⟩
  refine ⟨_, rfl, a, _, dx, _, vs, 1, _, rfl, hs, T.sc_Share, T.sl_Share_top, h0, _, rfl, rfl, rfl, _, rfl, u, v, hy, _, _, rfl, rfl, st.cm sv, ?_⟩
  refine ⟨_, rfl, rfl, rfl, _, rfl, u, v, hy, _, rfl, a, _, dx, _, vs, 0, _, rfl, hs, T.sc_Share, T.sl_Share_bottom, h1, _, _, rfl, rfl, su.cm sb, _, _, rfl, rfl, ?_⟩
  exact ⟨_, rfl, _, rfl, a, _, dx, _, vs, 0, _, rfl, hs, T.sc_Share, T.sl_Share_bottom, h1, _, rfl, rfl, rfl, _, rfl, u, v, hy, _, _, rfl, rfl, sb.cm sv, rfl, rfl, fun p dx2 np ndx ne => mkR np ndx ne (b4s (st.mul sv) (su.mul sb)) (b4 (sb.mul sv)) (nz hb hv) q⟩
theorem ok_Share___rsub__ (T : Txt K mg) : FnOk P w K mg base (L2.CX P w) 5 (He.fAd K ("Share", some "__rsub__")) (S.fdA K ("Share", some "__rsub__")) ["self", "other"] (spBin K pRsub q1) := by
  have G_is_number := ok_is_number (P := P) (w := w) (base := base) T
  have G_Share___init__ := ok_Share___init__ (P := P) (w := w) (base := base) T
  have G_bottom_of := ok_bottom_of (P := P) (w := w) (base := base) T
  have G_top_of := ok_top_of (P := P) (w := w) (base := base) T
  refine FunD.ok T.F_Share___rsub__ sc_Share___rsub__ (fun vs H Q E h => S.splen2 h) (fun cdv A outer s H vs Q E hr h => ?_)
  have hu := hu_of hr
  refine ⟨_, (pss_cons (ps_if (pt_not (pt_val (S.pe_fnS G_is_number (hr.mono (by decide)) rfl T.g_is_number T.F_is_number.kp (kb_is_number_1 T) S.pas0 (pa_cons (pv 1) pa_nil) pk_nil rfl rfl))) (pss_one S.ps_never) pss_nil)
      (pss_one (ps_ret (S.pe_mkS T.mk_Share G_Share___init__ (hr.mono (by decide)) rfl T.g_Share (kb_Share___init___3 T).choose_spec (S.pasE (takes_of rfl rfl rfl rfl)) (pa_cons (pe_op op_sub (pe_op S.op_mulA (S.pe_fnS G_top_of (hr.mono (by decide)) rfl T.g_top_of T.F_top_of.kp (kb_top_of_1 T) S.pas0 (pa_cons (pv 1) pa_nil) pk_nil rfl rfl) (S.pe_slK (K := K) rfl (pv 0) rfl)) (pe_op S.op_mulA (S.pe_slK (K := K) rfl (pv 0) rfl) (S.pe_fnS G_bottom_of (hr.mono (by decide)) rfl T.g_bottom_of T.F_bottom_of.kp (kb_bottom_of_1 T) S.pas0 (pa_cons (pv 1) pa_nil) pk_nil rfl rfl))) (pa_cons (pe_op S.op_mulA (S.pe_slK (K := K) rfl (pv 0) rfl) (S.pe_fnS G_bottom_of (hr.mono (by decide)) rfl T.g_bottom_of T.F_bottom_of.kp (kb_bottom_of_1 T) S.pas0 (pa_cons (pv 1) pa_nil) pk_nil rfl rfl)) pa_nil)) pk_nil rfl rfl)))), ?_⟩
  obtain ⟨_, _, rfl, a, t, b, u, v, rfl, ⟨dx, vs, hs, h0, h1⟩, hy, hb, hv, st, sb, su, sv, q⟩ := h
  refine ⟨_, rfl, rfl, rfl, _, rfl, u, v, hy, _, rfl, iteF ?_⟩
  refine ⟨_, rfl, rfl, rfl, _, rfl, u, v, hy, _, rfl, a, _, dx, _, vs, 0, _, rfl, hs, T.sc_Share, T.sl_Share_bottom, h1, _, _, rfl, rfl, su.cm sb, ?_⟩
  refine ⟨_, rfl, a, _, dx, _, vs, 1, _, rfl, hs, T.sc_Share, T.sl_Share_top, h0, _, rfl, rfl, rfl, _, rfl, u, v, hy, _, _, rfl, rfl, st.cm sv, _, _, rfl, rfl, ?_⟩
  exact ⟨_, rfl, a, _, dx, _, vs, 0, _, rfl, hs, T.sc_Share, T.sl_Share_bottom, h1, _, rfl, rfl, rfl, _, rfl, u, v, hy, _, _, rfl, rfl, sb.cm sv, rfl, rfl, fun p dx2 np ndx ne => mkR np ndx ne (b4s (su.mul sb) (st.mul sv)) (b4 (sb.mul sv)) (nz hb hv) q⟩
theorem ok_Share___mul__ (T : Txt K mg) : FnOk P w K mg base (L2.CX P w) 5 (He.fAd K ("Share", some "__mul__")) (S.fdA K ("Share", some "__mul__")) ["self", "other"] (spBin K pMul q1) := by
  have G_is_number := ok_is_number (P := P) (w := w) (base := base) T
  have G_Share___init__ := ok_Share___init__ (P := P) (w := w) (base := base) T
  have G_bottom_of := ok_bottom_of (P := P) (w := w) (base := base) T
  have G_top_of := ok_top_of (P := P) (w := w) (base := base) T
  refine FunD.ok T.F_Share___mul__ sc_Share___mul__ (fun vs H Q E h => S.splen2 h) (fun cdv A outer s H vs Q E hr h => ?_)
  have hu := hu_of hr
  refine ⟨_, (pss_cons (ps_if (pt_not (pt_val (S.pe_fnS G_is_number (hr.mono (by decide)) rfl T.g_is_number T.F_is_number.kp (kb_is_number_1 T) S.pas0 (pa_cons (pv 1) pa_nil) pk_nil rfl rfl))) (pss_one S.ps_never) pss_nil)
      (pss_one (ps_ret (S.pe_mkS T.mk_Share G_Share___init__ (hr.mono (by decide)) rfl T.g_Share (kb_Share___init___3 T).choose_spec (S.pasE (takes_of rfl rfl rfl rfl)) (pa_cons (pe_op S.op_mulA (S.pe_slK (K := K) rfl (pv 0) rfl) (S.pe_fnS G_top_of (hr.mono (by decide)) rfl T.g_top_of T.F_top_of.kp (kb_top_of_1 T) S.pas0 (pa_cons (pv 1) pa_nil) pk_nil rfl rfl)) (pa_cons (pe_op S.op_mulA (S.pe_slK (K := K) rfl (pv 0) rfl) (S.pe_fnS G_bottom_of (hr.mono (by decide)) rfl T.g_bottom_of T.F_bottom_of.kp (kb_bottom_of_1 T) S.pas0 (pa_cons (pv 1) pa_nil) pk_nil rfl rfl)) pa_nil)) pk_nil rfl rfl)))), ?_⟩
  obtain ⟨_, _, rfl, a, t, b, u, v, rfl, ⟨dx, vs, hs, h0, h1⟩, hy, hb, hv, st, sb, su, sv, q⟩ := h
  refine ⟨_, rfl, rfl, rfl, _, rfl, u, v, hy, _, rfl, iteF ?_⟩
  refine ⟨_, rfl, a, _, dx, _, vs, 1, _, rfl, hs, T.sc_Share, T.sl_Share_top, h0, _, rfl, rfl, rfl, _, rfl, u, v, hy, _, _, rfl, rfl, st.cm su, ?_⟩
  exact ⟨_, rfl, a, _, dx, _, vs, 0, _, rfl, hs, T.sc_Share, T.sl_Share_bottom, h1, _, rfl, rfl, rfl, _, rfl, u, v, hy, _, _, rfl, rfl, sb.cm sv, rfl, rfl, fun p dx2 np ndx ne => mkR np ndx ne (b4 (st.mul su)) (b4 (sb.mul sv)) (nz hb hv) q⟩
theorem ok_Share___rmul__ (T : Txt K mg) : FnOk P w K mg base (L2.CX P w) 5 (He.fAd K ("Share", some "__rmul__")) (S.fdA K ("Share", some "__rmul__")) ["self", "other"] (spBin K pRmul q2) := by
  have G_is_number := ok_is_number (P := P) (w := w) (base := base) T
  have G_Share___init__ := ok_Share___init__ (P := P) (w := w) (base := base) T
  have G_bottom_of := ok_bottom_of (P := P) (w := w) (base := base) T
  have G_top_of := ok_top_of (P := P) (w := w) (base := base) T
  refine FunD.ok T.F_Share___rmul__ sc_Share___rmul__ (fun vs H Q E h => S.splen2 h) (fun cdv A outer s H vs Q E hr h => ?_)
  have hu := hu_of hr
  refine ⟨_, (pss_cons (ps_if (pt_not (pt_val (S.pe_fnS G_is_number (hr.mono (by decide)) rfl T.g_is_number T.F_is_number.kp (kb_is_number_1 T) S.pas0 (pa_cons (pv 1) pa_nil) pk_nil rfl rfl))) (pss_one S.ps_never) pss_nil)
      (pss_one (ps_ret (S.pe_mkS T.mk_Share G_Share___init__ (hr.mono (by decide)) rfl T.g_Share (kb_Share___init___3 T).choose_spec (S.pasE (takes_of rfl rfl rfl rfl)) (pa_cons (pe_op S.op_mulA (S.pe_fnS G_top_of (hr.mono (by decide)) rfl T.g_top_of T.F_top_of.kp (kb_top_of_1 T) S.pas0 (pa_cons (pv 1) pa_nil) pk_nil rfl rfl) (S.pe_slK (K := K) rfl (pv 0) rfl)) (pa_cons (pe_op S.op_mulA (S.pe_fnS G_bottom_of (hr.mono (by decide)) rfl T.g_bottom_of T.F_bottom_of.kp (kb_bottom_of_1 T) S.pas0 (pa_cons (pv 1) pa_nil) pk_nil rfl rfl) (S.pe_slK (K := K) rfl (pv 0) rfl)) pa_nil)) pk_nil rfl rfl)))), ?_⟩
  obtain ⟨_, _, rfl, a, t, b, u, v, rfl, ⟨dx, vs, hs, h0, h1⟩, hy, hb, hv, st, sb, su, sv, q⟩ := h
  refine ⟨_, rfl, rfl, rfl, _, rfl, u, v, hy, _, rfl, iteF ?_⟩
  refine ⟨_, rfl, rfl, rfl, _, rfl, u, v, hy, _, rfl, a, _, dx, _, vs, 1, _, rfl, hs, T.sc_Share, T.sl_Share_top, h0, _, _, rfl, rfl, su.cm st, ?_⟩
  exact ⟨_, rfl, rfl, rfl, _, rfl, u, v, hy, _, rfl, a, _, dx, _, vs, 0, _, rfl, hs, T.sc_Share, T.sl_Share_bottom, h1, _, _, rfl, rfl, sv.cm sb, rfl, rfl, fun p dx2 np ndx ne => mkR np ndx ne (b4 (su.mul st)) (b4 (sv.mul sb)) (nz hv hb) q⟩
def spQuo (K : S.Frag) (z p q : Int → Int → Int → Int → Int) : Sp := Sp2 fun x y H Q E => ∃ a t b u v, x = .ref a ∧ ShAt K H a t b ∧ NumAt K H y u v ∧ 0 < b ∧ 0 < v ∧ sm t ∧ sm b ∧ sm u ∧ sm v ∧
  (z t b u v ≠ 0 → Q (.int ((p t b u v).fdiv (q t b u v))) H) ∧ (z t b u v = 0 → E (.ref (He.ga K "NoShare")) none H)
def spOver (K : S.Frag) : Sp := Sp2 fun x y H Q E => ∃ a t b u v, x = .ref a ∧ ShAt K H a t b ∧ NumAt K H y u v ∧ 0 < b ∧ 0 < v ∧ sm t ∧ sm b ∧ sm u ∧ sm v ∧
  (u ≠ 0 → NewS K H (t * v) (b * u) Q) ∧ (u = 0 → E (.ref (He.ga K "NoShare")) none H)
def zU (_ _ u _ : Int) : Int := u
def zT (t _ _ _ : Int) : Int := t
def pTV (t _ _ v : Int) : Int := t * v
def pBU (_ b u _ : Int) : Int := b * u
def pUB (_ b u _ : Int) : Int := u * b
def pVT (t _ _ v : Int) : Int := v * t
theorem fdn {i j : Int} (a : sm i) (b : sm j) (h1 : i ≠ 0) (h2 : j ≠ 0) {x : Int} : S.CDivN x (i * j) := ⟨Int.mul_ne_zero h1 h2, Nat.lt_trans (PySem.Flt.log2_lt_of (by decide) (sm.mul a b)) (by decide)⟩
def spUn (K : S.Frag) (p : Int → Int) : Sp := Sp1 fun x H Q _ => ∃ a t b, x = .ref a ∧ ShAt K H a t b ∧ 0 < b ∧ sm t ∧ sm b ∧ NewS K H (p t) b Q
end
end W

namespace W
open PySem PySem.Spec PyProof.Rows L2
section
variable {P : Program} {w : World} {K : S.Frag} {mg : Str → Option Value} {base : Heap}
open S
theorem ratio {T B p q p' q' : Int} (hq : q ≠ 0) (h1 : T * q = p * B) (h2 : p * q' = p' * q) : T * q' = p' * B := by
  refine Int.eq_of_mul_eq_mul_right hq ?_
  have : T * q * q' = p * B * q' := by rw [h1]
  grind
theorem up {m n a : Nat} (h : a < 2 ^ m) (le : m ≤ n) : a < 2 ^ n := Nat.lt_of_lt_of_le h (Nat.pow_le_pow_right (by decide) le)
/-- one of them is a share -/
def One (x y : V) : Prop := (∃ c, x = .ref c) ∨ ∃ c, y = .ref c
section
variable {H : Hp} {x y : V} {t b a c u v d e : Int} {Q : VK} {E : XK} {p q pr qr : Int → Int → Int → Int → Int}
theorem bin_go (hx : NumAt K H x t b) (hy : NumAt K H y u v) (o : One x y) (hb : 0 < b) (hv : 0 < v) (st : sm t) (sb : sm b) (su : sm u) (sv : sm v) (k1 : NewS K H (p t b u v) (q t b u v) Q) (k2 : NewS K H (pr u v t b) (qr u v t b) Q) :
    rBinL (He.ga K "Share") (spBin K p q) (spBin K pr qr) E x y H Q := by
  rcases id hx with ⟨cx, rfl, sx⟩ | ⟨rfl, rfl⟩
  · rcases id hy with ⟨cy, rfl, sy⟩ | ⟨rfl, rfl⟩
    · obtain ⟨dx, vs, h1, _⟩ := id sx
      obtain ⟨dy, ws, h2, _⟩ := id sy
      exact .inl ⟨cx, dx, vs, cy, dy, ws, rfl, rfl, h1, h2, _, _, rfl, cx, t, b, u, v, rfl, sx, hy, hb, hv, st, sb, su, sv, k1⟩
    · obtain ⟨dx, vs, h1, _⟩ := id sx
      exact .inr (.inl ⟨cx, dx, vs, u, rfl, rfl, h1, _, _, rfl, cx, t, b, u, 1, rfl, sx, hy, hb, hv, st, sb, su, sv, k1⟩)
  · rcases id hy with ⟨cy, rfl, sy⟩ | ⟨rfl, rfl⟩
    · obtain ⟨dy, ws, h2, _⟩ := id sy
      exact .inr (.inr ⟨cy, dy, ws, t, rfl, rfl, h2, _, _, rfl, cy, u, v, t, 1, rfl, sy, hx, hv, hb, su, sv, st, sb, k2⟩)
    · rcases o with ⟨c, z⟩ | ⟨c, z⟩ <;> cases z
end
theorem fdiv_neg' {p n : Int} (h : 0 < n) : p.fdiv (-n) = (-p) / n := by
  rw [Int.fdiv_eq_ediv, Int.ediv_neg, Int.neg_ediv]
  have s : n.sign = 1 := Int.sign_eq_one_of_pos h
  have d : (-n ∣ p) ↔ n ∣ p := Int.neg_dvd
  by_cases c : n ∣ p
  · rw [if_pos (.inr (d.mpr c)), if_pos c]
  · rw [if_neg (by rintro (z | z); · omega
                   · exact c (d.mp z)), if_neg c, s]
theorem fdiv_pos' {p n : Int} (h : 0 < n) : p.fdiv n = p / n := Int.fdiv_eq_ediv_of_nonneg p (by omega)
theorem go_div {H : Hp} {x y : V} {t b u v : Int} {Q : VK} {E : XK} (hx : NumAt K H x t b) (hy : NumAt K H y u v) (o : One x y) (hb : 0 < b) (hv : 0 < v) (st : sm t) (sb : sm b) (su : sm u) (sv : sm v)
    (k1 : u ≠ 0 → ∀ n, n = (t * v).fdiv (b * u) → Q (.int n) H) (k2 : u = 0 → E (.ref (He.ga K "NoShare")) none H) :
    rBinL (He.ga K "Share") (spQuo K zU pTV pBU) (spQuo K zT pUB pVT) E x y H Q := by
  rcases id hx with ⟨cx, rfl, sx⟩ | ⟨rfl, rfl⟩
  · rcases id hy with ⟨cy, rfl, sy⟩ | ⟨rfl, rfl⟩
    · obtain ⟨dx, vs, h1, _⟩ := id sx
      obtain ⟨dy, ws, h2, _⟩ := id sy
      exact .inl ⟨cx, dx, vs, cy, dy, ws, rfl, rfl, h1, h2, _, _, rfl, cx, t, b, u, v, rfl, sx, hy, hb, hv, st, sb, su, sv, fun z => k1 z _ rfl, k2⟩
    · obtain ⟨dx, vs, h1, _⟩ := id sx
      exact .inr (.inl ⟨cx, dx, vs, u, rfl, rfl, h1, _, _, rfl, cx, t, b, u, 1, rfl, sx, hy, hb, hv, st, sb, su, sv, fun z => k1 z _ rfl, k2⟩)
  · rcases id hy with ⟨cy, rfl, sy⟩ | ⟨rfl, rfl⟩
    · obtain ⟨dy, ws, h2, _⟩ := id sy
      exact .inr (.inr ⟨cy, dy, ws, t, rfl, rfl, h2, _, _, rfl, cy, u, v, t, 1, rfl, sy, hx, hv, hb, su, sv, st, sb, fun z => k1 z _ rfl, k2⟩)
    · rcases o with ⟨c, z⟩ | ⟨c, z⟩ <;> cases z
/-! a value S/c, in lowest terms -/
def Val (K : S.Frag) (H : Hp) (x : V) (S c : Int) : Prop := ∃ T B, NumAt K H x T B ∧ 0 < B ∧ gI T B = 1 ∧ T * c = S * B
theorem Val.same {H H' : Hp} {x : V} {S c : Int} (h : Val K H x S c) (s : Same H H') : Val K H' x S c := let ⟨T, B, h1, h2⟩ := h; ⟨T, B, h1.same s, h2⟩
theorem low {T B S c : Int} (hB : 0 < B) (hc : 0 < c) (g : gI T B = 1) (e : T * c = S * B) : ∃ k, 0 < k ∧ c = B * k ∧ S = T * k := by
  have g1 : Nat.gcd T.natAbs B.natAbs = 1 := by unfold gI at g; omega
  have d1 : B ∣ T * c := ⟨S, by rw [e, Int.mul_comm]⟩
  have d2 : B.natAbs ∣ T.natAbs * c.natAbs := by rw [← Int.natAbs_mul]; exact Int.natAbs_dvd_natAbs.mpr d1
  have d3 : B.natAbs ∣ c.natAbs := Nat.Coprime.dvd_of_dvd_mul_left (show Nat.gcd B.natAbs T.natAbs = 1 by rw [Nat.gcd_comm]; exact g1) d2
  obtain ⟨k, hk⟩ := Int.natAbs_dvd_natAbs.mp d3
  have kp : 0 < k := by
    refine Int.pos_of_mul_pos_left (b := B) ?_ hB
    rw [Int.mul_comm, ← hk]; exact hc
  refine ⟨k, kp, hk, ?_⟩
  refine (Int.eq_of_mul_eq_mul_right (Int.ne_of_gt hB) ?_).symm
  rw [← e, hk]
  grind
theorem low_le {T B S c : Int} (hB : 0 < B) (hc : 0 < c) (g : gI T B = 1) (e : T * c = S * B) : T.natAbs ≤ S.natAbs ∧ B.natAbs ≤ c.natAbs := by
  obtain ⟨k, kp, h1, h2⟩ := low hB hc g e
  rw [h1, h2, Int.natAbs_mul, Int.natAbs_mul]
  exact ⟨Nat.le_mul_of_pos_right _ (by omega), Nat.le_mul_of_pos_right _ (by omega)⟩
theorem low_sm {T B S c : Int} (hB : 0 < B) (hc : 0 < c) (g : gI T B = 1) (e : T * c = S * B) (bS : sm S) (bc : sm c) : sm T ∧ sm B :=
  ⟨Nat.lt_of_le_of_lt (low_le hB hc g e).1 bS, Nat.lt_of_le_of_lt (low_le hB hc g e).2 bc⟩
/-- what comes of a new share of the value S/c -/
def NewV (K : S.Frag) (H : Hp) (S c : Int) (Q : VK) : Prop := ∀ p H', Same H H' → Val K H' (.ref p) S c → Q (.ref p) H'
theorem NewV.new {H : Hp} {S c t b : Int} {Q : VK} (h : NewV K H S c Q) (h0 : b ≠ 0) (e : t * c = S * b) : NewS K H t b Q :=
  fun p H' T B s hp hB hg he _ _ => h p H' s ⟨T, B, .inl ⟨p, rfl, hp⟩, hB, hg, ratio h0 he e⟩
section
variable {H : Hp} {x y : V} {S c S' c' : Int} {Q : VK} {E : XK}
theorem val_add (hx : Val K H x S c) (hy : Val K H y S' c) (o : One x y) (hc : 0 < c) (bS : sm S) (bS' : sm S') (bc : sm c) (k : NewV K H (S + S') c Q) : rBinL (He.ga K "Share") (spBin K pAdd q1) (spBin K pRadd q1) E x y H Q := by
  obtain ⟨t, b, n1, hb, g1, e1⟩ := hx
  obtain ⟨u, v, n2, hv, g2, e2⟩ := hy
  obtain ⟨st, sb⟩ := low_sm hb hc g1 e1 bS bc
  obtain ⟨su, sv⟩ := low_sm hv hc g2 e2 bS' bc
  refine bin_go n1 n2 o hb hv st sb su sv (k.new (nz hb hv) ?_) (k.new (nz hv hb) ?_)
  · simp only [pAdd, q1]; grind
  · simp only [pRadd, q1]; grind
theorem val_sub (hx : Val K H x S c) (hy : Val K H y S' c) (o : One x y) (hc : 0 < c) (bS : sm S) (bS' : sm S') (bc : sm c) (k : NewV K H (S - S') c Q) : rBinL (He.ga K "Share") (spBin K pSub q1) (spBin K pRsub q1) E x y H Q := by
  obtain ⟨t, b, n1, hb, g1, e1⟩ := hx
  obtain ⟨u, v, n2, hv, g2, e2⟩ := hy
  obtain ⟨st, sb⟩ := low_sm hb hc g1 e1 bS bc
  obtain ⟨su, sv⟩ := low_sm hv hc g2 e2 bS' bc
  refine bin_go n1 n2 o hb hv st sb su sv (k.new (nz hb hv) ?_) (k.new (nz hv hb) ?_)
  · simp only [pSub, q1]; grind
  · simp only [pRsub, q1]; grind
theorem val_mul (hx : Val K H x S c) (hy : Val K H y S' c') (o : One x y) (hc : 0 < c) (hc' : 0 < c') (bS : sm S) (bS' : sm S') (bc : sm c) (bc' : sm c') (k : NewV K H (S * S') (c * c') Q) : rBinL (He.ga K "Share") (spBin K pMul q1) (spBin K pRmul q2) E x y H Q := by
  obtain ⟨t, b, n1, hb, g1, e1⟩ := hx
  obtain ⟨u, v, n2, hv, g2, e2⟩ := hy
  obtain ⟨st, sb⟩ := low_sm hb hc g1 e1 bS bc
  obtain ⟨su, sv⟩ := low_sm hv hc' g2 e2 bS' bc'
  refine bin_go n1 n2 o hb hv st sb su sv (k.new (nz hb hv) ?_) (k.new (nz hb hv) ?_)
  · simp only [pMul, q1]; grind
  · simp only [pRmul, q2]; grind
end
def spEqS (K : S.Frag) : Sp := Sp2 fun x y H Q _ => ∃ a t b u v, x = .ref a ∧ ShAt K H a t b ∧ NumAt K H y u v ∧ Q (.bl (decide (t = u) && decide (b = v))) H
end
end W

namespace W
open PySem PySem.Spec PyProof.Rows L2
section
variable {P : Program} {w : World} {K : S.Frag} {mg : Str → Option Value} {base : Heap}
open S
/-! shares are compared; the greatest of some shares -/
theorem op_cmpLK {X : Cx} {n : Nat} {C g : Addr} {sp : Sp} {op : CmpOp} (hP : X.prog = P) (hw : X.w = w) (hK : X.K = K) (hm : X.mg = mg) (hb : X.base = base) (hop : ∀ a b, compareOp op a b = richCompare op a b) (hs : PySem.W.findIn K (.ref C) (cmpInfo op).2.1 = some (some (.ref g))) (hf : PySem.W.isFn K (.ref g) = true)
    (F : FnR P w K mg base (L2.CX P w) n g sp) (hr : Room n X.A) : OpR X (compareOp op) (rCmpL K C sp) := by
  subst hP hw hK hm hb
  exact S.op_cmpL hop hs hf F hr
def spLtS (K : S.Frag) : Sp := Sp2 fun x y H Q _ => ∃ a t b u v, x = .ref a ∧ ShAt K H a t b ∧ NumAt K H y u v ∧ sm t ∧ sm b ∧ sm u ∧ sm v ∧ Q (.bl (decide (t * v < u * b))) H
theorem ok_Share___lt__ (T : Txt K mg) : FnOk P w K mg base (L2.CX P w) 3 (He.fAd K ("Share", some "__lt__")) (S.fdA K ("Share", some "__lt__")) ["self", "other"] (spLtS K) := by
  have G_is_number := ok_is_number (P := P) (w := w) (base := base) T
  have G_bottom_of := ok_bottom_of (P := P) (w := w) (base := base) T
  have G_top_of := ok_top_of (P := P) (w := w) (base := base) T
  refine FunD.ok T.F_Share___lt__ sc_Share___lt__ (fun vs H Q E h => S.splen2 h) (fun cdv A outer s H vs Q E hr h => ?_)
  have hu := hu_of hr
  refine ⟨_, (pss_cons (ps_if (pt_not (pt_val (S.pe_fnS G_is_number (hr.mono (by decide)) rfl T.g_is_number T.F_is_number.kp (kb_is_number_1 T) S.pas0 (pa_cons (pv 1) pa_nil) pk_nil rfl rfl))) (pss_one S.ps_never) pss_nil)
      (pss_one (ps_ret (pe_cmpR op_lt (pe_op S.op_mulA (S.pe_slK (K := K) rfl (pv 0) rfl) (S.pe_fnS G_bottom_of (hr.mono (by decide)) rfl T.g_bottom_of T.F_bottom_of.kp (kb_bottom_of_1 T) S.pas0 (pa_cons (pv 1) pa_nil) pk_nil rfl rfl)) (pe_op S.op_mulA (S.pe_fnS G_top_of (hr.mono (by decide)) rfl T.g_top_of T.F_top_of.kp (kb_top_of_1 T) S.pas0 (pa_cons (pv 1) pa_nil) pk_nil rfl rfl) (S.pe_slK (K := K) rfl (pv 0) rfl)) (nomark _))))), ?_⟩
  obtain ⟨_, _, rfl, a, t, b, u, v, rfl, ⟨dx, vs, hs, h0, h1⟩, hy, st, sb, su, sv, q⟩ := h
  refine ⟨_, rfl, rfl, rfl, _, rfl, u, v, hy, _, rfl, iteF ?_⟩
  refine ⟨_, rfl, a, _, dx, _, vs, 1, _, rfl, hs, T.sc_Share, T.sl_Share_top, h0, _, rfl, rfl, rfl, _, rfl, u, v, hy, _, _, rfl, rfl, st.cm sv, ?_⟩
  exact ⟨_, rfl, rfl, rfl, _, rfl, u, v, hy, _, rfl, a, _, dx, _, vs, 0, _, rfl, hs, T.sc_Share, T.sl_Share_bottom, h1, _, _, rfl, rfl, su.cm sb, _, _, rfl, rfl, q⟩
theorem frac_lt {t b u v S c S' c' : Int} (hb : 0 < b) (hv : 0 < v) (hc : 0 < c) (hc' : 0 < c') (e : t * c = S * b) (e' : u * c' = S' * v) : t * v < u * b ↔ S * c' < S' * c := by
  have p1 : 0 < c * c' := Int.mul_pos hc hc'
  have p2 : 0 < b * v := Int.mul_pos hb hv
  have f : t * v * (c * c') = S * c' * (b * v) := by
    rw [show t * v * (c * c') = t * c * (v * c') by grind, e]
    grind
  have g : u * b * (c * c') = S' * c * (b * v) := by
    rw [show u * b * (c * c') = u * c' * (b * c) by grind, e']
    grind
  rw [← Int.mul_lt_mul_right p1, f, g, Int.mul_lt_mul_right p2]
theorem frac_eq {t b u v S c S' c' : Int} (hb : 0 < b) (hv : 0 < v) (hc : 0 < c) (hc' : 0 < c') (g1 : gI t b = 1) (g2 : gI u v = 1) (e : t * c = S * b) (e' : u * c' = S' * v) : (t = u ∧ b = v) ↔ S * c' = S' * c := by
  have p1 : 0 < c * c' := Int.mul_pos hc hc'
  have p2 : 0 < b * v := Int.mul_pos hb hv
  have f : t * v * (c * c') = S * c' * (b * v) := by
    rw [show t * v * (c * c') = t * c * (v * c') by grind, e]
    grind
  have g : u * b * (c * c') = S' * c * (b * v) := by
    rw [show u * b * (c * c') = u * c' * (b * c) by grind, e']
    grind
  constructor
  · rintro ⟨rfl, rfl⟩
    refine Int.eq_of_mul_eq_mul_right (Int.ne_of_gt p2) ?_
    rw [← f, ← g]
  · intro h
    have k : t * v = u * b := Int.eq_of_mul_eq_mul_right (Int.ne_of_gt p1) (by rw [f, g, h])
    obtain ⟨z, zp, z1, z2⟩ := low hb hv g1 (S := u) (c := v) k
    obtain ⟨y, yp, y1, y2⟩ := low hv hb g2 (S := t) (c := b) k.symm
    have o : z = 1 := by
      have : b * (z * y - 1) = 0 := by rw [z1] at y1; grind
      have zy : z * y = 1 := by
        rcases Int.mul_eq_zero.mp this with h | h <;> omega
      exact Int.eq_one_of_mul_eq_one_right (Int.le_of_lt zp) zy
    subst o
    exact ⟨by rw [z2, Int.mul_one], by rw [z1, Int.mul_one]⟩
/-- a share of the value S/c, small -/
structure OkV (K : S.Frag) (H : Hp) (z : Addr × Int × Int) : Prop where
  v : Val K H (.ref z.1) z.2.1 z.2.2
  pos : 0 < z.2.2
  b1 : sm z.2.1
  b2 : sm z.2.2
theorem OkV.same {H H' : Hp} {z : Addr × Int × Int} (h : OkV K H z) (s : Same H H') : OkV K H' z := ⟨h.v.same s, h.pos, h.b1, h.b2⟩
theorem Val.sh {H : Hp} {a : Addr} {S c : Int} (h : Val K H (.ref a) S c) : ∃ T B, ShAt K H a T B ∧ 0 < B ∧ gI T B = 1 ∧ T * c = S * B := by
  obtain ⟨T, B, h1, h2, h3, h4⟩ := h
  rcases h1 with ⟨x, e, h⟩ | ⟨e, _⟩
  · cases e
    exact ⟨T, B, h, h2, h3, h4⟩
  · cases e
theorem val_lt {H : Hp} {y z : Addr × Int × Int} {Q : VK} (hy : OkV K H y) (hz : OkV K H z) (q : Q (.bl (decide (y.2.1 * z.2.2 < z.2.1 * y.2.2))) H) : rCmpL K (He.ga K "Share") (spLtS K) (.ref y.1) (.ref z.1) H Q := by
  obtain ⟨t, b, s1, hb, g1, e1⟩ := hy.v.sh
  obtain ⟨u, v, s2, hv, g2, e2⟩ := hz.v.sh
  obtain ⟨st, sb⟩ := low_sm hb hy.pos g1 e1 hy.b1 hy.b2
  obtain ⟨su, sv⟩ := low_sm hv hz.pos g2 e2 hz.b1 hz.b2
  obtain ⟨dx, vs, h1, _⟩ := id s1
  obtain ⟨dy, ws, h2, _⟩ := id s2
  refine ⟨y.1, dx, vs, rfl, h1, .inl ⟨z.1, dy, ws, rfl, h2⟩, _, _, rfl, y.1, t, b, u, v, rfl, s1, .inl ⟨_, rfl, s2⟩, st, sb, su, sv, ?_⟩
  rw [decide_eq_decide.mpr (frac_lt hb hv hy.pos hz.pos e1 e2)]
  exact q
theorem val_eq0 {H : Hp} {y : Addr × Int × Int} {Q : VK} (nf : PySem.W.notFirst K (He.ga K "Share") (.type "int") = true) (hy : OkV K H y) (q : Q (.bl (decide (y.2.1 = 0))) H) : rCmpL K (He.ga K "Share") (spEqS K) (.ref y.1) (.int 0) H Q := by
  obtain ⟨t, b, s1, hb, g1, e1⟩ := hy.v.sh
  obtain ⟨dx, vs, h1, _⟩ := id s1
  refine ⟨y.1, dx, vs, rfl, h1, .inr ⟨⟨0, rfl⟩, nf⟩, _, _, rfl, y.1, t, b, 0, 1, rfl, s1, .inr ⟨rfl, rfl⟩, ?_⟩
  have : (t = 0 ∧ b = 1) ↔ y.2.1 = 0 := by
    have := frac_eq (S' := 0) (c' := 1) hb (show (0 : Int) < 1 by decide) hy.pos (show (0 : Int) < 1 by decide) g1 (by decide) e1 (by decide : (0 : Int) * 1 = 0 * 1)
    rw [this]
    omega
  rw [← Bool.decide_and, decide_eq_decide.mpr this]
  exact q
/-- the greatest of some shares -/
def spGreatS (K : S.Frag) : Sp := Sp1 fun x H Q _ => ∃ (R : Addr) (zs : List (Addr × Int × Int)), x = .ref R ∧ H R = some (.lst (zs.map fun z => .ref z.1)) ∧ zs ≠ [] ∧ (∀ z ∈ zs, OkV K H z) ∧ ∀ z ∈ zs, (∀ y ∈ zs, y.2.1 * z.2.2 ≤ z.2.1 * y.2.2) → Q (.ref z.1) H
theorem frac_trans {a b c x y z : Int} (hx : 0 < x) (hy : 0 < y) (hz : 0 < z) (h1 : a * y ≤ b * x) (h2 : b * z ≤ c * y) : a * z ≤ c * x := by
  refine Int.le_of_mul_le_mul_right (a := y) ?_ hy
  have e1 := Int.mul_le_mul_of_nonneg_right h1 (Int.le_of_lt hz)
  have e2 := Int.mul_le_mul_of_nonneg_right h2 (Int.le_of_lt hx)
  grind
def spGreatN (K : S.Frag) : Sp := Sp1 fun x H Q _ => ∃ (R : Addr) (zs : List (Addr × Int × Int)), x = .ref R ∧ H R = some (.lst (zs.map fun z => .ref z.1)) ∧ (∀ z ∈ zs, OkV K H z) ∧ (zs = [] → Q .non H) ∧ ∀ z ∈ zs, (∀ y ∈ zs, y.2.1 * z.2.2 ≤ z.2.1 * y.2.2) → Q (.ref z.1) H
end
end W

namespace W
open PySem PySem.Spec PyProof.Rows L2
section
variable {P : Program} {w : World} {K : S.Frag} {mg : Str → Option Value} {base : Heap}
open S
/-! shares: at most -/
def spLeS (K : S.Frag) : Sp := Sp2 fun x y H Q _ => ∃ a t b u v, x = .ref a ∧ ShAt K H a t b ∧ NumAt K H y u v ∧ sm t ∧ sm b ∧ sm u ∧ sm v ∧ Q (.bl (decide (t * v ≤ u * b))) H
theorem ok_Share___le__ (T : Txt K mg) : FnOk P w K mg base (L2.CX P w) 3 (He.fAd K ("Share", some "__le__")) (S.fdA K ("Share", some "__le__")) ["self", "other"] (spLeS K) := by
  have G_is_number := ok_is_number (P := P) (w := w) (base := base) T
  have G_bottom_of := ok_bottom_of (P := P) (w := w) (base := base) T
  have G_top_of := ok_top_of (P := P) (w := w) (base := base) T
  refine FunD.ok T.F_Share___le__ sc_Share___le__ (fun vs H Q E h => S.splen2 h) (fun cdv A outer s H vs Q E hr h => ?_)
  have hu := hu_of hr
  refine ⟨_, (pss_cons (ps_if (pt_not (pt_val (S.pe_fnS G_is_number (hr.mono (by decide)) rfl T.g_is_number T.F_is_number.kp (kb_is_number_1 T) S.pas0 (pa_cons (pv 1) pa_nil) pk_nil rfl rfl))) (pss_one S.ps_never) pss_nil)
      (pss_one (ps_ret (pe_cmpR op_le (pe_op S.op_mulA (S.pe_slK (K := K) rfl (pv 0) rfl) (S.pe_fnS G_bottom_of (hr.mono (by decide)) rfl T.g_bottom_of T.F_bottom_of.kp (kb_bottom_of_1 T) S.pas0 (pa_cons (pv 1) pa_nil) pk_nil rfl rfl)) (pe_op S.op_mulA (S.pe_fnS G_top_of (hr.mono (by decide)) rfl T.g_top_of T.F_top_of.kp (kb_top_of_1 T) S.pas0 (pa_cons (pv 1) pa_nil) pk_nil rfl rfl) (S.pe_slK (K := K) rfl (pv 0) rfl)) (nomark _))))), ?_⟩
  obtain ⟨_, _, rfl, a, t, b, u, v, rfl, ⟨dx, vs, hs, h0, h1⟩, hy, st, sb, su, sv, q⟩ := h
  refine ⟨_, rfl, rfl, rfl, _, rfl, u, v, hy, _, rfl, iteF ?_⟩
  refine ⟨_, rfl, a, _, dx, _, vs, 1, _, rfl, hs, T.sc_Share, T.sl_Share_top, h0, _, rfl, rfl, rfl, _, rfl, u, v, hy, _, _, rfl, rfl, st.cm sv, ?_⟩
  exact ⟨_, rfl, rfl, rfl, _, rfl, u, v, hy, _, rfl, a, _, dx, _, vs, 0, _, rfl, hs, T.sc_Share, T.sl_Share_bottom, h1, _, _, rfl, rfl, su.cm sb, _, _, rfl, rfl, q⟩
/-- a bound: a share or an integer -/
def BdA (K : S.Frag) (H : Hp) (x : V) (u v : Int) : Prop := NumAt K H x u v ∧ 0 < v ∧ sm u ∧ sm v
theorem BdA.same {H H' : Hp} {x : V} {u v : Int} (h : BdA K H x u v) (s : Same H H') : BdA K H' x u v := ⟨h.1.same s, h.2⟩
theorem frac_le {t b u v S c : Int} (hb : 0 < b) (hc : 0 < c) (e : t * c = S * b) : t * v ≤ u * b ↔ S * v ≤ u * c := by
  have f : t * v * c = S * v * b := by
    rw [show t * v * c = t * c * v by grind, e]
    grind
  constructor
  · intro h
    refine Int.le_of_mul_le_mul_right (a := b) ?_ hb
    have := Int.mul_le_mul_of_nonneg_right h (Int.le_of_lt hc)
    rw [f] at this
    grind
  · intro h
    refine Int.le_of_mul_le_mul_right (a := c) ?_ hc
    have := Int.mul_le_mul_of_nonneg_right h (Int.le_of_lt hb)
    rw [← f] at this
    grind
theorem val_le {H : Hp} {y : Addr × Int × Int} {x : V} {u v : Int} {Q : VK} (nf : PySem.W.notFirst K (He.ga K "Share") (.type "int") = true) (hy : OkV K H y) (hx : BdA K H x u v) (q : Q (.bl (decide (y.2.1 * v ≤ u * y.2.2))) H) : rCmpL K (He.ga K "Share") (spLeS K) (.ref y.1) x H Q := by
  obtain ⟨t, b, s1, hb, g1, e1⟩ := hy.v.sh
  obtain ⟨st, sb⟩ := low_sm hb hy.pos g1 e1 hy.b1 hy.b2
  obtain ⟨dx, vs, h1, _⟩ := id s1
  obtain ⟨n, v0, su, sv⟩ := hx
  have e : decide (t * v ≤ u * b) = decide (y.2.1 * v ≤ u * y.2.2) := decide_eq_decide.mpr (frac_le hb hy.pos e1)
  rw [← e] at q
  rcases id n with ⟨c, rfl, hs⟩ | ⟨rfl, rfl⟩
  · obtain ⟨dy, ws, h2, _⟩ := id hs
    exact ⟨y.1, dx, vs, rfl, h1, .inl ⟨c, dy, ws, rfl, h2⟩, _, _, rfl, y.1, t, b, u, v, rfl, s1, n, st, sb, su, sv, q⟩
  · exact ⟨y.1, dx, vs, rfl, h1, .inr ⟨⟨_, rfl⟩, nf⟩, _, _, rfl, y.1, t, b, u, 1, rfl, s1, n, st, sb, su, sv, q⟩
end
end W

namespace W
section
/-! the monotone chain: its hull is convex (plain) -/
abbrev P2 := Int × Int
def cxp (u v : P2) : Int := u.1 * v.2 - u.2 * v.1
def sbP (b a : P2) : P2 := (b.1 - a.1, b.2 - a.2)
/-- one, two, three: above 0 if the third one lies to the left -/
def crP (a b c : P2) : Int := (b.1 - a.1) * (c.2 - a.2) - (b.2 - a.2) * (c.1 - a.1)
theorem crP_is (a b c : P2) : crP a b c = cxp (sbP b a) (sbP c a) := rfl
/-- lexicographically above 0 -/
def lxp (u : P2) : Prop := 0 < u.1 ∨ (u.1 = 0 ∧ 0 < u.2)
def lxL (a b : P2) : Prop := a.1 < b.1 ∨ (a.1 = b.1 ∧ a.2 < b.2)
theorem lx_sb {a b : P2} (h : lxL a b) : lxp (sbP b a) := by
  rcases h with h | ⟨h1, h2⟩
  · exact .inl (by show 0 < b.1 - a.1; omega)
  · exact .inr ⟨by show b.1 - a.1 = 0; omega, by show 0 < b.2 - a.2; omega⟩
theorem lxL.trans {a b c : P2} (h1 : lxL a b) (h2 : lxL b c) : lxL a c := by
  unfold lxL at *
  omega
theorem lxL.irr {a : P2} : ¬ lxL a a := by unfold lxL; omega
theorem lxL.tri (a b : P2) : a = b ∨ lxL a b ∨ lxL b a := by
  by_cases h : a = b
  · exact .inl h
  · refine .inr ?_
    unfold lxL
    have : ¬ (a.1 = b.1 ∧ a.2 = b.2) := fun ⟨h1, h2⟩ => h (Prod.ext h1 h2)
    omega
/-- turns to the left go on, within half a plane -/
theorem cx_trans {u v w : P2} (hu : lxp u) (hv : lxp v) (hw : lxp w) (h1 : 0 ≤ cxp u v) (h2 : 0 ≤ cxp v w) : 0 ≤ cxp u w := by
  have e1 : cxp u w * v.1 = cxp u v * w.1 + cxp v w * u.1 := by unfold cxp; grind
  have e2 : cxp u w * v.2 = cxp u v * w.2 + cxp v w * u.2 := by unfold cxp; grind
  have u1 : 0 ≤ u.1 := by unfold lxp at hu; omega
  have w1 : 0 ≤ w.1 := by unfold lxp at hw; omega
  rcases hv with hv | ⟨hv, hv2⟩
  · refine Int.nonneg_of_mul_nonneg_left (b := v.1) ?_ hv
    rw [e1]
    exact Int.add_nonneg (Int.mul_nonneg h1 w1) (Int.mul_nonneg h2 u1)
  · have hw1 : w.1 = 0 := by
      have : cxp v w = -(v.2 * w.1) := by unfold cxp; rw [hv]; omega
      rw [this] at h2
      have : 0 ≤ v.2 * w.1 := Int.mul_nonneg (by omega) w1
      have h0 : v.2 * w.1 = 0 := by omega
      rcases Int.mul_eq_zero.mp h0 with h | h
      · omega
      · exact h
    have hw2 : 0 < w.2 := by unfold lxp at hw; omega
    unfold cxp
    rw [hw1, Int.mul_zero, Int.sub_zero]
    exact Int.mul_nonneg u1 (by omega)
theorem cx_anti (u v : P2) : cxp u v = -cxp v u := by unfold cxp; grind
theorem cx_add (u v w : P2) : cxp u (v.1 + w.1, v.2 + w.2) = cxp u v + cxp u w := by unfold cxp; grind
theorem cx_self (u : P2) : cxp u u = 0 := by unfold cxp; grind
/-- what is taken away before a point is put on -/
def popW (p : P2) : List P2 → List P2
  | b :: a :: r => if crP a b p ≤ 0 then popW p (a :: r) else b :: a :: r
  | l => l
def halfS : List P2 → List P2 → List P2
  | k, [] => k
  | k, p :: ps => halfS (p :: popW p k) ps
/-- a chain, its last point first: it falls, it turns to the left, all of S lies to the left -/
inductive ChM (S : P2 → Prop) : List P2 → Prop where
  | one (a : P2) : ChM S [a]
  | two {a b : P2} (h : lxL a b) (s : ∀ x, S x → 0 ≤ crP a b x) : ChM S [b, a]
  | cons {z a b : P2} {r : List P2} (h : lxL a b) (t : 0 < crP z a b) (s : ∀ x, S x → 0 ≤ crP a b x) (c : ChM S (a :: z :: r)) : ChM S (b :: a :: z :: r)
theorem ChM.tail {S : P2 → Prop} {a b : P2} {r : List P2} (h : ChM S (b :: a :: r)) : ChM S (a :: r) ∧ lxL a b ∧ ∀ x, S x → 0 ≤ crP a b x := by
  cases h with
  | two h s => exact ⟨.one _, h, s⟩
  | cons h t s c => exact ⟨c, h, s⟩
/-- a new point to the right of all, behind a strict turn -/
theorem ChM.more {S : P2 → Prop} {p : P2} : ∀ {r : List P2} {a : P2}, ChM S (a :: r) → lxL a p → (∀ z r', r = z :: r' → 0 < crP z a p) → ChM (fun x => S x ∨ x = p) (a :: r) := by
  intro r
  induction r with
  | nil => exact fun _ _ _ => .one _
  | cons z r ih =>
    intro a h hp ht
    have t1 := ht z r rfl
    obtain ⟨c, lza, s⟩ := h.tail
    have lzp := lza.trans hp
    have up : ∀ x, S x ∨ x = p → 0 ≤ crP z a x := fun x hx => by
      rcases hx with hx | rfl
      · exact s x hx
      · omega
    cases h with
    | two _ _ => exact .two lza up
    | @cons y _ _ r2 _ t2 _ c2 =>
      refine .cons lza t2 up (ih c2 lzp fun y' r' e => ?_)
      injection e with e1 e2
      subst e1
      -- y z a turns to the left, z a p too: y z p
      obtain ⟨_, lyz, _⟩ := c2.tail
      have h1 : 0 ≤ cxp (sbP z y) (sbP a z) := by
        have e : crP y z a = cxp (sbP z y) (sbP a z) := by unfold crP cxp sbP; grind
        omega
      have h2 : 0 ≤ cxp (sbP a z) (sbP p a) := by
        have e : crP z a p = cxp (sbP a z) (sbP p a) := by unfold crP cxp sbP; grind
        omega
      have h3 := cx_trans (lx_sb lyz) (lx_sb lza) (lx_sb hp) h1 h2
      have e : crP y z p = crP y z a + cxp (sbP z y) (sbP p a) := by unfold crP cxp sbP; grind
      omega
/-- taking away: what is left, and why -/
theorem popW_is {S : P2 → Prop} {p : P2} : ∀ {k : List P2} {b : P2}, ChM S (b :: k) → (∀ x, S x → x = b ∨ lxL x b) → (∀ x ∈ b :: k, lxL x p) →
    ∃ a r, popW p (b :: k) = a :: r ∧ ChM S (a :: r) ∧ (∀ z r', r = z :: r' → 0 < crP z a p) ∧ (∀ x, S x → lxL a x → 0 ≤ crP a p x) ∧ (∀ x ∈ a :: r, x ∈ b :: k) ∧ (a :: r).getLast? = (b :: k).getLast? := by
  intro k
  induction k with
  | nil =>
    intro b h hs hp
    refine ⟨b, [], rfl, h, (fun _ _ e => by cases e), fun x hx hl => ?_, fun _ h => h, rfl⟩
    rcases hs x hx with rfl | h
    · exact absurd hl lxL.irr
    · exact absurd (hl.trans h) lxL.irr
  | cons a k ih =>
    intro b h hs hp
    unfold popW
    obtain ⟨c, lab, s⟩ := h.tail
    by_cases d : crP a b p ≤ 0
    · rw [if_pos d]
      -- as if all of S up to a were all
      have key : ∀ {k' : List P2} {a' : P2}, ChM S (a' :: k') → (∀ x ∈ a' :: k', lxL x p) → (∀ x, S x → lxL a' x → 0 ≤ crP a' p x) →
          ∃ a r, popW p (a' :: k') = a :: r ∧ ChM S (a :: r) ∧ (∀ z r', r = z :: r' → 0 < crP z a p) ∧ (∀ x, S x → lxL a x → 0 ≤ crP a p x) ∧ (∀ x ∈ a :: r, x ∈ a' :: k') ∧ (a :: r).getLast? = (a' :: k').getLast? := by
        intro k'
        induction k' with
        | nil => exact fun {a'} h _ hl => ⟨a', [], rfl, h, (fun _ _ e => by cases e), hl, fun _ h => h, rfl⟩
        | cons z k' ih' =>
          intro a' h' hp' hl'
          obtain ⟨c', lza, s'⟩ := h'.tail
          unfold popW
          by_cases d' : crP z a' p ≤ 0
          · rw [if_pos d']
            obtain ⟨a2, r2, q1, q2, q3, q4, q5, q6⟩ := ih' c' (fun x hx => hp' x (List.mem_cons_of_mem _ hx)) fun x hx hl => by
              have e1 : crP z a' p = cxp (sbP a' z) (sbP p z) := rfl
              have e2 : crP z a' x = cxp (sbP a' z) (sbP x z) := rfl
              have h1 : 0 ≤ cxp (sbP p z) (sbP a' z) := by rw [cx_anti]; omega
              exact cx_trans (lx_sb (lza.trans (hp' a' List.mem_cons_self))) (lx_sb lza) (lx_sb hl) h1 (e2 ▸ s' x hx)
            exact ⟨a2, r2, q1, q2, q3, q4, fun x hx => List.mem_cons_of_mem _ (q5 x hx), by rw [q6, List.getLast?_cons_cons]⟩
          · rw [if_neg d']
            exact ⟨a', z :: k', rfl, h', fun z' r' e => by injection e with e1 e2; subst e1; omega, hl', fun _ h => h, rfl⟩
      obtain ⟨a2, r2, q1, q2, q3, q4, q5, q6⟩ := key c (fun x hx => hp x (List.mem_cons_of_mem _ hx)) fun x hx hl => by
        have e1 : crP a b p = cxp (sbP b a) (sbP p a) := rfl
        have e2 : crP a b x = cxp (sbP b a) (sbP x a) := rfl
        have h1 : 0 ≤ cxp (sbP p a) (sbP b a) := by rw [cx_anti]; omega
        exact cx_trans (lx_sb (lab.trans (hp b List.mem_cons_self))) (lx_sb lab) (lx_sb hl) h1 (e2 ▸ s x hx)
      exact ⟨a2, r2, q1, q2, q3, q4, fun x hx => List.mem_cons_of_mem _ (q5 x hx), by rw [q6, List.getLast?_cons_cons]⟩
    · rw [if_neg d]
      refine ⟨b, a :: k, rfl, h, fun z r' e => by injection e with e1 e2; subst e1; omega, fun x hx hl => ?_, fun _ h => h, rfl⟩
      rcases hs x hx with rfl | h2
      · exact absurd hl lxL.irr
      · exact absurd (hl.trans h2) lxL.irr
/-- all that is known of a half -/
structure HfM (S : P2 → Prop) (k : List P2) (lo hi : P2) : Prop where
  ch : ChM S k
  hd : k.head? = some hi
  lst : k.getLast? = some lo
  mem : ∀ x ∈ k, S x
  top : ∀ x, S x → x = hi ∨ lxL x hi
  bot : ∀ x, S x → x = lo ∨ lxL lo x
theorem HfM.push {S : P2 → Prop} {k : List P2} {lo hi p : P2} (h : HfM S k lo hi) (hp : ∀ x, S x → lxL x p) : HfM (fun x => S x ∨ x = p) (p :: popW p k) lo p := by
  obtain ⟨ch, hd, hl, mem, top, bot⟩ := h
  cases k with
  | nil => cases hd
  | cons b k =>
    have hd : b = hi := by injection hd
    subst hd
    obtain ⟨a, r, e, c, t, ri, sub, la⟩ := popW_is ch top fun x hx => hp x (mem x hx)
    rw [e]
    have ma : S a := mem a (sub a List.mem_cons_self)
    have lap := hp a ma
    have c2 := c.more lap t
    have slo : S lo := mem lo (List.mem_of_getLast? hl)
    have left : ∀ x, S x ∨ x = p → 0 ≤ crP a p x := fun x hx => by
      rcases hx with hx | rfl
      · rcases lxL.tri a x with rfl | h | h
        · have : crP a p a = 0 := by unfold crP; grind
          omega
        · exact ri x hx h
        · -- x lies before a
          cases r with
          | nil =>
            have : a = lo := by
              have h2 : [a].getLast? = some lo := la.trans hl
              injection h2
            subst this
            rcases bot x hx with rfl | h3
            · exact absurd h lxL.irr
            · exact absurd (h.trans h3) lxL.irr
          | cons z r =>
            obtain ⟨_, lza, s⟩ := c.tail
            have t1 := t z r rfl
            have h1 := s x hx
            have e1 : crP z a x = -cxp (sbP a z) (sbP a x) := by unfold crP cxp sbP; grind
            have e2 : crP z a p = cxp (sbP a z) (sbP p a) := by unfold crP cxp sbP; grind
            have e3 : crP a p x = cxp (sbP a x) (sbP p a) := by unfold crP cxp sbP; grind
            have h2 : 0 ≤ cxp (sbP a x) (sbP a z) := by rw [cx_anti]; omega
            have := cx_trans (lx_sb h) (lx_sb lza) (lx_sb lap) h2 (by omega)
            omega
      · have : crP a x x = 0 := by unfold crP; grind
        omega
    refine ⟨?_, rfl, ?_, fun x hx => ?_, fun x hx => ?_, fun x hx => ?_⟩
    · cases r with
      | nil => exact .two lap left
      | cons z r => exact .cons lap (t z r rfl) left c2
    · rw [List.getLast?_cons_cons, la, hl]
    · rcases List.mem_cons.mp hx with rfl | hx
      · exact .inr rfl
      · exact .inl (mem x (sub x hx))
    · rcases hx with hx | rfl
      · exact .inr (hp x hx)
      · exact .inl rfl
    · rcases hx with hx | rfl
      · exact bot x hx
      · exact .inr (hp lo slo)
theorem HfM.iff {S S' : P2 → Prop} {k : List P2} {lo hi : P2} (h : HfM S k lo hi) (e : ∀ x, S x ↔ S' x) : HfM S' k lo hi := by
  have : S = S' := funext fun x => propext (e x)
  rwa [← this]
theorem half_is : ∀ {ps : List P2} {S : P2 → Prop} {k : List P2} {lo hi : P2}, HfM S k lo hi → (∀ p ∈ ps, ∀ x, S x → lxL x p) → ps.Pairwise lxL → ∃ hi', HfM (fun x => S x ∨ x ∈ ps) (halfS k ps) lo hi'
  | [], S, k, lo, hi, h, _, _ => ⟨hi, h.iff fun x => by simp⟩
  | p :: ps, S, k, lo, hi, h, hp, pw => by
    have pw' := List.pairwise_cons.mp pw
    obtain ⟨hi', h'⟩ := half_is (h.push (hp p List.mem_cons_self)) (fun q hq x hx => by
      rcases hx with hx | rfl
      · exact hp q (List.mem_cons_of_mem _ hq) x hx
      · exact pw'.1 q hq) pw'.2
    exact ⟨hi', h'.iff fun x => by simp only [List.mem_cons]; exact ⟨fun h => by rcases h with (h | h) | h <;> simp [h], fun h => by rcases h with h | h | h <;> simp [h]⟩⟩
/-- the half of a row of points in order -/
theorem half_all {p0 : P2} {ps : List P2} (pw : (p0 :: ps).Pairwise lxL) : ∃ hi, HfM (fun x => x ∈ p0 :: ps) (halfS [] (p0 :: ps)) p0 hi := by
  have pw' := List.pairwise_cons.mp pw
  have h0 : HfM (fun x => x = p0) [p0] p0 p0 := ⟨.one _, rfl, rfl, fun x hx => by simpa using hx, fun x hx => .inl hx, fun x hx => .inl hx⟩
  obtain ⟨hi, h⟩ := half_is h0 (fun p hp x hx => by subst hx; exact pw'.1 p hp) pw'.2
  exact ⟨hi, h.iff fun x => by simp⟩
/-! both halves -/
def ngP (p : P2) : P2 := (-p.1, -p.2)
theorem ng_ng (p : P2) : ngP (ngP p) = p := by unfold ngP; simp
theorem ng_cr (a b c : P2) : crP (ngP a) (ngP b) (ngP c) = crP a b c := by unfold crP ngP; grind
theorem ng_lx {a b : P2} (h : lxL a b) : lxL (ngP b) (ngP a) := by
  unfold lxL ngP at *
  simp only
  omega
theorem ng_pop (p : P2) : ∀ k : List P2, popW (ngP p) (k.map ngP) = (popW p k).map ngP
  | [] => rfl
  | [b] => rfl
  | b :: a :: r => by
    show (if crP (ngP a) (ngP b) (ngP p) ≤ 0 then popW (ngP p) ((a :: r).map ngP) else _) = List.map ngP (if crP a b p ≤ 0 then popW p (a :: r) else b :: a :: r)
    rw [ng_cr]
    by_cases c : crP a b p ≤ 0
    · rw [if_pos c, if_pos c]
      exact ng_pop p (a :: r)
    · rw [if_neg c, if_neg c]
      rfl
theorem ng_half : ∀ (ps k : List P2), halfS (k.map ngP) (ps.map ngP) = (halfS k ps).map ngP
  | [], _ => rfl
  | p :: ps, k => by
    show halfS (ngP p :: popW (ngP p) (k.map ngP)) (ps.map ngP) = (halfS (p :: popW p k) ps).map ngP
    rw [ng_pop]
    exact ng_half ps (p :: popW p k)
/-- the law's half: the chain, its first point first -/
def loM (ps : List P2) : List P2 := (halfS [] ps).reverse
def hullM (ps : List P2) : List P2 := (loM ps).dropLast ++ (loM ps.reverse).dropLast
/-- each step of the row leaves all of S to its left -/
def EdM (S : P2 → Prop) (l : List P2) : Prop := ∀ i a b, l[i]? = some a → l[i + 1]? = some b → a ≠ b ∧ ∀ x, S x → 0 ≤ crP a b x
theorem ChM.ed {S : P2 → Prop} : ∀ {k : List P2}, ChM S k → ∀ i a b, k[i]? = some b → k[i + 1]? = some a → lxL a b ∧ ∀ x, S x → 0 ≤ crP a b x
  | [], h, _, _, _, e, _ => by cases e
  | [x], h, i, a, b, _, e => by simp at e
  | y :: x :: r, h, i, a, b, e1, e2 => by
    obtain ⟨c, l, s⟩ := h.tail
    cases i with
    | zero =>
      have e1 : y = b := by simpa using e1
      have e2 : x = a := by simpa using e2
      subst e1 e2
      exact ⟨l, s⟩
    | succ i => exact c.ed i a b (by simpa using e1) (by simpa using e2)
theorem ed_rev {S : P2 → Prop} {k : List P2} (h : ∀ i a b, k[i]? = some b → k[i + 1]? = some a → a ≠ b ∧ ∀ x, S x → 0 ≤ crP a b x) : EdM S k.reverse := fun i a b h1 h2 => by
  have l2 := (List.getElem?_eq_some_iff.mp h2).1
  rw [List.length_reverse] at l2
  rw [List.getElem?_reverse (by omega)] at h1
  rw [List.getElem?_reverse l2] at h2
  refine h (k.length - 1 - (i + 1)) a b h2 ?_
  rw [show k.length - 1 - (i + 1) + 1 = k.length - 1 - i by omega]
  exact h1
/-- a half, its first and its last point -/
structure LoM (S : P2 → Prop) (l : List P2) (lo hi : P2) : Prop where
  ed : EdM S l
  fst : l[0]? = some lo
  lst : l.getLast? = some hi
  mem : ∀ x ∈ l, S x
theorem lo_is {ps : List P2} (pw : ps.Pairwise lxL) (ne : ps ≠ []) : ∃ lo hi, LoM (fun x => x ∈ ps) (loM ps) lo hi ∧ lo ∈ ps ∧ hi ∈ ps ∧ (∀ x ∈ ps, x = hi ∨ lxL x hi) ∧ ∀ x ∈ ps, x = lo ∨ lxL lo x := by
  cases ps with
  | nil => exact absurd rfl ne
  | cons p0 ps =>
    obtain ⟨hi, h⟩ := half_all pw
    have hh : hi ∈ halfS [] (p0 :: ps) := List.mem_of_mem_head? h.hd
    refine ⟨p0, hi, ⟨ed_rev fun i a b h1 h2 => ?_, ?_, ?_, fun x hx => h.mem x (List.mem_reverse.mp hx)⟩, List.mem_cons_self, h.mem hi hh, h.top, h.bot⟩
    · obtain ⟨q1, q2⟩ := h.ch.ed i a b h1 h2
      exact ⟨fun e => by rw [e] at q1; exact lxL.irr q1, q2⟩
    · rw [← List.head?_eq_getElem?]
      unfold loM
      rw [List.head?_reverse]
      exact h.lst
    · unfold loM
      rw [List.getLast?_reverse]
      exact h.hd
theorem pw_ng {ps : List P2} (pw : ps.Pairwise lxL) : (ps.reverse.map ngP).Pairwise lxL := by
  rw [List.pairwise_map, List.pairwise_reverse]
  exact pw.imp fun h => ng_lx h
theorem up_is {ps : List P2} (pw : ps.Pairwise lxL) (ne : ps ≠ []) : ∃ lo hi, LoM (fun x => x ∈ ps) (loM ps.reverse) hi lo ∧ (∀ x ∈ ps, x = hi ∨ lxL x hi) ∧ (∀ x ∈ ps, x = lo ∨ lxL lo x) ∧ lo ∈ ps ∧ hi ∈ ps := by
  obtain ⟨lo, hi, ⟨e, f, l, m⟩, ml, mh, top, bot⟩ := lo_is (pw_ng pw) (by simpa using ne)
  have em : loM (ps.reverse.map ngP) = (loM ps.reverse).map ngP := by
    unfold loM
    have := ng_half ps.reverse []
    rw [show ([] : List P2).map ngP = [] from rfl] at this
    rw [this, List.map_reverse]
  rw [em] at e f l m
  have mem_ng : ∀ x, x ∈ ps.reverse.map ngP ↔ ngP x ∈ ps := fun x => by
    rw [List.mem_map]
    constructor
    · rintro ⟨y, hy, rfl⟩
      rw [ng_ng]
      exact List.mem_reverse.mp hy
    · intro h
      exact ⟨ngP x, List.mem_reverse.mpr h, ng_ng x⟩
  have inj : ∀ {x y : P2}, ngP x = y → x = ngP y := fun {x y} h => by rw [← h, ng_ng]
  refine ⟨ngP hi, ngP lo, ⟨fun i a b h1 h2 => ?_, ?_, ?_, fun x hx => ?_⟩, fun x hx => ?_, fun x hx => ?_, (mem_ng hi).mp mh, (mem_ng lo).mp ml⟩
  · obtain ⟨q1, q2⟩ := e i (ngP a) (ngP b) (by rw [List.getElem?_map, h1]; rfl) (by rw [List.getElem?_map, h2]; rfl)
    refine ⟨fun e => q1 (by rw [e]), fun x hx => ?_⟩
    have := q2 (ngP x) ((mem_ng _).mpr (by rw [ng_ng]; exact hx))
    rwa [ng_cr] at this
  · rw [List.getElem?_map] at f
    obtain ⟨y, hy, ey⟩ := Option.map_eq_some_iff.mp f
    rw [hy, ← ey, ng_ng]
  · rw [List.getLast?_map] at l
    obtain ⟨y, hy, ey⟩ := Option.map_eq_some_iff.mp l
    rw [hy, ← ey, ng_ng]
  · have := m (ngP x) (List.mem_map.mpr ⟨x, hx, rfl⟩)
    have := (mem_ng _).mp this
    rwa [ng_ng] at this
  · rcases bot (ngP x) ((mem_ng _).mpr (by rw [ng_ng]; exact hx)) with h | h
    · exact .inl (inj h)
    · exact .inr (by have := ng_lx h; rwa [ng_ng] at this)
  · rcases top (ngP x) ((mem_ng _).mpr (by rw [ng_ng]; exact hx)) with h | h
    · exact .inl (inj h)
    · exact .inr (by have := ng_lx h; rwa [ng_ng] at this)
theorem ext_one {ps : List P2} {a b : P2} (ma : a ∈ ps) (mb : b ∈ ps) (ha : ∀ x ∈ ps, x = a ∨ lxL x a) (hb : ∀ x ∈ ps, x = b ∨ lxL x b) : a = b := by
  rcases ha b mb with h | h
  · exact h.symm
  · rcases hb a ma with h2 | h2
    · exact h2
    · exact absurd (h.trans h2) lxL.irr
theorem ext_two {ps : List P2} {a b : P2} (ma : a ∈ ps) (mb : b ∈ ps) (ha : ∀ x ∈ ps, x = a ∨ lxL a x) (hb : ∀ x ∈ ps, x = b ∨ lxL b x) : a = b := by
  rcases ha b mb with h | h
  · exact h.symm
  · rcases hb a ma with h2 | h2
    · exact h2
    · exact absurd (h.trans h2) lxL.irr
theorem two_of {l : List P2} {a b : P2} (h0 : l[0]? = some a) (h1 : l.getLast? = some b) (ne : a ≠ b) : 2 ≤ l.length := by
  match l, h0, h1 with
  | [x], h0, h1 =>
    have h0 : x = a := by simpa using h0
    have h1 : x = b := by simpa using h1
    exact absurd (h0.symm.trans h1) ne
  | _ :: _ :: _, _, _ => simp
/-- the hull: each of its sides leaves all points to its left -/
theorem hull_ok {ps : List P2} (pw : ps.Pairwise lxL) (l2 : 2 ≤ ps.length) : 2 ≤ (hullM ps).length ∧ (∀ i a b, (hullM ps)[i]? = some a → (hullM ps)[(i + 1) % (hullM ps).length]? = some b → a ≠ b ∧ ∀ x ∈ ps, 0 ≤ crP a b x) ∧ ∀ x ∈ hullM ps, x ∈ ps := by
  have ne : ps ≠ [] := fun e => by rw [e] at l2; simp at l2
  obtain ⟨lo, hi, L, ml, mh, tp, bt⟩ := lo_is pw ne
  obtain ⟨lo', hi', U, tp', bt', ml', mh'⟩ := up_is pw ne
  have e1 : hi' = hi := ext_one mh' mh tp' tp
  have e2 : lo' = lo := ext_two ml' ml bt' bt
  subst e1 e2
  have nlh : lo' ≠ hi' := fun e => by
    match ps, l2, pw, tp, bt with
    | p :: q :: r, _, pw, tp, bt =>
      have hpq := (List.pairwise_cons.mp pw).1 q List.mem_cons_self
      have h1 : ∀ x ∈ p :: q :: r, x = lo' := fun x hx => by
        rcases tp x hx with h | h
        · rw [h, e]
        · rcases bt x hx with h2 | h2
          · exact h2
          · rw [← e] at h
            exact absurd (h.trans h2) lxL.irr
      rw [h1 p List.mem_cons_self, h1 q (by simp)] at hpq
      exact lxL.irr hpq
  have lL := two_of L.fst L.lst nlh
  have lU := two_of U.fst U.lst nlh.symm
  have lH : (hullM ps).length = ((loM ps).length - 1) + ((loM ps.reverse).length - 1) := by
    unfold hullM
    rw [List.length_append, List.length_dropLast, List.length_dropLast]
  have atL : ∀ {i}, i + 1 < (loM ps).length → (hullM ps)[i]? = (loM ps)[i]? := fun {i} h => by
    unfold hullM
    rw [List.getElem?_append_left (by rw [List.length_dropLast]; omega), List.getElem?_dropLast, if_pos (by omega)]
  have atU : ∀ {j}, j + 1 < (loM ps.reverse).length → (hullM ps)[(loM ps).length - 1 + j]? = (loM ps.reverse)[j]? := fun {j} h => by
    unfold hullM
    rw [List.getElem?_append_right (by rw [List.length_dropLast]; omega), List.length_dropLast, Nat.add_sub_cancel_left, List.getElem?_dropLast, if_pos (by omega)]
  have lastL : (loM ps)[(loM ps).length - 1]? = some hi' := by rw [← List.getLast?_eq_getElem?]; exact L.lst
  have lastU : (loM ps.reverse)[(loM ps.reverse).length - 1]? = some lo' := by rw [← List.getLast?_eq_getElem?]; exact U.lst
  refine ⟨by omega, fun i a b h1 h2 => ?_, fun x hx => ?_⟩
  · have il := (List.getElem?_eq_some_iff.mp h1).1
    by_cases c : i + 1 < (loM ps).length
    · -- a side of the lower half
      rw [atL c] at h1
      refine L.ed i a b h1 ?_
      by_cases c2 : i + 1 + 1 < (loM ps).length
      · rw [Nat.mod_eq_of_lt (by omega), atL c2] at h2
        exact h2
      · have ei : i + 1 = (loM ps).length - 1 := by omega
        have := atU (j := 0) (by omega)
        rw [Nat.add_zero] at this
        rw [Nat.mod_eq_of_lt (by omega), ei, this, U.fst] at h2
        rw [ei, lastL]
        exact h2
    · obtain ⟨j, ej⟩ : ∃ j, i = (loM ps).length - 1 + j := ⟨i - ((loM ps).length - 1), by omega⟩
      subst ej
      have jl : j + 1 < (loM ps.reverse).length := by omega
      rw [atU jl] at h1
      refine U.ed j a b h1 ?_
      by_cases c2 : j + 1 + 1 < (loM ps.reverse).length
      · rw [Nat.mod_eq_of_lt (by omega), show (loM ps).length - 1 + j + 1 = (loM ps).length - 1 + (j + 1) by omega, atU c2] at h2
        exact h2
      · have ei : j + 1 = (loM ps.reverse).length - 1 := by omega
        rw [show (loM ps).length - 1 + j + 1 = (hullM ps).length by omega, Nat.mod_self, atL (by omega), L.fst] at h2
        rw [ei, lastU]
        exact h2
  · unfold hullM at hx
    rcases List.mem_append.mp hx with hx | hx
    · exact L.mem x ((List.dropLast_sublist _).subset hx)
    · exact U.mem x ((List.dropLast_sublist _).subset hx)
end
end W

namespace W
open PySem PySem.Spec PyProof.Rows L2
section
variable {P : Program} {w : World} {K : S.Frag} {mg : Str → Option Value} {base : Heap}
open S
/-! points of integers -/
def PtA (H : Hp) (a : Addr) (p : P2) : Prop := H a = some (.tup [.int p.1, .int p.2])
theorem PtA.same {H H' : Hp} {a : Addr} {p : P2} (h : PtA H a p) (s : Same H H') : PtA H' a p := s _ _ h
def PtsA (H : Hp) (L : Addr) (zs : List (Addr × P2)) : Prop := H L = some (.lst (zs.map fun z => .ref z.1)) ∧ ∀ z ∈ zs, PtA H z.1 z.2
theorem PtsA.same {H H' : Hp} {L : Addr} {zs : List (Addr × P2)} (h : PtsA H L zs) (s : Same H H') : PtsA H' L zs := ⟨s _ _ h.1, fun z hz => (h.2 z hz).same s⟩
def smP (p : P2) : Prop := p.1.natAbs < 2 ^ 100 ∧ p.2.natAbs < 2 ^ 100
theorem sm_d {i j : Int} (h1 : i.natAbs < 2 ^ 100) (h2 : j.natAbs < 2 ^ 100) : sm (i - j) := Nat.lt_of_lt_of_le (show (i - j).natAbs < 2 ^ 101 by omega) (Nat.pow_le_pow_right (by decide) (by decide))
/-- Euclid's rounds -/
theorem eu_step {u v n : Nat} (h : v < u) (h0 : 0 < v) (hp : u * v * 2 ^ n < 2 ^ 400) : u % v < v ∧ v * (u % v) * 2 ^ (n + 1) < 2 ^ 400 := by
  have h1 := Nat.mod_lt u h0
  have h2 : 2 * (u % v) ≤ u := by
    have e := Nat.div_add_mod u v
    have q : 1 ≤ u / v := (Nat.one_le_div_iff h0).mpr (by omega)
    have : v ≤ v * (u / v) := Nat.le_mul_of_pos_right v q
    omega
  refine ⟨h1, Nat.lt_of_le_of_lt ?_ hp⟩
  calc v * (u % v) * 2 ^ (n + 1) = (2 * (u % v)) * v * 2 ^ n := by rw [Nat.pow_succ]; grind
    _ ≤ u * v * 2 ^ n := Nat.mul_le_mul_right _ (Nat.mul_le_mul_right _ h2)
theorem eu_end {u v : Nat} (h : v < u) (hp : u * v * 2 ^ 999 < 2 ^ 400) : v = 0 := by
  by_cases c : v = 0
  · exact c
  · have h1 : 1 ≤ u * v := Nat.mul_pos (by omega) (by omega)
    have h2 : 1 * 2 ^ 999 ≤ u * v * 2 ^ 999 := Nat.mul_le_mul_right _ h1
    have h3 : (2 : Nat) ^ 400 ≤ 2 ^ 999 := Nat.pow_le_pow_right (by decide) (by decide)
    omega
def spLDiv : Sp := Sp2 fun x y H Q _ => ∃ a b : Nat, x = .int (a : Int) ∧ y = .int (b : Int) ∧ b < 2 ^ 200 ∧ Q (.int ((Nat.gcd a b : Nat) : Int)) H
def spLCrs : Sp := Sp3 fun x y z H Q _ => ∃ (a b c : Addr) (p q r : P2), x = .ref a ∧ y = .ref b ∧ z = .ref c ∧ PtA H a p ∧ PtA H b q ∧ PtA H c r ∧ smP p ∧ smP q ∧ smP r ∧ Q (.int (crP p q r)) H
theorem ok__law_cross (T : Txt K mg) : FnOk P w K mg base (L2.CX P w) 1 (He.fAd K ("_law_cross", none)) (S.fdA K ("_law_cross", none)) ["_law_one", "_law_two", "_law_three"] (spLCrs) := by
  refine FunD.ok T.F__law_cross sc__law_cross (fun vs H Q E h => S.splen3 h) (fun cdv A outer s H vs Q E hr h => ?_)
  have hu := hu_of hr
  refine ⟨_, (pss_cons (ps_set (i := 3) sc__law_cross.nd rfl (by first | exact Or.inl rfl | exact Or.inr rfl) (pe_op op_sub (pe_ix (S.ixK (K := K) rfl) (pv 1) pe_int (fun _ _ => rfl)) (pe_ix (S.ixK (K := K) rfl) (pv 0) pe_int (fun _ _ => rfl))))
      (pss_cons (ps_set (i := 4) sc__law_cross.nd rfl (by first | exact Or.inl rfl | exact Or.inr rfl) (pe_op op_sub (pe_ix (S.ixK (K := K) rfl) (pv 1) pe_int (fun _ _ => rfl)) (pe_ix (S.ixK (K := K) rfl) (pv 0) pe_int (fun _ _ => rfl))))
      (pss_one (ps_ret (pe_op op_sub (pe_op S.op_mulA (pv 3) (pe_op op_sub (pe_ix (S.ixK (K := K) rfl) (pv 2) pe_int (fun _ _ => rfl)) (pe_ix (S.ixK (K := K) rfl) (pv 0) pe_int (fun _ _ => rfl)))) (pe_op S.op_mulA (pv 4) (pe_op op_sub (pe_ix (S.ixK (K := K) rfl) (pv 2) pe_int (fun _ _ => rfl)) (pe_ix (S.ixK (K := K) rfl) (pv 0) pe_int (fun _ _ => rfl))))))))), ?_⟩
  obtain ⟨_, _, _, rfl, a, b, c, p, q0, r, rfl, rfl, rfl, ha, hb, hc, sp, sq, sr, q⟩ := h
  refine ⟨_, rfl, ixT hb rfl ⟨_, rfl, ixT ha rfl ⟨_, _, rfl, rfl, _, rfl, ixT hb rfl ⟨_, rfl, ixT ha rfl ⟨_, _, rfl, rfl, _, rfl, _, rfl, ixT hc rfl ⟨_, rfl, ixT ha rfl ⟨_, _, rfl, rfl, _, _, rfl, rfl, (sm_d sq.1 sp.1).cm (sm_d sr.2 sp.2), _, rfl, _, rfl, ixT hc rfl ⟨_, rfl, ixT ha rfl ⟨_, _, rfl, rfl, _, _, rfl, rfl, (sm_d sq.2 sp.2).cm (sm_d sr.1 sp.1), _, _, rfl, rfl, q⟩⟩⟩⟩⟩⟩⟩⟩⟩
theorem half_app : ∀ (ps k : List P2) (p : P2), halfS k (ps ++ [p]) = p :: popW p (halfS k ps)
  | [], _, _ => rfl
  | q :: ps, k, p => half_app ps (q :: popW q k) p
theorem at_last2 {α : Type} (xs : List α) (x y : α) : atI (xs ++ [x, y]) (-2) = some x := by
  have hl : (xs ++ [x, y]).length = xs.length + 2 := by simp
  have e : ixN (xs ++ [x, y]).length (-2) = some xs.length := by
    unfold ixN
    rw [hl, if_neg (by decide), if_pos (by omega)]
    congr 1
    omega
  unfold atI
  rw [e]
  show (xs ++ [x, y])[xs.length]? = some x
  rw [List.getElem?_append_right (Nat.le_refl _), Nat.sub_self]
  rfl
def spLHalf : Sp := Sp1 fun x H Q _ => ∃ (L : Addr) (zs : List (Addr × P2)), x = .ref L ∧ PtsA H L zs ∧ (∀ z ∈ zs, smP z.2) ∧ zs.length ≤ 100 ∧ ∀ (A : Addr) (ks : List (Addr × P2)) (H' : Hp), Same H H' → PtsA H' A ks → ks.map (·.2) = loM (zs.map (·.2)) → (∀ z ∈ ks, z ∈ zs) → Q (.ref A) H'
theorem ok__law_half (T : Txt K mg) : FnOk P w K mg base (L2.CX P w) 2 (He.fAd K ("_law_half", none)) (S.fdA K ("_law_half", none)) ["_law_rows"] (spLHalf) := by
  have G__law_cross := ok__law_cross (P := P) (w := w) (base := base) T
  refine FunD.ok T.F__law_half sc__law_half (fun vs H Q E h => S.splen1 h) (fun cdv A outer s H vs Q E hr h => ?_)
  have hu := hu_of hr
  refine ⟨_, (pss_cons (ps_set (i := 1) sc__law_half.nd rfl (by first | exact Or.inl rfl | exact Or.inr rfl) (pe_lst pa_nil))
      (pss_cons (ps_for (S.own_of rfl) rfl (S.pi_listK (K := K) rfl (pv 0)) (pg_name (i := 2) sc__law_half.nd rfl (by first | exact Or.inl rfl | exact Or.inr rfl))
        (pss_cons (ps_while (S.own_of rfl) (PW.pt (pw_and (pt_cmpR op_gt (pe_callB (S.lenK (K := K) rfl) rfl T.n_len S.boot_len (pa_cons (pv 1) pa_nil)) pe_int (nomark _)) (pw_and1 (pt_cmpR op_le (S.pe_fnS G__law_cross (hr.mono (by decide)) rfl T.g__law_cross T.F__law_cross.kp (kb__law_cross_3 T) S.pas0 (pa_cons (pe_ix (S.ixK (K := K) rfl) (pv 1) (pe_un un_neg pe_int) (fun _ _ => rfl)) (pa_cons (pe_ix (S.ixK (K := K) rfl) (pv 1) (pe_un un_neg pe_int) (fun _ _ => rfl)) (pa_cons (pv 2) pa_nil))) pk_nil rfl rfl) pe_int (nomark _)))))
        (pss_one (ps_expr (pe_bm0 PySem.F.plainAttrs_list PySem.F.slot_list_pop PySem.F.type_list_pop mt_pop (pv 1) ))))
      (pss_one (ps_expr (pe_bm PySem.F.plainAttrs_list PySem.F.slot_list_append PySem.F.type_list_append mt_append (pv 1) (pa_cons (pv 2) pa_nil))))))
      (pss_one (ps_ret (pv 1))))), ?_⟩
  obtain ⟨_, rfl, L, zs, rfl, hz, hs, lz, q⟩ := h
  refine ⟨by show 0 ≤ sizeLine; decide, fun D hD => ?_⟩
  have sD := Same.new (o := .lst []) hD
  have eDn := upd_same (H := H) (a := D) (o := .lst [])
  generalize upd H D (.lst []) = J0 at sD eDn
  refine ⟨_, rfl, L, rfl, ⟨_, .inl (.inl (sD _ _ hz.1))⟩, for_list (xs := zs.map fun z => V.ref z.1) (fun i σ J => Same H J ∧ ∃ (ks : List (Addr × P2)) (v2 : Option V), J D = some (.lst (ks.reverse.map fun z => .ref z.1)) ∧ ks.map (·.2) = halfS [] ((zs.take i).map (·.2)) ∧ (∀ z ∈ ks, z ∈ zs) ∧ ks.length ≤ i ∧ σ = [some (.ref L), some (.ref D), v2]) ⟨sD, [], _, eDn, rfl, (fun _ h => by cases h), Nat.le_refl _, rfl⟩ (fun i σ J _ h => .inl (.inl (h.1 _ _ hz.1))) ?_ ?_⟩
  · rintro i x σ J hx ⟨sJ, ks, v2, eD, ek, sub, lk, rfl⟩
    have il := (List.getElem?_eq_some_iff.mp hx).1
    rw [List.length_map] at il
    rw [List.getElem?_map] at hx
    obtain ⟨z, hzi, rfl⟩ := Option.map_eq_some_iff.mp hx
    have mz := List.mem_of_getElem? hzi
    have et : (zs.take (i + 1)).map (·.2) = (zs.take i).map (·.2) ++ [z.2] := by rw [List.take_add_one, hzi, List.map_append]; rfl
    refine ⟨fun k σ J' => ∃ kt : List (Addr × P2), k = kt.length ∧ Same H J' ∧ J' D = some (.lst (kt.reverse.map fun z => .ref z.1)) ∧ popW z.2 (kt.map (·.2)) = popW z.2 (ks.map (·.2)) ∧ (∀ z ∈ kt, z ∈ zs) ∧ kt.length ≤ i ∧ σ = [some (.ref L), some (.ref D), some (.ref z.1)], ⟨ks.length, ks, rfl, sJ, eD, rfl, sub, lk, rfl⟩, ?_⟩
    rintro k σ J' ⟨kt, rfl, sJ', eD', ep, sub', lk', rfl⟩
    have fin : popW z.2 (kt.map (·.2)) = kt.map (·.2) → Same H (upd J' D (.lst ((kt.reverse.map fun z => V.ref z.1) ++ [.ref z.1]))) ∧ ∃ (ks : List (Addr × P2)) (v2 : Option V), upd J' D (.lst ((kt.reverse.map fun z => V.ref z.1) ++ [.ref z.1])) D = some (.lst (ks.reverse.map fun z => .ref z.1)) ∧ ks.map (·.2) = halfS [] ((zs.take (i + 1)).map (·.2)) ∧ (∀ z ∈ ks, z ∈ zs) ∧ ks.length ≤ i + 1 ∧ [some (V.ref L), some (.ref D), some (.ref z.1)] = [some (.ref L), some (.ref D), v2] := fun h => by
      refine ⟨Same.upd sJ' hD, z :: kt, _, ?_, ?_, fun y hy => ?_, by simp; omega, rfl⟩
      · rw [upd_same, List.reverse_cons, List.map_append]
        rfl
      · rw [et, half_app, ← ek, ← ep, h]
        rfl
      · rcases List.mem_cons.mp hy with rfl | hy
        · exact mz
        · exact sub' y hy
    have sml : (kt.reverse.map fun z => V.ref z.1).length < sizeLine := by rw [List.length_map, List.length_reverse]; exact Nat.lt_of_le_of_lt (show kt.length ≤ 1000 by omega) (by decide)
    refine ⟨_, rfl, _, _, rfl, lenVX (.inl (.inl (.inl eD'))), _, _, rfl, rfl, _, rfl, ?_⟩
    rw [List.length_map, List.length_reverse]
    match kt, ep, sub', lk', eD', fin, sml with
    | [], ep, sub', lk', eD', fin, sml => exact iteN (by simp) (iteF ⟨_, rfl, .inl ⟨rfl, _, .inl (.inl eD')⟩, _, rfl, D, _, _, rfl, rfl, eD', sml, fin rfl⟩)
    | [b], ep, sub', lk', eD', fin, sml => exact iteN (by simp) (iteF ⟨_, rfl, .inl ⟨rfl, _, .inl (.inl eD')⟩, _, rfl, D, _, _, rfl, rfl, eD', sml, fin rfl⟩)
    | b :: a :: r, ep, sub', lk', eD', fin, sml =>
      refine iteY (by simp; omega) ?_
      have ea : (b :: a :: r).reverse.map (fun z => V.ref z.1) = (r.reverse.map fun z => V.ref z.1) ++ [.ref a.1, .ref b.1] := by simp
      have mb := sub' b (by simp)
      have ma := sub' a (by simp)
      have e1 : atI ((b :: a :: r).reverse.map fun z => V.ref z.1) (-2) = some (.ref a.1) := by rw [ea]; exact at_last2 _ _ _
      have e2 : atI ((b :: a :: r).reverse.map fun z => V.ref z.1) (-1) = some (.ref b.1) := by
        rw [ea, show (r.reverse.map fun z => V.ref z.1) ++ [V.ref a.1, .ref b.1] = ((r.reverse.map fun z => V.ref z.1) ++ [V.ref a.1]) ++ [.ref b.1] by simp]
        exact atI_last _ _
      refine ⟨_, rfl, _, rfl, ixX (.inl (.inl (.inl eD'))) e1 ⟨_, rfl, _, rfl, ixX (.inl (.inl (.inl eD'))) e2 ⟨_, rfl, rfl, rfl, ?_⟩⟩⟩
      refine ⟨_, _, _, rfl, a.1, b.1, z.1, a.2, b.2, z.2, rfl, rfl, rfl, (hz.2 a ma).same sJ', (hz.2 b mb).same sJ', (hz.2 z mz).same sJ', hs a ma, hs b mb, hs z mz, _, _, rfl, rfl, _, rfl, ?_⟩
      by_cases c : crP a.2 b.2 z.2 ≤ 0
      · refine iteY (by simpa using c) ⟨fun σ J2 => J2 = upd J' D (.lst ((a :: r).reverse.map fun z => .ref z.1)) ∧ σ = [some (.ref L), some (.ref D), some (.ref z.1)], fun σ J2 h => ⟨(a :: r).length, by simp, a :: r, rfl, by rw [h.1]; exact Same.upd sJ' hD, by rw [h.1]; exact upd_same, ?_, fun y hy => sub' y (List.mem_cons_of_mem _ hy), by simp at lk' ⊢; omega, h.2⟩, ?_⟩
        · rw [← ep]
          show _ = (if crP a.2 b.2 z.2 ≤ 0 then popW z.2 ((a :: r).map (·.2)) else _)
          rw [if_pos c]
        · refine ⟨_, rfl, .inl ⟨rfl, _, .inl (.inl eD')⟩, D, _, .ref b.1, rfl, rfl, eD', ?_, ?_⟩
          · rw [ea]
            simp
          · refine ⟨?_, rfl⟩
            rw [ea]
            have : ((r.reverse.map fun z => V.ref z.1) ++ [V.ref a.1, .ref b.1]).dropLast = (a :: r).reverse.map fun z => V.ref z.1 := by simp [List.dropLast_append_of_ne_nil]
            rw [this]
      · refine iteN (by simpa using c) ⟨_, rfl, .inl ⟨rfl, _, .inl (.inl eD')⟩, _, rfl, D, _, _, rfl, rfl, eD', sml, fin ?_⟩
        show (if crP a.2 b.2 z.2 ≤ 0 then popW z.2 ((a :: r).map (·.2)) else _) = _
        rw [if_neg c]
        rfl
  · rintro σ J ⟨sJ, ks, v2, eD, ek, sub, lk, rfl⟩
    rw [List.length_map, List.take_length] at ek
    refine ⟨_, rfl, q D ks.reverse J sJ ⟨eD, fun z hz' => (hz.2 z (sub z (List.mem_reverse.mp hz'))).same sJ⟩ ?_ fun z hz' => sub z (List.mem_reverse.mp hz')⟩
    rw [List.map_reverse, ek]
    rfl
/-! the law's order of points -/
def dpQ (p : P2) : PyData := .tuple [.int p.1, .int p.2]
abbrev ltQ (a b : P2) : Bool := PySem.W.dataLt (dpQ a) (dpQ b)
theorem ltQ_is (a b : P2) : ltQ a b = true ↔ lxL a b := by
  have e : ∀ x y : Int, (itemLt (Sum.inl x) (Sum.inl y) : Bool) = decide (x < y) := fun x y => rfl
  unfold ltQ dpQ
  rw [PySem.W.dataLt_tuple]
  simp [PySem.W.keyToksAll, PySem.W.keyToks, PyProof.Rows.lexLt, PyProof.Rows.itemOrd, e]
  unfold lxL
  omega
end
end W

namespace W
open PySem PySem.Spec PyProof.Rows L2
/-! insertion (Swo and posR_srt as in the part sorted: take one) -/
open S
section
variable {α : Type} {lt : α → α → Bool}
structure Swo (lt : α → α → Bool) : Prop where
  irr : ∀ a, lt a a = false
  tr : ∀ {a b c}, lt a b = true → lt b c = true → lt a c = true
  neg : ∀ {a b c}, lt a c = true → lt a b = true ∨ lt b c = true
theorem posR_srt (lt : α → α → Bool) (x : α) (out : List α) : ∀ k, k ≤ out.length → (∀ j e, posR lt x out k ≤ j → j < k → out[j]? = some e → lt x e = true) ∧ ∀ e, 0 < posR lt x out k → out[posR lt x out k - 1]? = some e → lt x e = false
  | 0, _ => ⟨(fun j e _ h => by omega), fun e h => by unfold posR at h; omega⟩
  | k + 1, hk => by
    have ih := posR_srt lt x out k (by omega)
    have hk' := List.getElem?_eq_getElem (show k < out.length by omega)
    unfold posR
    unfold ltAt
    rw [hk']
    show (∀ j e, (if lt x out[k] = true then posR lt x out k else k + 1) ≤ j → _) ∧ _
    by_cases c : lt x out[k] = true
    · rw [if_pos c]
      refine ⟨fun j e h1 h2 h3 => ?_, ih.2⟩
      by_cases e1 : j = k
      · subst e1
        rw [hk'] at h3
        cases h3
        exact c
      · exact ih.1 j e h1 (by omega) h3
    · rw [if_neg c]
      refine ⟨fun j e h1 h2 => by omega, fun e _ h => ?_⟩
      rw [Nat.add_sub_cancel, hk'] at h
      cases h
      simpa using c
end
theorem ins_strict {α : Type} {lt : α → α → Bool} (o : Swo lt) {out : List α} (h : out.Pairwise fun a b => lt a b = true) {x : α} (hp : posR lt x out out.length = 0 ∨ ∃ e, out[posR lt x out out.length - 1]? = some e ∧ lt e x = true) : (insR lt out x).Pairwise fun a b => lt a b = true := by
  unfold insR
  obtain ⟨h1, _⟩ := posR_srt lt x out out.length (Nat.le_refl _)
  have hq := posR_le lt x out out.length
  generalize posR lt x out out.length = p at h1 hp hq
  have up : ∀ e ∈ out.drop p, lt x e = true := fun e he => by
    obtain ⟨j, hj⟩ := List.getElem?_of_mem he
    rw [List.getElem?_drop] at hj
    have := (List.getElem?_eq_some_iff.mp hj).1
    exact h1 (p + j) e (by omega) this hj
  have dn : ∀ e ∈ out.take p, lt e x = true := fun e he => by
    obtain ⟨j, hj⟩ := List.getElem?_of_mem he
    have jl := (List.getElem?_eq_some_iff.mp hj).1
    rw [List.length_take] at jl
    rw [List.getElem?_take_of_lt (by omega)] at hj
    rcases hp with hp | ⟨y, ey, hy⟩
    · omega
    · by_cases e1 : j = p - 1
      · rw [e1, ey] at hj
        cases hj
        exact hy
      · have hj2 := List.getElem?_eq_some_iff.mp hj
        have hy2 := List.getElem?_eq_some_iff.mp ey
        have := List.pairwise_iff_getElem.mp h j (p - 1) (by omega) (by omega) (by omega)
        rw [hj2.2, hy2.2] at this
        exact o.tr this hy
  have hs := List.take_append_drop p out
  have hpw := h
  rw [← hs] at hpw
  obtain ⟨a1, a2, a3⟩ := List.pairwise_append.mp hpw
  rw [List.append_assoc]
  refine List.pairwise_append.mpr ⟨a1, List.pairwise_append.mpr ⟨List.pairwise_singleton _ _, a2, fun a ha b hb => ?_⟩, fun a ha b hb => ?_⟩
  · rw [List.mem_singleton.mp ha]
    exact up b hb
  · rcases List.mem_append.mp hb with hb | hb
    · rw [List.mem_singleton.mp hb]
      exact dn a ha
    · exact a3 a ha b hb
end W

namespace W
open PySem PySem.Spec PyProof.Rows L2
section
variable {P : Program} {w : World} {K : S.Frag} {mg : Str → Option Value} {base : Heap}
open S
theorem dp_pt {H : Hp} {a : Addr} {p : P2} (h : PtA H a p) : Dp K H (.ref a) (dpQ p) := .tup (.inl (.inl h)) (.cons (.int _) (.cons (.int _) .nil))
theorem pt_eqv (a b : P2) : PyData.eqv (dpQ a) (dpQ b) = decide (a = b) := by
  obtain ⟨a1, a2⟩ := a
  obtain ⟨b1, b2⟩ := b
  unfold dpQ
  simp only [PyData.eqv, PyData.eqvAll]
  rw [Bool.eq_iff_iff]
  simp
theorem pt_alike (a b : P2) : PySem.W.alike (dpQ a) (dpQ b) = true := by
  unfold dpQ
  simp [PySem.W.alike, PySem.W.alikeAll]
theorem PtA.inj {H : Hp} {a : Addr} {p q : P2} (h : PtA H a p) (h' : PtA H a q) : p = q := by
  unfold PtA at h h'
  rw [h] at h'
  obtain ⟨p1, p2⟩ := p
  obtain ⟨q1, q2⟩ := q
  simpa using h'
def ptF (zs : List (Addr × P2)) (p : P2) : V → Bool
  | .ref b => zs.any fun y => decide (y.1 = b) && decide (y.2 = p)
  | _ => false
theorem in_pts {H : Hp} {L a : Addr} {zs : List (Addr × P2)} {p : P2} (hz : PtsA H L zs) (hp : PtA H a p) (neg : Bool) {Q : VK} (q : Q (.bl (if neg then !decide (p ∈ zs.map (·.2)) else decide (p ∈ zs.map (·.2)))) H) : rInG K neg (.ref a) (.ref L) H Q := by
  have e1 : ∀ z ∈ zs, ptF zs p (.ref z.1) = decide (z.2 = p) := fun z hz' => by
    show (zs.any fun y => decide (y.1 = z.1) && decide (y.2 = p)) = decide (z.2 = p)
    by_cases c : z.2 = p
    · rw [decide_eq_true c]
      exact List.any_eq_true.mpr ⟨z, hz', by simp [c]⟩
    · rw [decide_eq_false c]
      refine Bool.eq_false_iff.mpr fun h => ?_
      obtain ⟨y, hy, h⟩ := List.any_eq_true.mp h
      simp only [Bool.and_eq_true, decide_eq_true_eq] at h
      have h1 := hz.2 y hy
      rw [h.1] at h1
      exact c ((hz.2 z hz').inj h1 ▸ h.2)
  have e2 : (zs.map fun z => V.ref z.1).any (ptF zs p) = decide (p ∈ zs.map (·.2)) := by
    by_cases c : p ∈ zs.map (·.2)
    · rw [decide_eq_true c]
      obtain ⟨z, hz', e⟩ := List.mem_map.mp c
      exact List.any_eq_true.mpr ⟨.ref z.1, List.mem_map.mpr ⟨z, hz', rfl⟩, by rw [e1 z hz']; simpa using e⟩
    · rw [decide_eq_false c]
      refine Bool.eq_false_iff.mpr fun h => ?_
      obtain ⟨v, hv, h⟩ := List.any_eq_true.mp h
      obtain ⟨z, hz', rfl⟩ := List.mem_map.mp hv
      rw [e1 z hz'] at h
      exact c (List.mem_map.mpr ⟨z, hz', by simpa using h⟩)
  refine ⟨L, _, 20, ptF zs p, rfl, .inl (.inl (.inl hz.1)), by decide, fun v hv => ?_, by rw [e2]; exact q⟩
  obtain ⟨z, hz', rfl⟩ := List.mem_map.mp hv
  rw [e1 z hz', ← pt_eqv]
  exact (eg_dat (K := K) (dp_pt (hz.2 z hz')) (dp_pt hp) rfl rfl).at_.up (by unfold dpQ; simp [PyData.depth, PyData.depthAll])
theorem swo_Q : Swo ltQ where
  irr := fun a => by
    refine Bool.eq_false_iff.mpr fun h => ?_
    exact lxL.irr ((ltQ_is a a).mp h)
  tr := fun {a b c} h1 h2 => (ltQ_is a c).mpr (((ltQ_is a b).mp h1).trans ((ltQ_is b c).mp h2))
  neg := fun {a b c} h => by
    have h := (ltQ_is a c).mp h
    rcases lxL.tri a b with rfl | k | k
    · exact .inr ((ltQ_is a c).mpr h)
    · exact .inl ((ltQ_is a b).mpr k)
    · exact .inr ((ltQ_is b c).mpr (k.trans h))
abbrev ltY (a b : Addr × P2) : Bool := ltQ a.2 b.2
theorem swo_Y : Swo ltY := ⟨fun a => swo_Q.irr a.2, fun h1 h2 => swo_Q.tr h1 h2, fun h => swo_Q.neg h⟩
theorem insY {out : List (Addr × P2)} (h : out.Pairwise fun a b => ltY a b = true) {z : Addr × P2} (hn : z.2 ∉ out.map (·.2)) : (insR ltY out z).Pairwise fun a b => ltY a b = true := by
  refine ins_strict swo_Y h ?_
  obtain ⟨_, h2⟩ := posR_srt ltY z out out.length (Nat.le_refl _)
  by_cases c : posR ltY z out out.length = 0
  · exact .inl c
  · refine .inr ?_
    have hp := posR_le ltY z out out.length
    have he := List.getElem?_eq_getElem (show posR ltY z out out.length - 1 < out.length by omega)
    refine ⟨_, he, ?_⟩
    have h3 := h2 _ (by omega) he
    have me := List.mem_of_getElem? he
    generalize out[posR ltY z out out.length - 1] = e at h3 me
    rcases lxL.tri z.2 e.2 with k | k | k
    · exact absurd (List.mem_map.mpr ⟨e, me, k.symm⟩) hn
    · rw [show ltY z e = true from (ltQ_is z.2 e.2).mpr k] at h3
      cases h3
    · exact (ltQ_is e.2 z.2).mpr k
theorem insY_perm (out : List (Addr × P2)) (z : Addr × P2) : ∀ y, y ∈ insR ltY out z ↔ y = z ∨ y ∈ out := fun y => by
  unfold insR
  have e : y ∈ out ↔ y ∈ out.take (posR ltY z out out.length) ++ out.drop (posR ltY z out out.length) := by rw [List.take_append_drop]
  rw [e]
  simp only [List.mem_append, List.mem_singleton]
  constructor
  · rintro ((h | h) | h)
    · exact .inr (.inl h)
    · exact .inl h
    · exact .inr (.inr h)
  · rintro (h | h | h)
    · exact .inl (.inr h)
    · exact .inl (.inl h)
    · exact .inr h
def spArrQ (K : S.Frag) : Sp := Sp1 fun x H Q _ => ∃ (R : Addr) (zs : List (Addr × P2)), x = .ref R ∧ PtsA H R zs ∧ zs.length ≤ 64 ∧ ∀ L ws H', Same H H' → PtsA H' L ws → (ws.map (·.2)).Pairwise lxL → (∀ y ∈ ws, y ∈ zs) → (∀ y ∈ zs, y.2 ∈ ws.map (·.2)) → ws.length ≤ zs.length → Q (.ref L) H'
theorem ok__law_arranged (T : Txt K mg) : FnOk P w K mg base (L2.CX P w) 1 (He.fAd K ("_law_arranged", none)) (S.fdA K ("_law_arranged", none)) ["_law_points"] (spArrQ K) := by
  refine FunD.ok T.F__law_arranged sc__law_arranged (fun vs H Q E h => S.splen1 h) (fun cdv A outer s H vs Q E hr h => ?_)
  have hu := hu_of hr
  refine ⟨_, (pss_cons (ps_set (i := 1) sc__law_arranged.nd rfl (by first | exact Or.inl rfl | exact Or.inr rfl) (pe_lst pa_nil))
      (pss_cons (ps_for (S.own_of rfl) rfl (S.pi_listK (K := K) rfl (pv 0)) (pg_name (i := 2) sc__law_arranged.nd rfl (by first | exact Or.inl rfl | exact Or.inr rfl))
        (pss_one (ps_if (pt_cmpR (S.notInGK (K := K) rfl (S.hu64 hr)) (pv 2) (pv 1) rfl) (pss_cons (ps_set (i := 3) sc__law_arranged.nd rfl (by first | exact Or.inl rfl | exact Or.inr rfl) (pe_callB (S.lenK (K := K) rfl) rfl T.n_len S.boot_len (pa_cons (pv 1) pa_nil)))
      (pss_cons (ps_while (S.own_of rfl) (PW.pt (pw_and (pt_cmpR op_gt (pv 3) pe_int (nomark _)) (pw_and1 (pt_cmpR (S.ltDK (K := K) rfl (S.hu64 hr)) (pv 2) (pe_ix (S.ixK (K := K) rfl) (pv 1) (pe_op op_sub (pv 3) pe_int) (fun _ _ => rfl)) (nomark _)))))
        (pss_one (ps_set (i := 3) sc__law_arranged.nd rfl (by first | exact Or.inl rfl | exact Or.inr rfl) (pe_op op_sub (pv 3) pe_int))))
      (pss_one (ps_expr (pe_bm PySem.F.plainAttrs_list PySem.F.slot_list_insert PySem.F.type_list_insert mt_insert (pv 1) (pa_cons (pv 3) (pa_cons (pv 2) pa_nil))))))) pss_nil)))
      (pss_one (ps_ret (pv 1))))), ?_⟩
  obtain ⟨_, rfl, R, zs, rfl, hR, lz, q⟩ := h
  refine ⟨by show 0 ≤ sizeLine; decide, fun D hD => ?_⟩
  have sD := Same.new (o := .lst []) hD
  have eDn := upd_same (H := H) (a := D) (o := .lst [])
  generalize upd H D (.lst []) = J0 at sD eDn
  refine ⟨_, rfl, R, rfl, ⟨_, .inl (.inl (sD _ _ hR.1))⟩, for_list (xs := zs.map fun z => V.ref z.1) (fun i σ J => Same H J ∧ ∃ out : List (Addr × P2), J D = some (.lst (out.map fun z => .ref z.1)) ∧ (out.Pairwise fun a b => ltY a b = true) ∧ (∀ y ∈ out, y ∈ zs) ∧ (∀ y ∈ zs.take i, y.2 ∈ out.map (·.2)) ∧ out.length ≤ i ∧ ∃ v3 v4, σ = [some (.ref R), some (.ref D), v3, v4]) ⟨sD, [], eDn, .nil, (fun _ h => by cases h), (fun _ h => by cases h), Nat.le_refl _, _, _, rfl⟩ (fun i σ J _ h => .inl (.inl (h.1 _ _ hR.1))) ?_ ?_⟩
  · rintro i x σ J hx ⟨sJ, out, eD, pw, mo, cov, lo, v3, v4, rfl⟩
    have il := (List.getElem?_eq_some_iff.mp hx).1
    rw [List.length_map] at il
    rw [List.getElem?_map] at hx
    obtain ⟨z, hz, rfl⟩ := Option.map_eq_some_iff.mp hx
    have mz := List.mem_of_getElem? hz
    have hzs : ∀ y ∈ zs, PtA J y.1 y.2 := fun y hy => (hR.2 y hy).same sJ
    have et : zs.take (i + 1) = zs.take i ++ [z] := by rw [List.take_add_one, hz]; rfl
    refine ⟨_, rfl, _, rfl, in_pts (zs := out) ⟨eD, fun y hy => hzs y (mo y hy)⟩ (hzs z mz) true ⟨_, rfl, ?_⟩⟩
    by_cases c : z.2 ∈ out.map (·.2)
    · refine iteN (by rw [if_pos rfl, decide_eq_true c]; decide) ⟨sJ, out, eD, pw, mo, fun y hy => ?_, by omega, _, _, rfl⟩
      rw [et] at hy
      rcases List.mem_append.mp hy with hy | hy
      · exact cov y hy
      · rw [List.mem_singleton.mp hy]
        exact c
    · refine iteY (by rw [if_pos rfl, decide_eq_false c]; decide) ⟨_, rfl, _, _, rfl, lenVX (.inl (.inl (.inl eD))), ?_⟩
      rw [List.length_map]
      refine ⟨fun k σ J' => J' = J ∧ k ≤ out.length ∧ posR ltY z out k = posR ltY z out out.length ∧ σ = [some (.ref R), some (.ref D), some (.ref z.1), some (.int (k : Int))], ⟨out.length, rfl, Nat.le_refl _, rfl, rfl⟩, ?_⟩
      rintro k σ J' ⟨rfl, kl, ep, rfl⟩
      have sml : (out.map fun z => V.ref z.1).length < sizeLine := by rw [List.length_map]; exact Nat.lt_of_le_of_lt (show out.length ≤ 1000 by omega) (by decide)
      have lom : (out.map fun z => V.ref z.1).length = out.length := List.length_map _
      have inv : ∀ k, posR ltY z out out.length = k → (out.map fun z => V.ref z.1).take k ++ [V.ref z.1] ++ (out.map fun z => V.ref z.1).drop k = (insR ltY out z).map fun z => V.ref z.1 := fun k e => by
        unfold insR
        rw [e, List.map_append, List.map_append, List.map_take, List.map_drop]
        rfl
      have fin : ∀ (k : Nat), posR ltY z out out.length = k → ∀ J2, J2 = upd J' D (.lst ((out.map fun z => V.ref z.1).take k ++ [V.ref z.1] ++ (out.map fun z => V.ref z.1).drop k)) → Same H J2 ∧ ∃ out : List (Addr × P2), J2 D = some (.lst (out.map fun z => .ref z.1)) ∧ (out.Pairwise fun a b => ltY a b = true) ∧ (∀ y ∈ out, y ∈ zs) ∧ (∀ y ∈ zs.take (i + 1), y.2 ∈ out.map (·.2)) ∧ out.length ≤ i + 1 ∧ ∃ v3 v4, [some (V.ref R), some (V.ref D), some (V.ref z.1), some (V.int (k : Int))] = [some (.ref R), some (.ref D), v3, v4] := fun k e J2 e2 => by
        subst e2
        refine ⟨Same.upd sJ hD, insR ltY out z, by rw [upd_same, inv k e], insY pw c, fun y hy => ?_, fun y hy => ?_, ?_, _, _, rfl⟩
        · rcases (insY_perm out z y).mp hy with rfl | hy
          · exact mz
          · exact mo y hy
        · rw [et] at hy
          rcases List.mem_append.mp hy with hy | hy
          · obtain ⟨u, hu, e3⟩ := List.mem_map.mp (cov y hy)
            exact List.mem_map.mpr ⟨u, (insY_perm out z u).mpr (.inr hu), e3⟩
          · rw [List.mem_singleton.mp hy]
            exact List.mem_map.mpr ⟨z, (insY_perm out z z).mpr (.inl rfl), rfl⟩
        · have := congrArg List.length (inv k e)
          rw [List.length_map] at this
          rw [← this, List.length_append, List.length_append, List.length_take, List.length_drop, lom]
          simp
          omega
      refine ⟨_, rfl, _, _, rfl, rfl, _, rfl, ?_⟩
      cases k with
      | zero =>
        refine iteN (by simp) ?_
        exact ⟨_, rfl, .inl ⟨rfl, _, .inl (.inl eD)⟩, _, rfl, _, rfl, D, _, ((0 : Nat) : Int), _, rfl, rfl, eD, sml, by omega, by omega, fin 0 ep.symm _ rfl⟩
      | succ k =>
        have ey := List.getElem?_eq_getElem (show k < out.length by omega)
        have my := mo _ (List.getElem_mem (show k < out.length by omega))
        have e1 : ((k + 1 : Nat) : Int) - 1 = (k : Int) := by omega
        generalize out[k] = y at ey my
        have el : ltAt ltY z out k = ltY z y := by
          unfold ltAt
          rw [ey]
        have pu : posR ltY z out (k + 1) = if ltY z y = true then posR ltY z out k else k + 1 := by
          show (if ltAt _ z out k = true then _ else _) = _
          rw [el]
        refine iteY (by simp) ⟨_, rfl, _, rfl, _, rfl, _, _, rfl, rfl, ?_⟩
        refine ixX (.inl (.inl (.inl eD))) (show atI (out.map fun z => V.ref z.1) (((k + 1 : Nat) : Int) - 1) = some (.ref y.1) by rw [e1]; exact atI_nat (by rw [List.getElem?_map, ey]; rfl)) ?_
        refine ⟨dpQ z.2, dpQ y.2, dp_pt (hzs z mz), dp_pt (hzs y my), pt_alike _ _, (by intro e; cases e), (by unfold dpQ; simp [PyData.depth, PyData.depthAll]), _, rfl, ?_⟩
        cases cl : ltY z y with
        | true =>
          rw [cl, if_pos rfl] at pu
          refine iteY cl ⟨fun σ J2 => J2 = J' ∧ σ = [some (.ref R), some (.ref D), some (.ref z.1), some (.int (k : Int))], fun σ J2 h => ⟨k, by omega, h.1, by omega, by rw [← ep, pu], h.2⟩, ?_⟩
          refine ⟨_, rfl, _, _, rfl, rfl, rfl, ?_⟩
          show [some (V.ref R), some (V.ref D), some (V.ref z.1), some (V.int (((k + 1 : Nat) : Int) - 1))] = _
          rw [e1]
        | false =>
          rw [cl, if_neg Bool.false_ne_true] at pu
          refine iteN (by rw [show PySem.W.dataLt (dpQ z.2) (dpQ y.2) = false from cl]; exact Bool.false_ne_true) ?_
          exact ⟨_, rfl, .inl ⟨rfl, _, .inl (.inl eD)⟩, _, rfl, _, rfl, D, _, ((k + 1 : Nat) : Int), _, rfl, rfl, eD, sml, by omega, by omega, fin (k + 1) (by rw [← ep, pu]) _ rfl⟩
  · rintro σ J ⟨sJ, out, eD, pw, mo, cov, lo, v3, v4, rfl⟩
    rw [List.take_of_length_le (by rw [List.length_map]; exact Nat.le_refl _)] at cov
    rw [List.length_map] at lo
    refine ⟨_, rfl, q D out J sJ ⟨eD, fun z hz => (hR.2 z (mo z hz)).same sJ⟩ ?_ mo cov lo⟩
    exact List.pairwise_map.mpr (pw.imp fun h => (ltQ_is _ _).mp h)
end
end W

namespace W
open PySem PySem.Spec PyProof.Rows L2
section
variable {P : Program} {w : World} {K : S.Frag} {mg : Str → Option Value} {base : Heap}
open S
/-- the law's hull of some points -/
def HullA (H : Hp) (A : Addr) (ks : List (Addr × P2)) : Prop := PtsA H A ks
theorem cut_init (xs : List V) : cutV xs none (some (-1)) = xs.dropLast := by
  unfold cutV
  rw [List.dropLast_eq_take]
  show (xs.drop 0).take _ = _
  rw [List.drop_zero]
  congr 1
  unfold HT.sIx
  simp
  try omega
theorem popW_len (p : P2) : ∀ k : List P2, (popW p k).length ≤ k.length
  | [] => Nat.le_refl _
  | [_] => Nat.le_refl _
  | b :: a :: r => by
    show (if crP a b p ≤ 0 then popW p (a :: r) else b :: a :: r).length ≤ _
    split
    · exact Nat.le_trans (popW_len p (a :: r)) (Nat.le_succ _)
    · exact Nat.le_refl _
theorem halfS_len : ∀ ps k : List P2, (halfS k ps).length ≤ k.length + ps.length
  | [], k => Nat.le_refl _
  | p :: ps, k => by
    have := halfS_len ps (p :: popW p k)
    have h2 := popW_len p k
    show (halfS (p :: popW p k) ps).length ≤ _
    simp only [List.length_cons] at this ⊢
    omega
theorem loM_len (ps : List P2) : (loM ps).length ≤ ps.length := by
  have := halfS_len ps []
  unfold loM
  rw [List.length_reverse]
  simpa using this
def spLHull (K : S.Frag) : Sp := Sp1 fun x H Q _ => ∃ (R : Addr) (zs : List (Addr × P2)), x = .ref R ∧ PtsA H R zs ∧ zs ≠ [] ∧ zs.length ≤ 64 ∧ (∀ z ∈ zs, smP z.2) ∧
  ∀ A ks (ps : List P2) H', Same H H' → PtsA H' A ks → ps.Pairwise lxL → (ks.length = 1 ∧ ps = ks.map (·.2) ∨ 2 ≤ ps.length ∧ ks.map (·.2) = hullM ps) → (∀ z ∈ ks, z ∈ zs) → ks.length ≤ 128 → Q (.ref A) H'
theorem ok__law_hull (T : Txt K mg) : FnOk P w K mg base (L2.CX P w) 3 (He.fAd K ("_law_hull", none)) (S.fdA K ("_law_hull", none)) ["_law_points"] (spLHull K) := by
  have G__law_arranged := ok__law_arranged (P := P) (w := w) (base := base) T
  have G__law_half := ok__law_half (P := P) (w := w) (base := base) T
  refine FunD.ok T.F__law_hull sc__law_hull (fun vs H Q E h => S.splen1 h) (fun cdv A outer s H vs Q E hr h => ?_)
  have hu := hu_of hr
  refine ⟨_, (pss_cons (ps_set (i := 1) sc__law_hull.nd rfl (by first | exact Or.inl rfl | exact Or.inr rfl) (S.pe_fnS G__law_arranged (hr.mono (by decide)) rfl T.g__law_arranged T.F__law_arranged.kp (kb__law_arranged_1 T) S.pas0 (pa_cons (pv 0) pa_nil) pk_nil rfl rfl))
      (pss_cons (ps_if (pt_cmpR op_eq (pe_callB (S.lenK (K := K) rfl) rfl T.n_len S.boot_len (pa_cons (pv 1) pa_nil)) pe_int (nomark _)) (pss_one (ps_ret (pv 1))) pss_nil)
      (pss_one (ps_ret (pe_op op_cat (pe_slice (S.slLK (K := K) rfl) (S.pe_fnS G__law_half (hr.mono (by decide)) rfl T.g__law_half T.F__law_half.kp (kb__law_half_1 T) S.pas0 (pa_cons (pv 1) pa_nil) pk_nil rfl rfl) po_none (po_some (pe_un un_neg pe_int))) (pe_slice (S.slLK (K := K) rfl) (S.pe_fnS G__law_half (hr.mono (by decide)) rfl T.g__law_half T.F__law_half.kp (kb__law_half_1 T) S.pas0 (pa_cons (S.pe_revK (K := K) rfl (pv 1)) pa_nil) pk_nil rfl rfl) po_none (po_some (pe_un un_neg pe_int)))))))), ?_⟩
  obtain ⟨_, rfl, R, zs, rfl, hR, ne, lz, sm, q⟩ := h
  refine ⟨_, rfl, rfl, rfl, _, rfl, R, zs, rfl, hR, lz, fun L ws H1 s1 hL pw sub cov lw => ?_⟩
  refine ⟨_, rfl, _, _, rfl, lenVX (.inl (.inl (.inl hL.1))), rfl, _, rfl, ?_⟩
  rw [List.length_map]
  have wne : ws ≠ [] := fun e => by
    obtain ⟨z, hz⟩ := List.exists_mem_of_ne_nil _ ne
    have := cov z hz
    rw [e] at this
    cases this
  by_cases c : ws.length = 1
  · refine iteY (by simp [c]) ⟨_, rfl, q L ws (ws.map (·.2)) H1 s1 hL pw (.inl ⟨c, rfl⟩) sub (by omega)⟩
  · have lw2 : 2 ≤ ws.length := by
      have := List.length_pos_iff.mpr wne
      omega
    refine iteN (by simp; omega) ?_
    have smw : ∀ z ∈ ws, smP z.2 := fun z hz => sm z (sub z hz)
    refine ⟨_, rfl, rfl, rfl, _, rfl, L, ws, rfl, hL, smw, by omega, fun A1 k1 H2 s2 h1 e1 b1 => ⟨_, rfl, _, rfl, A1, _, rfl, .inl (.inl h1.1), fun B1 hB1 => ?_⟩⟩
    rw [cut_init]
    have sB := Same.new (o := .lst ((k1.map fun z => V.ref z.1).dropLast)) hB1
    have eB := upd_same (H := H2) (a := B1) (o := .lst ((k1.map fun z => V.ref z.1).dropLast))
    generalize upd H2 B1 (.lst ((k1.map fun z => V.ref z.1).dropLast)) = H3 at sB eB
    have hL3 := hL.same (s2.trans sB)
    refine ⟨_, rfl, L, _, rfl, .inl (.inl hL3.1), fun R2 hR2 => ?_⟩
    have sR := Same.new (o := .lst ((ws.map fun z => V.ref z.1).reverse)) hR2
    have eR := upd_same (H := H3) (a := R2) (o := .lst ((ws.map fun z => V.ref z.1).reverse))
    generalize upd H3 R2 (.lst ((ws.map fun z => V.ref z.1).reverse)) = H4 at sR eR
    rw [← List.map_reverse] at eR
    refine ⟨rfl, rfl, _, rfl, R2, ws.reverse, rfl, ⟨eR, fun z hz => (hL3.same sR).2 z (List.mem_reverse.mp hz)⟩, fun z hz => smw z (List.mem_reverse.mp hz), by rw [List.length_reverse]; omega, fun A2 k2 H5 s5 h2 e2 b2 => ⟨_, rfl, _, rfl, A2, _, rfl, .inl (.inl h2.1), fun B2 hB2 => ?_⟩⟩
    rw [cut_init]
    have sC := Same.new (o := .lst ((k2.map fun z => V.ref z.1).dropLast)) hB2
    have eC := upd_same (H := H5) (a := B2) (o := .lst ((k2.map fun z => V.ref z.1).dropLast))
    generalize upd H5 B2 (.lst ((k2.map fun z => V.ref z.1).dropLast)) = H6 at sC eC
    have eB6 := sC _ _ (s5 _ _ (sR _ _ eB))
    have l1 : k1.length ≤ ws.length := by
      have := congrArg List.length e1
      rw [List.length_map] at this
      rw [this]
      exact Nat.le_trans (loM_len _) (by rw [List.length_map]; exact Nat.le_refl _)
    have l2 : k2.length ≤ ws.length := by
      have := congrArg List.length e2
      rw [List.length_map] at this
      rw [this]
      exact Nat.le_trans (loM_len _) (by rw [List.length_map, List.length_reverse]; exact Nat.le_refl _)
    refine ⟨B1, B2, _, _, rfl, rfl, eB6, eC, ?_, fun A hA => ?_⟩
    · rw [List.length_dropLast, List.length_dropLast, List.length_map, List.length_map]
      exact Nat.le_of_lt (Nat.lt_of_le_of_lt (show k1.length - 1 + (k2.length - 1) ≤ 1000 by omega) (by decide))
    have sA := Same.new (o := .lst ((k1.map fun z => V.ref z.1).dropLast ++ (k2.map fun z => V.ref z.1).dropLast)) hA
    have eA := upd_same (H := H6) (a := A) (o := .lst ((k1.map fun z => V.ref z.1).dropLast ++ (k2.map fun z => V.ref z.1).dropLast))
    generalize upd H6 A (.lst ((k1.map fun z => V.ref z.1).dropLast ++ (k2.map fun z => V.ref z.1).dropLast)) = H7 at sA eA
    have sub' : ∀ z ∈ k1.dropLast ++ k2.dropLast, z ∈ ws := fun z hz => by
      rcases List.mem_append.mp hz with hz | hz
      · exact b1 z (List.dropLast_subset _ hz)
      · exact List.mem_reverse.mp (b2 z (List.dropLast_subset _ hz))
    have s7 := (((sB.trans sR).trans s5).trans sC).trans sA
    refine q A (k1.dropLast ++ k2.dropLast) (ws.map (·.2)) H7 ((s1.trans s2).trans s7) ⟨?_, fun z hz => (hL.2 z (sub' z hz)).same (s2.trans s7)⟩ pw (.inr ⟨by rw [List.length_map]; exact lw2, ?_⟩) (fun z hz => sub z (sub' z hz)) ?_
    · rw [eA, List.map_append, List.map_dropLast, List.map_dropLast]
    · rw [List.map_append, List.map_dropLast, List.map_dropLast, e1, e2, List.map_reverse]
      rfl
    · rw [List.length_append, List.length_dropLast, List.length_dropLast]
      omega
end
end W

namespace W
open PySem PySem.Spec PyProof.Rows L2
section
variable {P : Program} {w : World} {K : S.Frag} {mg : Str → Option Value} {base : Heap}
open S
/-! corners of two shares of one bottom (these stand in k51d and k51f, too) -/
/-- a corner: two shares of one bottom -/
def CrA (K : S.Frag) (n : Int) (H : Hp) (a : Addr) (p : P2) : Prop := ∃ a1 a2, H a = some (.tup [.ref a1, .ref a2]) ∧ Val K H (.ref a1) p.1 n ∧ Val K H (.ref a2) p.2 n
theorem CrA.same {n : Int} {H H' : Hp} {a : Addr} {p : P2} (h : CrA K n H a p) (s : Same H H') : CrA K n H' a p := let ⟨a1, a2, h1, h2, h3⟩ := h; ⟨a1, a2, s _ _ h1, h2.same s, h3.same s⟩
def CrsA (K : S.Frag) (n : Int) (H : Hp) (L : Addr) (zs : List (Addr × P2)) : Prop := H L = some (.tup (zs.map fun z => .ref z.1)) ∧ ∀ z ∈ zs, CrA K n H z.1 z.2
theorem CrsA.same {n : Int} {H H' : Hp} {L : Addr} {zs : List (Addr × P2)} (h : CrsA K n H L zs) (s : Same H H') : CrsA K n H' L zs := ⟨s _ _ h.1, fun z hz => (h.2 z hz).same s⟩
def smR (p : P2) : Prop := p.1.natAbs < 2 ^ 70 ∧ p.2.natAbs < 2 ^ 70
theorem sm_n {n : Int} (h0 : 0 < n) (h1 : n < 2 ^ 31) : sm n := up (m := 31) (by omega) (by decide)
theorem Val.shA {H : Hp} {a : Addr} {S c : Int} (h : Val K H (.ref a) S c) : ∃ T B, ShAt K H a T B ∧ 0 < B ∧ gI T B = 1 ∧ T * c = S * B := by
  obtain ⟨T, B, h1, h2⟩ := h
  rcases h1 with ⟨b, e, h1⟩ | ⟨e, _⟩
  · cases e
    exact ⟨T, B, h1, h2⟩
  · cases e
theorem val_int (H : Hp) (i : Int) : Val K H (.int i) i 1 := ⟨i, 1, .inr ⟨rfl, rfl⟩, by decide, by unfold gI; simp, rfl⟩
theorem ShAt.putL {H : Hp} {a D : Addr} {t b : Int} {xs : List V} {o : HO} (h : ShAt K H a t b) (hD : H D = some (.lst xs)) : ShAt K (upd H D o) a t b := by
  obtain ⟨dx, vs, h, h1, h2⟩ := h
  refine ⟨dx, vs, ?_, h1, h2⟩
  rcases h with ⟨x, y⟩ | ⟨x, y⟩
  · exact .inl ⟨by rw [upd_ne (ne_of x hD (by intro e; cases e))]; exact x, y⟩
  · exact .inr ⟨by rw [upd_ne (ne_of x hD (by intro e; cases e))]; exact x, by rw [upd_ne (ne_of y hD (by intro e; cases e))]; exact y⟩
theorem Val.putL {H : Hp} {a D : Addr} {S c : Int} {xs : List V} {o : HO} (h : Val K H (.ref a) S c) (hD : H D = some (.lst xs)) : Val K (upd H D o) (.ref a) S c := by
  obtain ⟨T, B, h1, h2⟩ := h.shA
  exact ⟨T, B, .inl ⟨a, rfl, h1.putL hD⟩, h2⟩
theorem CrA.putL {n : Int} {H : Hp} {a D : Addr} {p : P2} {xs : List V} {o : HO} (h : CrA K n H a p) (hD : H D = some (.lst xs)) : CrA K n (upd H D o) a p := by
  obtain ⟨a1, a2, h1, h2, h3⟩ := h
  exact ⟨a1, a2, by rw [upd_ne (ne_of h1 hD (by intro e; cases e))]; exact h1, h2.putL hD, h3.putL hD⟩
theorem mkZ {H : Hp} {Z : VK} {E : XK} {t b : Int} {p dx : Addr} (np : H p = none) (ndx : H dx = none) (ne : dx ≠ p) (bt : t.natAbs < 2 ^ 4000) (bb : b.natAbs < 2 ^ 4000) (h : b ≠ 0)
    (k : ∀ (H' : Hp), Same H H' → Val K H' (.ref p) t b → Z .non H') :
    spShare K [.ref p, .int t, .int b] (upd (upd H dx (.own p)) p (.ins (He.ga K "Share") dx [])) Z E := by
  have s0 : Same H (upd (upd H dx (.own p)) p (.ins (He.ga K "Share") dx [])) := Same.upd (Same.new ndx) np
  have du : dueS (.int t) (.int b) = "" := by simp [dueS, isInt, intV, h]
  exact ⟨_, _, _, rfl, p, dx, rfl, upd_same, ne, .int _, .int _, bt, bb, fun e H' kp hp => k H' (fun c o hc => kp c o (s0 c o hc) (ne_of_none hc np) (ne_of_none hc ndx)) ⟨_, _, .inl ⟨p, rfl, hp⟩, loB_pos h, lo_one h, lo_same h⟩, fun e => absurd du e⟩
end
end W

namespace W
open PySem PySem.Spec PyProof.Rows L2
section
variable {P : Program} {w : World} {K : S.Frag} {mg : Str → Option Value} {base : Heap}
open S
/-! inside, by the integers of one common bottom -/
def isNV (x : V) : Prop := (∃ i, x = .int i) ∨ ∃ a, x = .ref a
def spAsSh (K : S.Frag) : Sp := Sp1 fun x H Q _ => ∃ S c, Val K H x S c ∧ 0 < c ∧ sm S ∧ sm c ∧ ∀ a H', Same H H' → Val K H' (.ref a) S c → Q (.ref a) H'
theorem ok_as_share (T : Txt K mg) : FnOk P w K mg base (L2.CX P w) 5 (He.fAd K ("as_share", none)) (S.fdA K ("as_share", none)) ["value"] (spAsSh K) := by
  have G_Share___init__ := ok_Share___init__ (P := P) (w := w) (base := base) T
  refine FunD.ok T.F_as_share sc_as_share (fun vs H Q E h => S.splen1 h) (fun cdv A outer s H vs Q E hr h => ?_)
  have hu := hu_of hr
  refine ⟨_, (pss_cons (ps_if (pt_val (pe_callB (S.isi2K (K := K) rfl (He.ga K "Share")) rfl T.n_isinstance S.boot_isinstance (pa_cons (pv 0) (pa_cons (pe_glob (v := .ref _) rfl T.g_Share rfl) pa_nil)))) (pss_one (ps_ret (pv 0))) pss_nil)
      (pss_one (ps_ret (S.pe_mkS T.mk_Share G_Share___init__ (hr.mono (by decide)) rfl T.g_Share (kb_Share___init___2 T).choose_spec (S.pasE (takes_of rfl rfl rfl rfl)) (pa_cons (pv 0) pa_nil) pk_nil rfl rfl)))), ?_⟩
  obtain ⟨x, rfl, S, c, ⟨t, b, hx, hb, hg, he⟩, c0, sS, sc, q⟩ := h
  rcases id hx with ⟨a, rfl, dx, vs, hs, h0, h1⟩ | ⟨rfl, rfl⟩
  · exact ⟨_, rfl, .inl ⟨a, _, dx, vs, _, true, rfl, rfl, (fun _ z => z), hs, T.sc_Share, T.si_Share, T.ko_Share_Share, _, rfl, iteT ⟨_, rfl, q a H (fun _ _ h => h) ⟨t, b, hx, hb, hg, he⟩⟩⟩⟩
  · obtain ⟨l1, l2⟩ := low_le hb c0 hg he
    refine ⟨_, rfl, .inr ⟨_, _, _, _, false, rfl, .own _, isi_true, T.kb_Share_int, _, rfl, iteF ⟨_, rfl, rfl, rfl, fun a dx np ndx ne => mkZ np ndx ne (up (Nat.lt_of_le_of_lt l1 sS) (by decide)) (by decide) (by decide) fun H2 s2 v1 => ⟨rfl, ?_⟩⟩⟩⟩
    obtain ⟨t', b', k1, k2, k3, k4⟩ := v1
    refine q a H2 s2 ⟨t', b', k1, k2, k3, ?_⟩
    rw [Int.mul_one] at k4 he
    subst k4
    rw [← he]
    grind
theorem CrA.sc {n : Int} {H : Hp} {a : Addr} {p : P2} (h : CrA K n H a p) (k : Int) : CrA K (n * k) H a (p.1 * k, p.2 * k) := by
  obtain ⟨a1, a2, h1, ⟨t, b, x1, x2, x3, x4⟩, ⟨u, v, y1, y2, y3, y4⟩⟩ := h
  exact ⟨a1, a2, h1, ⟨t, b, x1, x2, x3, by rw [← Int.mul_assoc, x4]; grind⟩, ⟨u, v, y1, y2, y3, by rw [← Int.mul_assoc, y4]; grind⟩⟩
def smT (p : P2) : Prop := p.1.natAbs < 2 ^ 200 ∧ p.2.natAbs < 2 ^ 200
def spTurn (K : S.Frag) : Sp := Sp3 fun x y z H Q _ => ∃ (a b c : Addr) (n : Int) (p r s : P2), x = .ref a ∧ y = .ref b ∧ z = .ref c ∧ CrA K n H a p ∧ CrA K n H b r ∧ CrA K n H c s ∧ 0 < n ∧ n < 2 ^ 200 ∧ smT p ∧ smT r ∧ smT s ∧ ∀ d H', Same H H' → Val K H' (.ref d) (crP p r s) (n * n) → Q (.ref d) H'
theorem s2_ {i j : Int} (h1 : i.natAbs < 2 ^ 200) (h2 : j.natAbs < 2 ^ 200) : (i - j).natAbs < 2 ^ 201 := by omega
theorem s3_ {i j : Int} (h1 : i.natAbs < 2 ^ 201) (h2 : j.natAbs < 2 ^ 201) : (i * j).natAbs < 2 ^ 402 := by
  rw [Int.natAbs_mul, show (2 : Nat) ^ 402 = 2 ^ 201 * 2 ^ 201 by decide +kernel]
  exact Nat.mul_lt_mul'' h1 h2
theorem ok_turn (T : Txt K mg) : FnOk P w K mg base (L2.CX P w) 7 (He.fAd K ("turn", none)) (S.fdA K ("turn", none)) ["left", "right", "pair"] (spTurn K) := by
  have G_Share___sub__ := ok_Share___sub__ (P := P) (w := w) (base := base) T
  have G_Share___rsub__ := ok_Share___rsub__ (P := P) (w := w) (base := base) T
  have G_Share___mul__ := ok_Share___mul__ (P := P) (w := w) (base := base) T
  have G_Share___rmul__ := ok_Share___rmul__ (P := P) (w := w) (base := base) T
  refine FunD.ok T.F_turn sc_turn (fun vs H Q E h => S.splen3 h) (fun cdv A outer s H vs Q E hr h => ?_)
  have hu := hu_of hr
  refine ⟨_, (pss_one (ps_ret (S.pe_binL S.io_sub T.bn_sub (S.raw_of G_Share___sub__ (kb_Share___sub___2 T)) (hr.mono (by decide)) (S.raw_of G_Share___rsub__ (kb_Share___rsub___2 T)) (hr.mono (by decide)) S.pas0 (S.pe_binL S.io_mul T.bn_mul (S.raw_of G_Share___mul__ (kb_Share___mul___2 T)) (hr.mono (by decide)) (S.raw_of G_Share___rmul__ (kb_Share___rmul___2 T)) (hr.mono (by decide)) S.pas0 (S.pe_binL S.io_sub T.bn_sub (S.raw_of G_Share___sub__ (kb_Share___sub___2 T)) (hr.mono (by decide)) (S.raw_of G_Share___rsub__ (kb_Share___rsub___2 T)) (hr.mono (by decide)) S.pas0 (pe_ix (S.ixK (K := K) rfl) (pv 1) pe_int (fun _ _ => rfl)) (pe_ix (S.ixK (K := K) rfl) (pv 0) pe_int (fun _ _ => rfl))) (S.pe_binL S.io_sub T.bn_sub (S.raw_of G_Share___sub__ (kb_Share___sub___2 T)) (hr.mono (by decide)) (S.raw_of G_Share___rsub__ (kb_Share___rsub___2 T)) (hr.mono (by decide)) S.pas0 (pe_ix (S.ixK (K := K) rfl) (pv 2) pe_int (fun _ _ => rfl)) (pe_ix (S.ixK (K := K) rfl) (pv 0) pe_int (fun _ _ => rfl)))) (S.pe_binL S.io_mul T.bn_mul (S.raw_of G_Share___mul__ (kb_Share___mul___2 T)) (hr.mono (by decide)) (S.raw_of G_Share___rmul__ (kb_Share___rmul___2 T)) (hr.mono (by decide)) S.pas0 (S.pe_binL S.io_sub T.bn_sub (S.raw_of G_Share___sub__ (kb_Share___sub___2 T)) (hr.mono (by decide)) (S.raw_of G_Share___rsub__ (kb_Share___rsub___2 T)) (hr.mono (by decide)) S.pas0 (pe_ix (S.ixK (K := K) rfl) (pv 1) pe_int (fun _ _ => rfl)) (pe_ix (S.ixK (K := K) rfl) (pv 0) pe_int (fun _ _ => rfl))) (S.pe_binL S.io_sub T.bn_sub (S.raw_of G_Share___sub__ (kb_Share___sub___2 T)) (hr.mono (by decide)) (S.raw_of G_Share___rsub__ (kb_Share___rsub___2 T)) (hr.mono (by decide)) S.pas0 (pe_ix (S.ixK (K := K) rfl) (pv 2) pe_int (fun _ _ => rfl)) (pe_ix (S.ixK (K := K) rfl) (pv 0) pe_int (fun _ _ => rfl))))))), ?_⟩
  obtain ⟨_, _, _, rfl, a, b, c, n, p, r, s, rfl, rfl, rfl, ⟨a1, a2, ea, va1, va2⟩, ⟨b1, b2, eb, vb1, vb2⟩, ⟨c1, c2, ec, vc1, vc2⟩, n0, n1, ⟨sp1, sp2⟩, ⟨sr1, sr2⟩, ⟨ss1, ss2⟩, q⟩ := h
  have sn : sm n := up (m := 200) (by omega) (by decide)
  have up1 : ∀ {i : Int}, i.natAbs < 2 ^ 200 → sm i := fun h => up h (by decide)
  have up2 : ∀ {i : Int}, i.natAbs < 2 ^ 201 → sm i := fun h => up h (by decide)
  have up3 : ∀ {i : Int}, i.natAbs < 2 ^ 402 → sm i := fun h => up h (by decide)
  have snn : sm (n * n) := up3 (s3_ (by omega) (by omega))
  refine ⟨_, rfl, ixT eb rfl ⟨_, rfl, ixT ea rfl (val_sub vb1 va1 (.inl ⟨_, rfl⟩) n0 (up1 sr1) (up1 sp1) sn fun d1 H1 k1 v1 => ?_)⟩⟩
  refine ⟨_, rfl, ixT (k1 _ _ ec) rfl ⟨_, rfl, ixT (k1 _ _ ea) rfl (val_sub (vc2.same k1) (va2.same k1) (.inl ⟨_, rfl⟩) n0 (up1 ss2) (up1 sp2) sn fun d2 H2 k2 v2 => ?_)⟩⟩
  refine val_mul (v1.same k2) v2 (.inl ⟨_, rfl⟩) n0 n0 (up2 (s2_ sr1 sp1)) (up2 (s2_ ss2 sp2)) sn sn fun d3 H3 k3 v3 => ?_
  have k123 := (k1.trans k2).trans k3
  refine ⟨_, rfl, ixT (k123 _ _ eb) rfl ⟨_, rfl, ixT (k123 _ _ ea) rfl (val_sub (vb2.same k123) (va2.same k123) (.inl ⟨_, rfl⟩) n0 (up1 sr2) (up1 sp2) sn fun d4 H4 k4 v4 => ?_)⟩⟩
  have k1234 := k123.trans k4
  refine ⟨_, rfl, ixT (k1234 _ _ ec) rfl ⟨_, rfl, ixT (k1234 _ _ ea) rfl (val_sub (vc1.same k1234) (va1.same k1234) (.inl ⟨_, rfl⟩) n0 (up1 ss1) (up1 sp1) sn fun d5 H5 k5 v5 => ?_)⟩⟩
  refine val_mul (v4.same k5) v5 (.inl ⟨_, rfl⟩) n0 n0 (up2 (s2_ sr2 sp2)) (up2 (s2_ ss1 sp1)) sn sn fun d6 H6 k6 v6 => ?_
  refine val_sub (v3.same ((k4.trans k5).trans k6)) v6 (.inl ⟨_, rfl⟩) (Int.mul_pos n0 n0) (up3 (s3_ (s2_ sr1 sp1) (s2_ ss2 sp2))) (up3 (s3_ (s2_ sr2 sp2) (s2_ ss1 sp1))) snn fun d7 H7 k7 v7 => ?_
  exact q d7 H7 (((k1234.trans k5).trans k6).trans k7) v7
theorem val_leN {H : Hp} {a b : Addr} {A B n : Int} {Q : VK} (nf : PySem.W.notFirst K (He.ga K "Share") (.type "int") = true) (ha : Val K H (.ref a) A n) (hb : Val K H (.ref b) B n) (n0 : 0 < n) (sn : sm n) (sA : sm A) (sB : sm B) (q : Q (.bl (decide (A ≤ B))) H) : rCmpL K (He.ga K "Share") (spLeS K) (.ref a) (.ref b) H Q := by
  obtain ⟨u, v, hu, v0, g2, e2⟩ := hb
  obtain ⟨su, sv⟩ := low_sm v0 n0 g2 e2 sB sn
  refine val_le (y := (a, A, n)) nf ⟨ha, n0, sA, sn⟩ ⟨hu, v0, su, sv⟩ ?_
  have e : (A * v ≤ u * n) ↔ (A ≤ B) := by
    rw [e2]
    exact Int.mul_le_mul_right v0
  show Q (.bl (decide (A * v ≤ u * n))) H
  rw [decide_eq_decide.mpr e]
  exact q
theorem val_lt0 {H : Hp} {a : Addr} {A n : Int} {Q : VK} (nf : PySem.W.notFirst K (He.ga K "Share") (.type "int") = true) (ha : Val K H (.ref a) A n) (n0 : 0 < n) (sn : sm n) (sA : sm A) (q : Q (.bl (decide (A < 0))) H) : rCmpL K (He.ga K "Share") (spLtS K) (.ref a) (.int 0) H Q := by
  obtain ⟨t, b, s1, hb, g1, e1⟩ := ha.shA
  obtain ⟨st, sb⟩ := low_sm hb n0 g1 e1 sA sn
  obtain ⟨dx, vs, h1, _⟩ := id s1
  refine ⟨a, dx, vs, rfl, h1, .inr ⟨⟨0, rfl⟩, nf⟩, _, _, rfl, a, t, b, 0, 1, rfl, s1, .inr ⟨rfl, rfl⟩, st, sb, (by unfold sm; decide +kernel), (by unfold sm; decide +kernel), ?_⟩
  have e : (t * 1 < 0 * b) ↔ (A < 0) := by
    have := frac_lt (S' := 0) (c' := 1) hb (show (0 : Int) < 1 by decide) n0 (show (0 : Int) < 1 by decide) e1 (by decide : (0 : Int) * 1 = 0 * 1)
    rw [this]
    omega
  rw [decide_eq_decide.mpr e]
  exact q
def spBetw (K : S.Frag) : Sp := Sp3 fun x y z H Q _ => ∃ (a b c : Addr) (n A B C : Int), x = .ref a ∧ y = .ref b ∧ z = .ref c ∧ Val K H x A n ∧ Val K H y B n ∧ Val K H z C n ∧ 0 < n ∧ sm n ∧ sm A ∧ sm B ∧ sm C ∧ Q (.bl (decide ((B ≤ A ∧ A ≤ C) ∨ (C ≤ A ∧ A ≤ B)))) H
theorem ok_between (T : Txt K mg) : FnOk P w K mg base (L2.CX P w) 5 (He.fAd K ("between", none)) (S.fdA K ("between", none)) ["value", "one", "other"] (spBetw K) := by
  have G_Share___le__ := ok_Share___le__ (P := P) (w := w) (base := base) T
  refine FunD.ok T.F_between sc_between (fun vs H Q E h => S.splen3 h) (fun cdv A outer s H vs Q E hr h => ?_)
  have hu := hu_of hr
  refine ⟨_, (pss_one (ps_ret (pe_or (pe_chain (S.op_cmpL (op := .LtE) (C := He.ga K "Share") (fun _ _ => rfl) T.me_Share___le__.1 T.me_Share___le__.2 (S.raw_of G_Share___le__ (kb_Share___le___2 T)) (hr.mono (by decide))) (S.op_cmpL (op := .LtE) (C := He.ga K "Share") (fun _ _ => rfl) T.me_Share___le__.1 T.me_Share___le__.2 (S.raw_of G_Share___le__ (kb_Share___le___2 T)) (hr.mono (by decide))) (pv 1) (pv 0) (pv 2)) (pe_one (pe_chain (S.op_cmpL (op := .LtE) (C := He.ga K "Share") (fun _ _ => rfl) T.me_Share___le__.1 T.me_Share___le__.2 (S.raw_of G_Share___le__ (kb_Share___le___2 T)) (hr.mono (by decide))) (S.op_cmpL (op := .LtE) (C := He.ga K "Share") (fun _ _ => rfl) T.me_Share___le__.1 T.me_Share___le__.2 (S.raw_of G_Share___le__ (kb_Share___le___2 T)) (hr.mono (by decide))) (pv 2) (pv 0) (pv 1)))))), ?_⟩
  obtain ⟨_, _, _, rfl, a, b, c, n, A, B, C, rfl, rfl, rfl, va, vb, vc, n0, sn, sA, sB, sC, q⟩ := h
  have nf := T.nf_Share
  have snd : ∀ {x y z : Addr} {X Y Z : Int}, Val K H (.ref x) X n → Val K H (.ref y) Y n → Val K H (.ref z) Z n → sm X → sm Y → sm Z → ∀ {Q : VK}, Q (.bl (decide (X ≤ Y ∧ Y ≤ Z))) H → rCmpL K (He.ga K "Share") (spLeS K) (.ref x) (.ref y) H fun z' H3 => ∃ k, z' = .bl k ∧ (if k = true then rCmpL K (He.ga K "Share") (spLeS K) (.ref y) (.ref z) H3 Q else Q (.bl false) H3) := fun {x y z X Y Z} hx hy hz sX sY sZ {Q} q => by
    refine val_leN nf hx hy n0 sn sX sY ⟨_, rfl, ?_⟩
    by_cases c : X ≤ Y
    · rw [decide_eq_true c, if_pos rfl]
      refine val_leN nf hy hz n0 sn sY sZ ?_
      have e : (X ≤ Y ∧ Y ≤ Z) ↔ Y ≤ Z := ⟨And.right, fun h => ⟨c, h⟩⟩
      rwa [decide_eq_decide.mpr e] at q
    · rw [decide_eq_false c, if_neg (by decide)]
      have e : ¬ (X ≤ Y ∧ Y ≤ Z) := fun h => c h.1
      rwa [decide_eq_false e] at q
  refine ⟨_, rfl, _, rfl, ?_⟩
  by_cases c1 : B ≤ A ∧ A ≤ C
  · rw [decide_eq_true (.inl c1)] at q
    refine val_leN nf vb va n0 sn sB sA ⟨_, rfl, ?_⟩
    rw [decide_eq_true c1.1, if_pos rfl]
    refine ⟨_, rfl, val_leN nf va vc n0 sn sA sC ⟨_, rfl, ?_⟩⟩
    rw [decide_eq_true c1.2, if_pos rfl]
    exact q
  · have step2 : ∀ {Q : VK}, Q (.bl (decide (C ≤ A ∧ A ≤ B))) H → rCmpL K (He.ga K "Share") (spLeS K) (.ref c) (.ref a) H fun z' H3 => ∃ k, z' = .bl k ∧ (if k = true then rCmpL K (He.ga K "Share") (spLeS K) (.ref a) (.ref b) H3 Q else Q (.bl false) H3) := fun {Q} q => snd vc va vb sC sA sB q
    have e2 : ((B ≤ A ∧ A ≤ C) ∨ (C ≤ A ∧ A ≤ B)) ↔ (C ≤ A ∧ A ≤ B) := ⟨fun h => h.resolve_left c1, .inr⟩
    have e3 : decide ((B ≤ A ∧ A ≤ C) ∨ (C ≤ A ∧ A ≤ B)) = decide (C ≤ A ∧ A ≤ B) := decide_eq_decide.mpr e2
    rw [e3] at q
    refine val_leN nf vb va n0 sn sB sA ⟨_, rfl, ?_⟩
    by_cases c : B ≤ A
    · rw [decide_eq_true c, if_pos rfl]
      refine ⟨_, rfl, val_leN nf va vc n0 sn sA sC ⟨_, rfl, ?_⟩⟩
      rw [decide_eq_false (fun h => c1 ⟨c, h⟩ : ¬ A ≤ C), if_neg (by decide)]
      refine ⟨_, rfl, _, rfl, ?_⟩
      refine val_leN nf vc va n0 sn sC sA ⟨_, rfl, ?_⟩
      by_cases d : C ≤ A
      · rw [decide_eq_true d, if_pos rfl]
        refine ⟨_, rfl, val_leN nf va vb n0 sn sA sB ?_⟩
        have e : (C ≤ A ∧ A ≤ B) ↔ A ≤ B := ⟨And.right, fun h => ⟨d, h⟩⟩
        have e4 : decide (C ≤ A ∧ A ≤ B) = decide (A ≤ B) := decide_eq_decide.mpr e
        rw [e4] at q
        exact q
      · rw [decide_eq_false d, if_neg (by decide)]
        rw [decide_eq_false (fun h => d h.1 : ¬ (C ≤ A ∧ A ≤ B))] at q
        exact q
    · rw [decide_eq_false c, if_neg (by decide)]
      refine ⟨_, rfl, ?_⟩
      rw [if_neg (by decide)]
      refine ⟨_, rfl, _, rfl, ?_⟩
      refine val_leN nf vc va n0 sn sC sA ⟨_, rfl, ?_⟩
      by_cases d : C ≤ A
      · rw [decide_eq_true d, if_pos rfl]
        refine ⟨_, rfl, val_leN nf va vb n0 sn sA sB ?_⟩
        have e : (C ≤ A ∧ A ≤ B) ↔ A ≤ B := ⟨And.right, fun h => ⟨d, h⟩⟩
        have e4 : decide (C ≤ A ∧ A ≤ B) = decide (A ≤ B) := decide_eq_decide.mpr e
        rw [e4] at q
        exact q
      · rw [decide_eq_false d, if_neg (by decide)]
        rw [decide_eq_false (fun h => d h.1 : ¬ (C ≤ A ∧ A ≤ B))] at q
        exact q
def sdV (n m : Int) (l r v : P2) : Int := (r.1 - l.1) * (v.2 * n - l.2 * m) - (r.2 - l.2) * (v.1 * n - l.1 * m)
theorem crP_sc (n m : Int) (l r v : P2) : crP (l.1 * m, l.2 * m) (r.1 * m, r.2 * m) (v.1 * n, v.2 * n) = m * sdV n m l r v := by
  unfold crP sdV
  simp only
  grind
def sdB (n m : Int) (zs : List P2) (v : P2) (i : Nat) : Bool := match zs[(i + zs.length - 1) % zs.length]?, zs[i]? with
  | some l, some r => decide (0 ≤ sdV n m l r v)
  | _, _ => true
def btB (x f l : Int) : Bool := decide ((f ≤ x ∧ x ≤ l) ∨ (l ≤ x ∧ x ≤ f))
def enB (n m : Int) (zs : List P2) (v : P2) : Bool := match zs[0]?, zs[zs.length - 1]? with
  | some f, some l => btB (v.1 * n) (f.1 * m) (l.1 * m) && btB (v.2 * n) (f.2 * m) (l.2 * m)
  | _, _ => true
def insB (n m : Int) (zs : List P2) (v : P2) : Bool := (List.range zs.length).all (sdB n m zs v) && (decide (2 < zs.length) || enB n m zs v)
theorem ins_no {n m : Int} {zs : List P2} {v : P2} {i : Nat} (hi : i < zs.length) (h : sdB n m zs v i = false) : insB n m zs v = false := by
  unfold insB
  rw [Bool.and_eq_false_iff]
  left
  refine Bool.eq_false_iff.mpr fun h2 => ?_
  have := List.all_eq_true.mp h2 i (List.mem_range.mpr hi)
  rw [h] at this
  cases this
theorem ins_yes {n m : Int} {zs : List P2} {v : P2} (h : ∀ i, i < zs.length → sdB n m zs v i = true) : insB n m zs v = (decide (2 < zs.length) || enB n m zs v) := by
  unfold insB
  have : (List.range zs.length).all (sdB n m zs v) = true := List.all_eq_true.mpr fun i hi => h i (List.mem_range.mp hi)
  rw [this, Bool.true_and]
theorem at_prev {zs : List (Addr × P2)} {i : Nat} (hi : i < zs.length) {l : Addr × P2} (h : zs[(i + zs.length - 1) % zs.length]? = some l) : atI (zs.map fun z => V.ref z.1) (0 + (i : Int) - 1) = some (.ref l.1) := by
  rw [Int.zero_add]
  by_cases c : i = 0
  · subst c
    rw [Nat.zero_add, Nat.mod_eq_of_lt (by omega)] at h
    have hne : zs ≠ [] := by
      intro e
      subst e
      simp at hi
    have e1 : zs.getLast hne = l := by
      rw [List.getLast_eq_getElem]
      have h3 := (List.getElem?_eq_some_iff.mp h).2
      exact h3
    have e2 : zs.map (fun z => V.ref z.1) = (zs.dropLast.map fun z => V.ref z.1) ++ [.ref l.1] := by
      conv => lhs; rw [← List.dropLast_concat_getLast hne, e1]
      rw [List.map_append]
      rfl
    rw [e2]
    exact atI_last _ _
  · have e : (i + zs.length - 1) % zs.length = i - 1 := by
      rw [show i + zs.length - 1 = (i - 1) + zs.length by omega, Nat.add_mod_right, Nat.mod_eq_of_lt (by omega)]
    rw [e] at h
    rw [show (i : Int) - 1 = ((i - 1 : Nat) : Int) by omega]
    exact atI_nat (by rw [List.getElem?_map, h]; rfl)
def spIns (K : S.Frag) : Sp := Sp2 fun x y H Q _ => ∃ (L a : Addr) (x1 x2 : V) (zs : List (Addr × P2)) (n m : Int) (v : P2), x = .ref L ∧ CrsA K n H L zs ∧ zs ≠ [] ∧ zs.length ≤ 128 ∧ 0 < n ∧ n < 2 ^ 31 ∧ (∀ z ∈ zs, smR z.2) ∧ y = .ref a ∧ H a = some (.tup [x1, x2]) ∧ Val K H x1 v.1 m ∧ Val K H x2 v.2 m ∧ 0 < m ∧ m < 2 ^ 40 ∧ v.1.natAbs < 2 ^ 80 ∧ v.2.natAbs < 2 ^ 80 ∧ ∀ H', Same H H' → Q (.bl (insB n m (zs.map (·.2)) v)) H'
theorem ok_inside (T : Txt K mg) : FnOk P w K mg base (L2.CX P w) 8 (He.fAd K ("inside", none)) (S.fdA K ("inside", none)) ["polygon", "pair"] (spIns K) := by
  have G_as_share := ok_as_share (P := P) (w := w) (base := base) T
  have G_Share___lt__ := ok_Share___lt__ (P := P) (w := w) (base := base) T
  have G_turn := ok_turn (P := P) (w := w) (base := base) T
  have G_between := ok_between (P := P) (w := w) (base := base) T
  refine FunD.ok T.F_inside sc_inside (fun vs H Q E h => S.splen2 h) (fun cdv A outer s H vs Q E hr h => ?_)
  have hu := hu_of hr
  refine ⟨_, (pss_cons (ps_set (i := 2) sc_inside.nd rfl (by first | exact Or.inl rfl | exact Or.inr rfl) (pe_tup (pa_cons (S.pe_fnS G_as_share (hr.mono (by decide)) rfl T.g_as_share T.F_as_share.kp (kb_as_share_1 T) S.pas0 (pa_cons (pe_ix (S.ixK (K := K) rfl) (pv 1) pe_int (fun _ _ => rfl)) pa_nil) pk_nil rfl rfl) (pa_cons (S.pe_fnS G_as_share (hr.mono (by decide)) rfl T.g_as_share T.F_as_share.kp (kb_as_share_1 T) S.pas0 (pa_cons (pe_ix (S.ixK (K := K) rfl) (pv 1) pe_int (fun _ _ => rfl)) pa_nil) pk_nil rfl rfl) pa_nil))))
      (pss_cons (ps_for (S.own_of rfl) rfl (pi_range1 rfl T.n_range (pa_cons (pe_callB (S.lenK (K := K) rfl) rfl T.n_len S.boot_len (pa_cons (pv 0) pa_nil)) pa_nil)) (pg_name (i := 3) sc_inside.nd rfl (by first | exact Or.inl rfl | exact Or.inr rfl))
        (pss_one (ps_if (pt_cmpR (S.op_cmpL (op := .Lt) (C := He.ga K "Share") (fun _ _ => rfl) T.me_Share___lt__.1 T.me_Share___lt__.2 (S.raw_of G_Share___lt__ (kb_Share___lt___2 T)) (hr.mono (by decide))) (S.pe_fnS G_turn (hr.mono (by decide)) rfl T.g_turn T.F_turn.kp (kb_turn_3 T) S.pas0 (pa_cons (pe_ix (S.ixK (K := K) rfl) (pv 0) (pe_op op_sub (pv 3) pe_int) (fun _ _ => rfl)) (pa_cons (pe_ix (S.ixK (K := K) rfl) (pv 0) (pv 3) (fun _ _ => rfl)) (pa_cons (pv 2) pa_nil))) pk_nil rfl rfl) pe_int (nomark _)) (pss_one (ps_ret pe_bl)) pss_nil)))
      (pss_cons (ps_if (pt_cmpR op_gt (pe_callB (S.lenK (K := K) rfl) rfl T.n_len S.boot_len (pa_cons (pv 0) pa_nil)) pe_int (nomark _)) (pss_one (ps_ret pe_bl)) pss_nil)
      (pss_cons (ps_set (i := 4) sc_inside.nd rfl (by first | exact Or.inl rfl | exact Or.inr rfl) (pe_ix (S.ixK (K := K) rfl) (pv 0) pe_int (fun _ _ => rfl)))
      (pss_cons (ps_set (i := 5) sc_inside.nd rfl (by first | exact Or.inl rfl | exact Or.inr rfl) (pe_ix (S.ixK (K := K) rfl) (pv 0) (pe_un un_neg pe_int) (fun _ _ => rfl)))
      (pss_one (ps_ret (pe_and (S.pe_fnS G_between (hr.mono (by decide)) rfl T.g_between T.F_between.kp (kb_between_3 T) S.pas0 (pa_cons (pe_ix (S.ixK (K := K) rfl) (pv 2) pe_int (fun _ _ => rfl)) (pa_cons (pe_ix (S.ixK (K := K) rfl) (pv 4) pe_int (fun _ _ => rfl)) (pa_cons (pe_ix (S.ixK (K := K) rfl) (pv 5) pe_int (fun _ _ => rfl)) pa_nil))) pk_nil rfl rfl) (pe_one (S.pe_fnS G_between (hr.mono (by decide)) rfl T.g_between T.F_between.kp (kb_between_3 T) S.pas0 (pa_cons (pe_ix (S.ixK (K := K) rfl) (pv 2) pe_int (fun _ _ => rfl)) (pa_cons (pe_ix (S.ixK (K := K) rfl) (pv 4) pe_int (fun _ _ => rfl)) (pa_cons (pe_ix (S.ixK (K := K) rfl) (pv 5) pe_int (fun _ _ => rfl)) pa_nil))) pk_nil rfl rfl)))))))))), ?_⟩
  obtain ⟨_, _, rfl, L, a, x1, x2, zs, n, m, v, rfl, hz, zne, lz, n0, n1, hs, rfl, ha, vx1, vx2, m0, m1, sv1, sv2, q⟩ := h
  have sm80 : ∀ {i : Int}, i.natAbs < 2 ^ 80 → sm i := fun h => up h (by decide)
  have smm : sm m := up (m := 40) (by omega) (by decide)
  refine ⟨_, rfl, ixT ha rfl ⟨rfl, rfl, _, rfl, _, _, vx1, m0, sm80 sv1, smm, fun p1 H1 s1 w1 => ?_⟩⟩
  refine ⟨_, rfl, ixT (s1 _ _ ha) rfl ⟨rfl, rfl, _, rfl, _, _, vx2.same s1, m0, sm80 sv2, smm, fun p2 H2 s2 w2 => ?_⟩⟩
  refine ⟨by show 2 ≤ sizeLine; decide, fun pt hpt => ?_⟩
  have s3 := Same.new (o := .tup [.ref p1, .ref p2]) hpt
  have ept := upd_same (H := H2) (a := pt) (o := .tup [.ref p1, .ref p2])
  have w1' := (w1.same s2).same s3
  have w2' := w2.same s3
  generalize upd H2 pt (.tup [.ref p1, .ref p2]) = H3 at s3 ept w1' w2'
  have hz3 := hz.same ((s1.trans s2).trans s3)
  have hcp : CrA K (n * m) H3 pt (v.1 * n, v.2 * n) := by
    have := CrA.sc (K := K) (n := m) (H := H3) (a := pt) (p := v) ⟨p1, p2, ept, w1', w2'⟩ n
    rwa [Int.mul_comm m n] at this
  have hcz : ∀ z ∈ zs, CrA K (n * m) H3 z.1 (z.2.1 * m, z.2.2 * m) := fun z h => (hz3.2 z h).sc m
  have N0 : 0 < n * m := Int.mul_pos n0 m0
  have N1 : n * m < 2 ^ 71 := by
    rw [show (2 : Int) ^ 71 = 2 ^ 31 * 2 ^ 40 by decide +kernel]
    exact Int.mul_lt_mul n1 (Int.le_of_lt m1) m0 (by decide)
  have smP' : ∀ {i : Int}, i.natAbs < 2 ^ 80 → (i * n).natAbs < 2 ^ 200 := fun {i} h => by
    rw [Int.natAbs_mul]
    refine Nat.lt_trans (Nat.mul_lt_mul'' h (show n.natAbs < 2 ^ 31 by omega)) ?_
    rw [← Nat.pow_add]
    exact Nat.pow_lt_pow_right (by decide) (by decide)
  have smZ' : ∀ {i : Int}, i.natAbs < 2 ^ 70 → (i * m).natAbs < 2 ^ 200 := fun {i} h => by
    rw [Int.natAbs_mul]
    refine Nat.lt_trans (Nat.mul_lt_mul'' h (show m.natAbs < 2 ^ 40 by omega)) ?_
    rw [← Nat.pow_add]
    exact Nat.pow_lt_pow_right (by decide) (by decide)
  have sP : smT (v.1 * n, v.2 * n) := ⟨smP' sv1, smP' sv2⟩
  have sZ : ∀ z ∈ zs, smT (z.2.1 * m, z.2.2 * m) := fun z h => ⟨smZ' (hs z h).1, smZ' (hs z h).2⟩
  have z0 : 0 < zs.length := List.length_pos_iff.mpr zne
  have s03 := (s1.trans s2).trans s3
  have nf := T.nf_Share
  refine ⟨_, rfl, _, _, rfl, lenVX (.inr (.inl (.inl hz3.1))), ?_⟩
  rw [List.length_map]
  refine ⟨_, rfl, by omega, by omega, for_range (n := zs.length) (fun i σ J => Same H3 J ∧ (∀ k, k < i → sdB n m (zs.map (·.2)) v k = true) ∧ ∃ v3, σ = [some (.ref L), some (.ref a), some (.ref pt), v3, none, none]) ⟨fun _ _ h => h, (fun _ h => by omega), _, rfl⟩ ?_ ?_⟩
  · rintro i σ J hi ⟨sJ, ok, v3, rfl⟩
    have hl := List.getElem?_eq_getElem (Nat.mod_lt (i + zs.length - 1) z0)
    have hr := List.getElem?_eq_getElem hi
    have ml := List.getElem_mem (Nat.mod_lt (i + zs.length - 1) z0)
    have mr := List.getElem_mem hi
    generalize zs[(i + zs.length - 1) % zs.length]'(Nat.mod_lt (i + zs.length - 1) z0) = l at hl ml
    generalize zs[i] = r at hr mr
    have eB : sdB n m (zs.map (·.2)) v i = decide (0 ≤ sdV n m l.2 r.2 v) := by
      unfold sdB
      rw [List.length_map, List.getElem?_map, List.getElem?_map, hl, hr]
      rfl
    have hzJ := sJ _ _ hz3.1
    refine ⟨_, rfl, _, rfl, _, _, rfl, rfl, ixT hzJ (at_prev hi hl) ?_⟩
    refine ⟨_, rfl, _, rfl, ixT hzJ (show atI (zs.map fun z => V.ref z.1) (0 + (i : Int)) = some (.ref r.1) by rw [Int.zero_add]; exact atI_nat (by rw [List.getElem?_map, hr]; rfl)) ?_⟩
    refine ⟨_, rfl, rfl, rfl, _, _, _, rfl, l.1, r.1, pt, n * m, _, _, _, rfl, rfl, rfl, (hcz l ml).same sJ, (hcz r mr).same sJ, hcp.same sJ, N0, Int.lt_trans N1 (by decide), sZ l ml, sZ r mr, sP, fun d J2 sd vd => ?_⟩
    have snn : sm (n * m * (n * m)) := by
      refine up (m := 402) (s3_ ?_ ?_) (by decide) <;> omega
    have scr : sm (crP (l.2.1 * m, l.2.2 * m) (r.2.1 * m, r.2.2 * m) (v.1 * n, v.2 * n)) := by
      obtain ⟨q1, q2⟩ := sZ l ml
      obtain ⟨q3, q4⟩ := sZ r mr
      obtain ⟨q5, q6⟩ := sP
      have h1 := s3_ (s2_ q3 q1) (s2_ q6 q2)
      have h2 := s3_ (s2_ q4 q2) (s2_ q5 q1)
      refine up (m := 403) ?_ (by decide)
      unfold crP
      simp only at h1 h2 ⊢
      omega
    refine val_lt0 nf vd (Int.mul_pos N0 N0) snn scr ⟨_, rfl, ?_⟩
    rw [crP_sc]
    have e0 : (m * sdV n m l.2 r.2 v < 0) ↔ ¬ (0 ≤ sdV n m l.2 r.2 v) := by
      constructor
      · intro h h2
        have := Int.mul_nonneg (Int.le_of_lt m0) h2
        omega
      · intro h
        exact Int.mul_neg_of_pos_of_neg m0 (by omega)
    by_cases c : 0 ≤ sdV n m l.2 r.2 v
    · refine iteN (by rw [decide_eq_true_eq, e0]; exact fun h => h c) ⟨sJ.trans sd, fun k hk => ?_, _, rfl⟩
      by_cases ck : k = i
      · rw [ck, eB, decide_eq_true c]
      · exact ok k (by omega)
    · refine iteY (by rw [decide_eq_true_eq, e0]; exact c) ?_
      have qq := q J2 ((s03.trans sJ).trans sd)
      rw [ins_no (by rw [List.length_map]; exact hi) (by rw [eB, decide_eq_false c])] at qq
      exact qq
  · rintro σ J ⟨sJ, ok, v3, rfl⟩
    have qq := q J (s03.trans sJ)
    rw [ins_yes (by rw [List.length_map]; exact ok), List.length_map] at qq
    have hzJ := sJ _ _ hz3.1
    refine ⟨_, rfl, _, _, rfl, lenVX (.inr (.inl (.inl hzJ))), _, _, rfl, rfl, _, rfl, ?_⟩
    rw [List.length_map]
    by_cases c : 2 < zs.length
    · rw [decide_eq_true c, Bool.true_or] at qq
      exact iteY (by simp; omega) qq
    · rw [decide_eq_false c, Bool.false_or] at qq
      refine iteN (by simp; omega) ?_
      have hf := List.getElem?_eq_getElem z0
      have hl := List.getElem?_eq_getElem (show zs.length - 1 < zs.length by omega)
      have mf := List.getElem_mem z0
      have ml := List.getElem_mem (show zs.length - 1 < zs.length by omega)
      generalize zs[0] = f at hf mf
      generalize zs[zs.length - 1]'(by omega) = l at hl ml
      have eE : enB n m (zs.map (·.2)) v = (btB (v.1 * n) (f.2.1 * m) (l.2.1 * m) && btB (v.2 * n) (f.2.2 * m) (l.2.2 * m)) := by
        unfold enB
        rw [List.length_map, List.getElem?_map, List.getElem?_map, hf, hl]
        rfl
      rw [eE] at qq
      have eL : atI (zs.map fun z => V.ref z.1) (-1) = some (.ref l.1) := by
        have := at_prev (zs := zs) (i := 0) z0 (l := l) (by rw [Nat.zero_add, Nat.mod_eq_of_lt (by omega)]; exact hl)
        exact this
      obtain ⟨f1, f2, ef, vf1, vf2⟩ := (hcz f mf).same sJ
      obtain ⟨l1, l2, el, vl1, vl2⟩ := (hcz l ml).same sJ
      obtain ⟨t1, t2, et, vt1, vt2⟩ := hcp.same sJ
      have sn : sm (n * m) := up (m := 200) (by omega) (by decide)
      have u2 : ∀ {i : Int}, i.natAbs < 2 ^ 200 → sm i := fun h => up h (by decide)
      refine ⟨_, rfl, ixT hzJ (atI_nat (j := 0) (by rw [List.getElem?_map, hf]; rfl)) ?_⟩
      refine ⟨_, rfl, _, rfl, ixT hzJ eL ?_⟩
      refine ⟨_, rfl, ixT et rfl ⟨_, rfl, ixT ef rfl ⟨_, rfl, ixT el rfl ⟨rfl, rfl, _, _, _, rfl, t1, f1, l1, n * m, _, _, _, rfl, rfl, rfl, vt1, vf1, vl1, N0, sn, u2 sP.1, u2 (sZ f mf).1, u2 (sZ l ml).1, _, rfl, ?_⟩⟩⟩⟩
      unfold btB at qq
      by_cases c1 : (f.2.1 * m ≤ v.1 * n ∧ v.1 * n ≤ l.2.1 * m) ∨ (l.2.1 * m ≤ v.1 * n ∧ v.1 * n ≤ f.2.1 * m)
      · rw [decide_eq_true c1, Bool.true_and] at qq
        refine iteY (decide_eq_true c1) ?_
        exact ⟨_, rfl, ixT et rfl ⟨_, rfl, ixT ef rfl ⟨_, rfl, ixT el rfl ⟨rfl, rfl, _, _, _, rfl, t2, f2, l2, n * m, _, _, _, rfl, rfl, rfl, vt2, vf2, vl2, N0, sn, u2 sP.2, u2 (sZ f mf).2, u2 (sZ l ml).2, qq⟩⟩⟩⟩
      · rw [decide_eq_false c1, Bool.false_and] at qq
        exact iteN (by simpa using c1) qq
end
end W

namespace W
open PySem PySem.Spec PyProof.Rows L2
section
variable {P : Program} {w : World} {K : S.Frag} {mg : Str → Option Value} {base : Heap}
open S
def P3A (H : Hp) (a : Addr) (v : P2) (m : Int) : Prop := H a = some (.tup [.int v.1, .int v.2, .int m])
theorem bt_is (x f l : Int) : btB x f l = !((decide (0 < f - x) && decide (0 < l - x)) || (decide (f - x < 0) && decide (l - x < 0))) := by
  unfold btB
  rw [Bool.eq_iff_iff]
  simp
  omega
def spLDue : Sp := Sp3 fun x y z H Q _ => ∃ (A a : Addr) (ks : List (Addr × P2)) (n m : Int) (v : P2), x = .ref A ∧ y = .int n ∧ z = .ref a ∧ PtsA H A ks ∧ ks ≠ [] ∧ ks.length ≤ 128 ∧ (∀ z ∈ ks, smR z.2) ∧ 0 < n ∧ n < 2 ^ 31 ∧ P3A H a v m ∧ 0 < m ∧ m < 2 ^ 40 ∧ v.1.natAbs < 2 ^ 80 ∧ v.2.natAbs < 2 ^ 80 ∧ Q (.bl (insB n m (ks.map (·.2)) v)) H
theorem ok__law_due (T : Txt K mg) : FnOk P w K mg base (L2.CX P w) 1 (He.fAd K ("_law_due", none)) (S.fdA K ("_law_due", none)) ["_law_hull_here", "_law_many", "_law_point_here"] (spLDue) := by
  refine FunD.ok T.F__law_due sc__law_due (fun vs H Q E h => S.splen3 h) (fun cdv A outer s H vs Q E hr h => ?_)
  have hu := hu_of hr
  refine ⟨_, (pss_cons (ps_for (S.own_of rfl) rfl (pi_range1 rfl T.n_range (pa_cons (pe_callB (S.lenK (K := K) rfl) rfl T.n_len S.boot_len (pa_cons (pv 0) pa_nil)) pa_nil)) (pg_name (i := 3) sc__law_due.nd rfl (by first | exact Or.inl rfl | exact Or.inr rfl))
        (pss_cons (ps_set (i := 4) sc__law_due.nd rfl (by first | exact Or.inl rfl | exact Or.inr rfl) (pe_ix (S.ixK (K := K) rfl) (pv 0) (pe_op op_sub (pv 3) pe_int) (fun _ _ => rfl)))
      (pss_cons (ps_set (i := 5) sc__law_due.nd rfl (by first | exact Or.inl rfl | exact Or.inr rfl) (pe_ix (S.ixK (K := K) rfl) (pv 0) (pv 3) (fun _ _ => rfl)))
      (pss_cons (ps_set (i := 6) sc__law_due.nd rfl (by first | exact Or.inl rfl | exact Or.inr rfl) (pe_op S.op_mulA (pe_op op_sub (pe_ix (S.ixK (K := K) rfl) (pv 5) pe_int (fun _ _ => rfl)) (pe_ix (S.ixK (K := K) rfl) (pv 4) pe_int (fun _ _ => rfl))) (pe_op op_sub (pe_op S.op_mulA (pe_ix (S.ixK (K := K) rfl) (pv 2) pe_int (fun _ _ => rfl)) (pv 1)) (pe_op S.op_mulA (pe_ix (S.ixK (K := K) rfl) (pv 4) pe_int (fun _ _ => rfl)) (pe_ix (S.ixK (K := K) rfl) (pv 2) pe_int (fun _ _ => rfl))))))
      (pss_cons (ps_set (i := 7) sc__law_due.nd rfl (by first | exact Or.inl rfl | exact Or.inr rfl) (pe_op S.op_mulA (pe_op op_sub (pe_ix (S.ixK (K := K) rfl) (pv 5) pe_int (fun _ _ => rfl)) (pe_ix (S.ixK (K := K) rfl) (pv 4) pe_int (fun _ _ => rfl))) (pe_op op_sub (pe_op S.op_mulA (pe_ix (S.ixK (K := K) rfl) (pv 2) pe_int (fun _ _ => rfl)) (pv 1)) (pe_op S.op_mulA (pe_ix (S.ixK (K := K) rfl) (pv 4) pe_int (fun _ _ => rfl)) (pe_ix (S.ixK (K := K) rfl) (pv 2) pe_int (fun _ _ => rfl))))))
      (pss_one (ps_if (pt_cmpR op_lt (pv 6) (pv 7) (nomark _)) (pss_one (ps_ret pe_bl)) pss_nil)))))))
      (pss_cons (ps_if (pt_cmpR op_gt (pe_callB (S.lenK (K := K) rfl) rfl T.n_len S.boot_len (pa_cons (pv 0) pa_nil)) pe_int (nomark _)) (pss_one (ps_ret pe_bl)) pss_nil)
      (pss_cons (ps_for (S.own_of rfl) rfl (pi_range1 rfl T.n_range (pa_cons pe_int pa_nil)) (pg_name (i := 3) sc__law_due.nd rfl (by first | exact Or.inl rfl | exact Or.inr rfl))
        (pss_cons (ps_set (i := 6) sc__law_due.nd rfl (by first | exact Or.inl rfl | exact Or.inr rfl) (pe_op op_sub (pe_op S.op_mulA (pe_ix (S.ixK (K := K) rfl) (pe_ix (S.ixK (K := K) rfl) (pv 0) pe_int (fun _ _ => rfl)) (pv 3) (fun _ _ => rfl)) (pe_ix (S.ixK (K := K) rfl) (pv 2) pe_int (fun _ _ => rfl))) (pe_op S.op_mulA (pe_ix (S.ixK (K := K) rfl) (pv 2) (pv 3) (fun _ _ => rfl)) (pv 1))))
      (pss_cons (ps_set (i := 7) sc__law_due.nd rfl (by first | exact Or.inl rfl | exact Or.inr rfl) (pe_op op_sub (pe_op S.op_mulA (pe_ix (S.ixK (K := K) rfl) (pe_ix (S.ixK (K := K) rfl) (pv 0) (pe_un un_neg pe_int) (fun _ _ => rfl)) (pv 3) (fun _ _ => rfl)) (pe_ix (S.ixK (K := K) rfl) (pv 2) pe_int (fun _ _ => rfl))) (pe_op S.op_mulA (pe_ix (S.ixK (K := K) rfl) (pv 2) (pv 3) (fun _ _ => rfl)) (pv 1))))
      (pss_one (ps_if (PW.pt (pw_or (PW.pt (pw_and (pt_cmpR op_gt (pv 6) pe_int (nomark _)) (pw_and1 (pt_cmpR op_gt (pv 7) pe_int (nomark _))))) (pw_or1 (PW.pt (pw_and (pt_cmpR op_lt (pv 6) pe_int (nomark _)) (pw_and1 (pt_cmpR op_lt (pv 7) pe_int (nomark _)))))))) (pss_one (ps_ret pe_bl)) pss_nil)))))
      (pss_one (ps_ret pe_bl))))), ?_⟩
  obtain ⟨_, _, _, rfl, A, a, ks, n, m, v, rfl, rfl, rfl, hA, kne, lk, hs, n0, n1, ha, m0, m1, sv1, sv2, q⟩ := h
  unfold P3A at ha
  have z0 : 0 < ks.length := List.length_pos_iff.mpr kne
  have u0 : ∀ {i : Int} {k : Nat}, i.natAbs < 2 ^ k → k ≤ 1000 → sm i := fun h k => up h k
  have un : sm n := u0 (k := 31) (by omega) (by decide)
  have um : sm m := u0 (k := 40) (by omega) (by decide)
  have bm : ∀ {i j : Int} {k l : Nat}, i.natAbs < 2 ^ k → j.natAbs < 2 ^ l → (i * j).natAbs < 2 ^ (k + l) := fun {i j k l} h1 h2 => by
    rw [Int.natAbs_mul, Nat.pow_add]
    exact Nat.mul_lt_mul'' h1 h2
  have bs : ∀ {i j : Int}, i.natAbs < 2 ^ 120 → j.natAbs < 2 ^ 120 → (i - j).natAbs < 2 ^ 121 := fun h1 h2 => by omega
  have up' : ∀ {i : Int} {k l : Nat}, i.natAbs < 2 ^ k → k ≤ l → i.natAbs < 2 ^ l := fun h k => up h k
  have nA : n.natAbs < 2 ^ 31 := by omega
  have mA : m.natAbs < 2 ^ 40 := by omega
  refine ⟨_, rfl, _, _, rfl, lenVX (.inl (.inl (.inl hA.1))), ?_⟩
  rw [List.length_map]
  refine ⟨_, rfl, by omega, by omega, for_range (n := ks.length) (fun i σ J => J = H ∧ (∀ k, k < i → sdB n m (ks.map (·.2)) v k = true) ∧ ∃ v3 v4 v5 v6 v7, σ = [some (.ref A), some (.int n), some (.ref a), v3, v4, v5, v6, v7]) ⟨rfl, (fun _ h => by omega), _, _, _, _, _, rfl⟩ ?_ ?_⟩
  · rintro i σ J hi ⟨rfl, ok, v3, v4, v5, v6, v7, rfl⟩
    have hl := List.getElem?_eq_getElem (Nat.mod_lt (i + ks.length - 1) z0)
    have hr := List.getElem?_eq_getElem hi
    have ml := List.getElem_mem (Nat.mod_lt (i + ks.length - 1) z0)
    have mr := List.getElem_mem hi
    generalize ks[(i + ks.length - 1) % ks.length]'(Nat.mod_lt (i + ks.length - 1) z0) = l at hl ml
    generalize ks[i] = r at hr mr
    have eB : sdB n m (ks.map (·.2)) v i = decide (0 ≤ sdV n m l.2 r.2 v) := by
      unfold sdB
      rw [List.length_map, List.getElem?_map, List.getElem?_map, hl, hr]
      rfl
    have el := hA.2 l ml
    have er := hA.2 r mr
    unfold PtA at el er
    obtain ⟨sl1, sl2⟩ := hs l ml
    obtain ⟨sr1, sr2⟩ := hs r mr
    refine ⟨_, rfl, _, rfl, _, _, rfl, rfl, ixX (.inl (.inl (.inl hA.1))) (at_prev hi hl) ?_⟩
    refine ⟨_, rfl, _, rfl, ixX (.inl (.inl (.inl hA.1))) (show atI (ks.map fun z => V.ref z.1) (0 + (i : Int)) = some (.ref r.1) by rw [Int.zero_add]; exact atI_nat (by rw [List.getElem?_map, hr]; rfl)) ?_⟩
    obtain ⟨k1, k2⟩ : (v.2 * n - l.2.2 * m).natAbs < 2 ^ 121 ∧ (v.1 * n - l.2.1 * m).natAbs < 2 ^ 121 := ⟨bs (up' (bm sv2 nA) (by decide)) (up' (bm sl2 mA) (by decide)), bs (up' (bm sv1 nA) (by decide)) (up' (bm sl1 mA) (by decide))⟩
    have k3 : (r.2.1 - l.2.1).natAbs < 2 ^ 121 := bs (up' sr1 (by decide)) (up' sl1 (by decide))
    have k4 : (r.2.2 - l.2.2).natAbs < 2 ^ 121 := bs (up' sr2 (by decide)) (up' sl2 (by decide))
    refine ⟨_, rfl, ixT er rfl ⟨_, rfl, ixT el rfl ⟨_, _, rfl, rfl, _, rfl, ixT ha rfl ⟨_, rfl, _, _, rfl, rfl, (u0 (k := 80) sv2 (by decide)).cm un, _, rfl, ixT el rfl ⟨_, rfl, ixT ha rfl ⟨_, _, rfl, rfl, (u0 (k := 70) sl2 (by decide)).cm um, _, _, rfl, rfl, _, _, rfl, rfl, sm.cm (u0 k3 (by decide)) (u0 k1 (by decide)), ?_⟩⟩⟩⟩⟩⟩
    refine ⟨_, rfl, ixT er rfl ⟨_, rfl, ixT el rfl ⟨_, _, rfl, rfl, _, rfl, ixT ha rfl ⟨_, rfl, _, _, rfl, rfl, (u0 (k := 80) sv1 (by decide)).cm un, _, rfl, ixT el rfl ⟨_, rfl, ixT ha rfl ⟨_, _, rfl, rfl, (u0 (k := 70) sl1 (by decide)).cm um, _, _, rfl, rfl, _, _, rfl, rfl, sm.cm (u0 k4 (by decide)) (u0 k2 (by decide)), ?_⟩⟩⟩⟩⟩⟩
    refine ⟨_, rfl, _, rfl, _, _, rfl, rfl, _, rfl, ?_⟩
    by_cases c : 0 ≤ sdV n m l.2 r.2 v
    · refine iteN (by unfold sdV at c; rw [decide_eq_true_eq]; omega) ⟨rfl, fun k hk => ?_, _, _, _, _, _, rfl⟩
      by_cases ck : k = i
      · rw [ck, eB, decide_eq_true c]
      · exact ok k (by omega)
    · refine iteY (by unfold sdV at c; rw [decide_eq_true_eq]; omega) ?_
      rw [ins_no (by rw [List.length_map]; exact hi) (by rw [eB, decide_eq_false c])] at q
      exact q
  · rintro σ J ⟨rfl, ok, v3, v4, v5, v6, v7, rfl⟩
    rw [ins_yes (by rw [List.length_map]; exact ok), List.length_map] at q
    refine ⟨_, rfl, _, _, rfl, lenVX (.inl (.inl (.inl hA.1))), _, _, rfl, rfl, _, rfl, ?_⟩
    rw [List.length_map]
    by_cases c : 2 < ks.length
    · rw [decide_eq_true c, Bool.true_or] at q
      exact iteY (by simp; omega) q
    · rw [decide_eq_false c, Bool.false_or] at q
      refine iteN (by simp; omega) ?_
      have hf := List.getElem?_eq_getElem z0
      have hl := List.getElem?_eq_getElem (show ks.length - 1 < ks.length by omega)
      have mf := List.getElem_mem z0
      have ml := List.getElem_mem (show ks.length - 1 < ks.length by omega)
      generalize ks[0] = f at hf mf
      generalize ks[ks.length - 1]'(by omega) = l at hl ml
      have eE : enB n m (ks.map (·.2)) v = (btB (v.1 * n) (f.2.1 * m) (l.2.1 * m) && btB (v.2 * n) (f.2.2 * m) (l.2.2 * m)) := by
        unfold enB
        rw [List.length_map, List.getElem?_map, List.getElem?_map, hf, hl]
        rfl
      rw [eE] at q
      have eL : atI (ks.map fun z => V.ref z.1) (-1) = some (.ref l.1) := by
        have := at_prev (zs := ks) (i := 0) z0 (l := l) (by rw [Nat.zero_add, Nat.mod_eq_of_lt (by omega)]; exact hl)
        exact this
      have ef := hA.2 f mf
      have el := hA.2 l ml
      unfold PtA at ef el
      obtain ⟨sf1, sf2⟩ := hs f mf
      obtain ⟨sl1, sl2⟩ := hs l ml
      refine ⟨_, rfl, by decide, by decide, for_range (n := 2) (fun i σ J' => J' = J ∧ (0 < i → btB (v.1 * n) (f.2.1 * m) (l.2.1 * m) = true) ∧ (1 < i → btB (v.2 * n) (f.2.2 * m) (l.2.2 * m) = true) ∧ ∃ v3 v4 v5 v6 v7, σ = [some (.ref A), some (.int n), some (.ref a), v3, v4, v5, v6, v7]) ⟨rfl, (fun h => absurd h (by decide)), (fun h => absurd h (by decide)), _, _, _, _, _, rfl⟩ ?_ ?_⟩
      · rintro i σ J hi ⟨rfl, ok0, ok1, v3, v4, v5, v6, v7, rfl⟩
        obtain ⟨X, F, G, hX, hF, hG, sX, sF, sG, now⟩ : ∃ X F G : Int, atI [V.int v.1, V.int v.2, V.int m] (0 + (i : Int)) = some (.int X) ∧ atI [V.int f.2.1, V.int f.2.2] (0 + (i : Int)) = some (.int F) ∧ atI [V.int l.2.1, V.int l.2.2] (0 + (i : Int)) = some (.int G) ∧ X.natAbs < 2 ^ 80 ∧ F.natAbs < 2 ^ 70 ∧ G.natAbs < 2 ^ 70 ∧
            ((btB (X * n) (F * m) (G * m) = true → (0 < i + 1 → btB (v.1 * n) (f.2.1 * m) (l.2.1 * m) = true) ∧ (1 < i + 1 → btB (v.2 * n) (f.2.2 * m) (l.2.2 * m) = true)) ∧ (btB (X * n) (F * m) (G * m) = false → (btB (v.1 * n) (f.2.1 * m) (l.2.1 * m) && btB (v.2 * n) (f.2.2 * m) (l.2.2 * m)) = false)) := by
          by_cases c0 : i = 0
          · subst c0
            exact ⟨v.1, f.2.1, l.2.1, rfl, rfl, rfl, sv1, sf1, sl1, fun h => ⟨fun _ => h, fun h2 => absurd h2 (by decide)⟩, fun h => by rw [h, Bool.false_and]⟩
          · have c1 : i = 1 := by omega
            subst c1
            exact ⟨v.2, f.2.2, l.2.2, rfl, rfl, rfl, sv2, sf2, sl2, fun h => ⟨fun _ => ok0 (by decide), fun _ => h⟩, fun h => by rw [h, Bool.and_false]⟩
        have cX := (u0 (k := 80) sX (by decide)).cm un
        have cF := (u0 (k := 70) sF (by decide)).cm um
        have cG := (u0 (k := 70) sG (by decide)).cm um
        refine ⟨_, rfl, ixX (.inl (.inl (.inl hA.1))) (atI_nat (j := 0) (by rw [List.getElem?_map, hf]; rfl)) ⟨_, rfl, ixT ef hF ⟨_, rfl, ixT ha rfl ⟨_, _, rfl, rfl, cF, _, rfl, _, rfl, ixT ha hX ⟨_, rfl, _, _, rfl, rfl, cX, _, _, rfl, rfl, ?_⟩⟩⟩⟩⟩
        refine ⟨_, rfl, _, rfl, ixX (.inl (.inl (.inl hA.1))) eL ⟨_, rfl, ixT el hG ⟨_, rfl, ixT ha rfl ⟨_, _, rfl, rfl, cG, _, rfl, _, rfl, ixT ha hX ⟨_, rfl, _, _, rfl, rfl, cX, _, _, rfl, rfl, ?_⟩⟩⟩⟩⟩
        rw [bt_is] at now
        have pp : ∀ {i : Int}, 0 < i → decide ((0 : Int) < i) = true := fun h => decide_eq_true h
        have no : ((decide (0 < F * m - X * n) && decide (0 < G * m - X * n)) || (decide (F * m - X * n < 0) && decide (G * m - X * n < 0))) = true → Q (.bl false) J := fun h => by
          rw [now.2 (by rw [h]; rfl)] at q
          exact q
        have yes : ((decide (0 < F * m - X * n) && decide (0 < G * m - X * n)) || (decide (F * m - X * n < 0) && decide (G * m - X * n < 0))) = false → _ := fun h => now.1 (by rw [h]; rfl)
        refine ⟨_, rfl, _, _, rfl, rfl, _, rfl, ?_⟩
        by_cases p1 : 0 < F * m - X * n
        · refine iteY (decide_eq_true p1) ⟨_, rfl, _, _, rfl, rfl, _, rfl, ?_⟩
          by_cases p2 : 0 < G * m - X * n
          · exact iteY (decide_eq_true p2) (iteY rfl (no (by rw [decide_eq_true p1, decide_eq_true p2]; rfl)))
          · refine iteN (by simpa using p2) ⟨_, rfl, _, _, rfl, rfl, _, rfl, ?_⟩
            refine iteN (by simp; omega) (iteN (by decide) ?_)
            obtain ⟨y0, y1⟩ := yes (by simp; omega)
            exact ⟨rfl, y0, y1, _, _, _, _, _, rfl⟩
        · refine iteN (by simpa using p1) (iteN (by decide) ⟨_, rfl, _, _, rfl, rfl, _, rfl, ?_⟩)
          by_cases p3 : F * m - X * n < 0
          · refine iteY (decide_eq_true p3) ⟨_, rfl, _, _, rfl, rfl, _, rfl, ?_⟩
            by_cases p4 : G * m - X * n < 0
            · exact iteY (decide_eq_true p4) (no (by rw [decide_eq_true p3, decide_eq_true p4, Bool.and_self, Bool.or_true]))
            · refine iteN (by simpa using p4) ?_
              obtain ⟨y0, y1⟩ := yes (by simp; omega)
              exact ⟨rfl, y0, y1, _, _, _, _, _, rfl⟩
          · refine iteN (by simpa using p3) (iteN (by decide) ?_)
            obtain ⟨y0, y1⟩ := yes (by simp; omega)
            exact ⟨rfl, y0, y1, _, _, _, _, _, rfl⟩
      · rintro σ J ⟨rfl, ok0, ok1, v3, v4, v5, v6, v7, rfl⟩
        rw [ok0 (by decide), ok1 (by decide)] at q
        exact q
end
end W

namespace W
open PySem PySem.Spec PyProof.Rows L2
section
variable {P : Program} {w : World} {K : S.Frag} {mg : Str → Option Value} {base : Heap}
open S
def spLNum (K : S.Frag) : Sp := Sp3 fun x y z H Q _ => ∃ (i m : Int) (b : Bool), x = .int i ∧ y = .int m ∧ z = .bl b ∧ 0 < m ∧ m < 2 ^ 40 ∧ i.natAbs < 2 ^ 80 ∧ ∀ v H', Same H H' → Val K H' v i m → Q v H'
theorem ok__law_number (T : Txt K mg) : FnOk P w K mg base (L2.CX P w) 5 (He.fAd K ("_law_number", none)) (S.fdA K ("_law_number", none)) ["_law_number_here", "_law_many", "_law_whole"] (spLNum K) := by
  have G_Share___init__ := ok_Share___init__ (P := P) (w := w) (base := base) T
  refine FunD.ok T.F__law_number sc__law_number (fun vs H Q E h => S.splen3 h) (fun cdv A outer s H vs Q E hr h => ?_)
  have hu := hu_of hr
  refine ⟨_, (pss_cons (ps_if (PW.pt (pw_and (pt_val (pv 2)) (pw_and1 (pt_cmpR op_eq (pe_op op_mod (pe_callTy call_int1 rfl T.n_int S.boot_int (pa_cons (pv 0) pa_nil)) (pv 1)) pe_int (nomark _))))) (pss_one (ps_ret (pe_op op_fdivW (pe_callTy call_int1 rfl T.n_int S.boot_int (pa_cons (pv 0) pa_nil)) (pv 1)))) pss_nil)
      (pss_one (ps_ret (S.pe_mkS T.mk_Share G_Share___init__ (hr.mono (by decide)) rfl T.g_Share (kb_Share___init___3 T).choose_spec (S.pasE (takes_of rfl rfl rfl rfl)) (pa_cons (pv 0) (pa_cons (pv 1) pa_nil)) pk_nil rfl rfl)))), ?_⟩
  obtain ⟨_, _, _, rfl, i, m, b, rfl, rfl, rfl, m0, m1, si, q⟩ := h
  have cd : CDivW i m := div_big m0 (Int.lt_trans m1 (by decide))
  have b4 : i.natAbs < 2 ^ 4000 := up si (by decide)
  have bm : m.natAbs < 2 ^ 4000 := up (m := 40) (by omega) (by decide)
  cases b with
  | false =>
    refine ⟨_, rfl, _, rfl, iteN (by decide) (iteN (by decide) ?_)⟩
    exact ⟨_, rfl, _, rfl, rfl, rfl, fun a dx np ndx ne => mkZ np ndx ne b4 bm (by omega) fun H2 s2 v1 => ⟨rfl, q _ H2 s2 v1⟩⟩
  | true =>
    refine ⟨_, rfl, _, rfl, iteY rfl ?_⟩
    refine ⟨_, rfl, .inl ⟨_, rfl, _, rfl, _, _, rfl, rfl, m0, rfl, _, rfl, ?_⟩⟩
    by_cases c : i % m = 0
    · refine iteY (by simp [c]) ⟨_, rfl, .inl ⟨_, rfl, _, rfl, _, _, rfl, rfl, cd, ?_⟩⟩
      refine q _ H (fun _ _ h => h) ⟨i / m, 1, .inr ⟨rfl, rfl⟩, by decide, by unfold gI; simp, ?_⟩
      rw [Int.mul_one, Int.ediv_mul_cancel (Int.dvd_of_emod_eq_zero c)]
    · refine iteN (by simp [c]) ?_
      exact ⟨_, rfl, _, rfl, rfl, rfl, fun a dx np ndx ne => mkZ np ndx ne b4 bm (by omega) fun H2 s2 v1 => ⟨rfl, q _ H2 s2 v1⟩⟩
/-- the law's point -/
def spLPt : Sp := Sp5 fun x y z u v' H Q _ => ∃ (p g A pl : Addr) (ks zs : List (Addr × P2)) (n sz : Int), x = .ref p ∧ y = .ref A ∧ z = .ref pl ∧ u = .int n ∧ v' = .int sz ∧ PoolAt H p g ∧ PtsA (cH p g H) A ks ∧ ks ≠ [] ∧ ks.length ≤ 128 ∧ (∀ z ∈ ks, smR z.2) ∧ PtsA (cH p g H) pl zs ∧ zs ≠ [] ∧ zs.length ≤ 128 ∧ (∀ z ∈ zs, smR z.2) ∧ 0 < n ∧ n < 2 ^ 31 ∧ 0 < sz ∧ sz < 2 ^ 69 ∧
  ∀ (c : Addr) (v : P2) (m : Int) H', Same (cH p g H) (cH p g H') → PoolAt H' p g → P3A (cH p g H') c v m → 0 < m → m < 2 ^ 40 → v.1.natAbs < 2 ^ 80 → v.2.natAbs < 2 ^ 80 → Q (.ref c) H'
theorem ok__law_point (T : Txt K mg) : FnOk P w K mg base (L2.CX P w) 2 (He.fAd K ("_law_point", none)) (S.fdA K ("_law_point", none)) ["_law_pool_here", "_law_hull_here", "_law_points", "_law_many", "_law_size"] (spLPt) := by
  have G__law_take := ok__law_take (P := P) (w := w) (base := base) T
  refine FunD.ok T.F__law_point sc__law_point (fun vs H Q E h => S.splen5 h) (fun cdv A outer s H vs Q E hr h => ?_)
  have hu := hu_of hr
  refine ⟨_, (pss_cons (ps_set (i := 5) sc__law_point.nd rfl (by first | exact Or.inl rfl | exact Or.inr rfl) (S.pe_fnS G__law_take (hr.mono (by decide)) rfl T.g__law_take T.F__law_take.kp (kb__law_take_2 T) S.pas0 (pa_cons (pv 0) (pa_cons pe_int pa_nil)) pk_nil rfl rfl))
      (pss_cons (ps_set (i := 6) sc__law_point.nd rfl (by first | exact Or.inl rfl | exact Or.inr rfl) (S.pe_fnS G__law_take (hr.mono (by decide)) rfl T.g__law_take T.F__law_take.kp (kb__law_take_2 T) S.pas0 (pa_cons (pv 0) (pa_cons (pe_callB (S.lenK (K := K) rfl) rfl T.n_len S.boot_len (pa_cons (pv 1) pa_nil)) pa_nil)) pk_nil rfl rfl))
      (pss_cons (ps_set (i := 7) sc__law_point.nd rfl (by first | exact Or.inl rfl | exact Or.inr rfl) (pe_ix (S.ixK (K := K) rfl) (pv 1) (pv 6) (fun _ _ => rfl)))
      (pss_cons (ps_if (pt_cmpR op_eq (pv 5) pe_int (nomark _)) (pss_one (ps_ret (pe_tup (pa_cons (pe_ix (S.ixK (K := K) rfl) (pv 7) pe_int (fun _ _ => rfl)) (pa_cons (pe_ix (S.ixK (K := K) rfl) (pv 7) pe_int (fun _ _ => rfl)) (pa_cons (pv 3) pa_nil)))))) pss_nil)
      (pss_cons (ps_if (pt_cmpR op_eq (pv 5) pe_int (nomark _)) (pss_one (ps_ret (pe_tup (pa_cons (pe_op op_add (pe_ix (S.ixK (K := K) rfl) (pv 7) pe_int (fun _ _ => rfl)) (pe_ix (S.ixK (K := K) rfl) (pe_ix (S.ixK (K := K) rfl) (pv 1) (pe_op op_sub (pv 6) pe_int) (fun _ _ => rfl)) pe_int (fun _ _ => rfl))) (pa_cons (pe_op op_add (pe_ix (S.ixK (K := K) rfl) (pv 7) pe_int (fun _ _ => rfl)) (pe_ix (S.ixK (K := K) rfl) (pe_ix (S.ixK (K := K) rfl) (pv 1) (pe_op op_sub (pv 6) pe_int) (fun _ _ => rfl)) pe_int (fun _ _ => rfl))) (pa_cons (pe_op S.op_mulA pe_int (pv 3)) pa_nil)))))) pss_nil)
      (pss_cons (ps_if (pt_cmpR op_eq (pv 5) pe_int (nomark _)) (pss_cons (ps_set (i := 8) sc__law_point.nd rfl (by first | exact Or.inl rfl | exact Or.inr rfl) (pe_ix (S.ixK (K := K) rfl) (pv 2) (S.pe_fnS G__law_take (hr.mono (by decide)) rfl T.g__law_take T.F__law_take.kp (kb__law_take_2 T) S.pas0 (pa_cons (pv 0) (pa_cons (pe_callB (S.lenK (K := K) rfl) rfl T.n_len S.boot_len (pa_cons (pv 2) pa_nil)) pa_nil)) pk_nil rfl rfl) (fun _ _ => rfl)))
      (pss_one (ps_ret (pe_tup (pa_cons (pe_ix (S.ixK (K := K) rfl) (pv 8) pe_int (fun _ _ => rfl)) (pa_cons (pe_ix (S.ixK (K := K) rfl) (pv 8) pe_int (fun _ _ => rfl)) (pa_cons (pv 3) pa_nil))))))) pss_nil)
      (pss_cons (ps_if (pt_cmpR op_eq (pv 5) pe_int (nomark _)) (pss_one (ps_ret (pe_tup (pa_cons (pe_op op_sub (pe_op op_add (pe_op S.op_mulA pe_int (pe_ix (S.ixK (K := K) rfl) (pv 7) pe_int (fun _ _ => rfl))) (S.pe_fnS G__law_take (hr.mono (by decide)) rfl T.g__law_take T.F__law_take.kp (kb__law_take_2 T) S.pas0 (pa_cons (pv 0) (pa_cons pe_int pa_nil)) pk_nil rfl rfl)) pe_int) (pa_cons (pe_op op_sub (pe_op op_add (pe_op S.op_mulA pe_int (pe_ix (S.ixK (K := K) rfl) (pv 7) pe_int (fun _ _ => rfl))) (S.pe_fnS G__law_take (hr.mono (by decide)) rfl T.g__law_take T.F__law_take.kp (kb__law_take_2 T) S.pas0 (pa_cons (pv 0) (pa_cons pe_int pa_nil)) pk_nil rfl rfl)) pe_int) (pa_cons (pe_op S.op_mulA pe_int (pv 3)) pa_nil)))))) pss_nil)
      (pss_one (ps_ret (pe_tup (pa_cons (pe_op op_sub (S.pe_fnS G__law_take (hr.mono (by decide)) rfl T.g__law_take T.F__law_take.kp (kb__law_take_2 T) S.pas0 (pa_cons (pv 0) (pa_cons (pv 4) pa_nil)) pk_nil rfl rfl) (pe_op op_fdivW (pv 4) pe_int)) (pa_cons (pe_op op_sub (S.pe_fnS G__law_take (hr.mono (by decide)) rfl T.g__law_take T.F__law_take.kp (kb__law_take_2 T) S.pas0 (pa_cons (pv 0) (pa_cons (pv 4) pa_nil)) pk_nil rfl rfl) (pe_op op_fdivW (pv 4) pe_int)) (pa_cons (pe_op op_add pe_int (S.pe_fnS G__law_take (hr.mono (by decide)) rfl T.g__law_take T.F__law_take.kp (kb__law_take_2 T) S.pas0 (pa_cons (pv 0) (pa_cons pe_int pa_nil)) pk_nil rfl rfl)) pa_nil))))))))))))), ?_⟩
  obtain ⟨_, _, _, _, _, rfl, p, g, A, pl, ks, zs, n, sz, rfl, rfl, rfl, rfl, rfl, PH, hA, kne, lk, sk, hz, zne, lz, sz', n0, n1, s0, s1, q⟩ := h
  have k0 : 0 < ks.length := List.length_pos_iff.mpr kne
  have z0 : 0 < zs.length := List.length_pos_iff.mpr zne
  have fin : ∀ {J : Hp} (X Y m : Int), PoolAt J p g → cH p g J = cH p g H → 0 < m → m < 2 ^ 40 → X.natAbs < 2 ^ 80 → Y.natAbs < 2 ^ 80 → ∀ c0, J c0 = none → Q (.ref c0) (upd J c0 (.tup [.int X, .int Y, .int m])) := fun {J} X Y m PJ cJ m0 m1 hX hY c0 hc0 => by
    have nc := PJ.nep hc0
    refine q c0 (X, Y) m _ ?_ (PJ.same (Same.new hc0)) (PJ.new hc0) m0 m1 hX hY
    rw [cH_upd nc.1 nc.2, cJ]
    exact Same.new (by rw [← cJ]; exact cH_none hc0)
  refine ⟨_, rfl, rfl, rfl, _, _, rfl, p, g, 5, rfl, PH, rfl, by decide, by decide, fun t J1 t0 t1 P1 c1 => ?_⟩
  have hA1 : PtsA J1 A ks := PtsA.same (by rw [← c1] at hA; exact hA) cH_sub
  refine ⟨_, rfl, _, rfl, _, _, rfl, lenVX (.inl (.inl (.inl hA1.1))), ?_⟩
  rw [List.length_map]
  refine ⟨rfl, rfl, _, _, rfl, p, g, ks.length, rfl, P1, rfl, by omega, Int.lt_trans (show (ks.length : Int) < 2 ^ 100 by omega) (by decide), fun t2 J2 a0 a1 P2 c2 => ?_⟩
  have c21 := c2.trans c1
  have hA2 : PtsA J2 A ks := PtsA.same (by rw [← c21] at hA; exact hA) cH_sub
  have hz2 : PtsA J2 pl zs := PtsA.same (by rw [← c21] at hz; exact hz) cH_sub
  obtain ⟨i, rfl⟩ := Int.eq_ofNat_of_zero_le a0
  have hi : i < ks.length := by omega
  have hr := List.getElem?_eq_getElem hi
  have mr := List.getElem_mem hi
  generalize ks[i] = r at hr mr
  have er := hA2.2 r mr
  unfold PtA at er
  obtain ⟨sr1, sr2⟩ := sk r mr
  refine ⟨_, rfl, _, rfl, ixX (.inl (.inl (.inl hA2.1))) (atI_nat (by rw [List.getElem?_map, hr]; rfl)) ?_⟩
  refine ⟨_, rfl, rfl, _, rfl, ?_⟩
  by_cases e0 : t = 0
  · refine iteY (by simp [e0]) ⟨_, rfl, ixT er rfl ⟨_, rfl, ixT er rfl ⟨_, rfl, by show 3 ≤ sizeLine; decide, fin _ _ n P2 c21 n0 (by omega) (by omega) (by omega)⟩⟩⟩
  refine iteN (by simp [e0]) ⟨_, rfl, rfl, _, rfl, ?_⟩
  by_cases e1 : t = 1
  · have hl := List.getElem?_eq_getElem (Nat.mod_lt (i + ks.length - 1) k0)
    have ml := List.getElem_mem (Nat.mod_lt (i + ks.length - 1) k0)
    generalize ks[(i + ks.length - 1) % ks.length]'(Nat.mod_lt (i + ks.length - 1) k0) = l at hl ml
    have el := hA2.2 l ml
    unfold PtA at el
    obtain ⟨sl1, sl2⟩ := sk l ml
    have ep := at_prev hi hl
    rw [Int.zero_add] at ep
    refine iteY (by simp [e1]) ⟨_, rfl, ixT er rfl ⟨_, rfl, _, rfl, _, _, rfl, rfl, ixX (.inl (.inl (.inl hA2.1))) ep (ixT el rfl ⟨_, _, rfl, rfl, ?_⟩)⟩⟩
    refine ⟨_, rfl, ixT er rfl ⟨_, rfl, _, rfl, _, _, rfl, rfl, ixX (.inl (.inl (.inl hA2.1))) ep (ixT el rfl ⟨_, _, rfl, rfl, ?_⟩)⟩⟩
    exact ⟨_, rfl, _, _, rfl, rfl, mul_smallL (by decide), by show 3 ≤ sizeLine; decide, fin _ _ (2 * n) P2 c21 (by omega) (by omega) (by omega) (by omega)⟩
  refine iteN (by simp [e1]) ⟨_, rfl, rfl, _, rfl, ?_⟩
  by_cases e2 : t = 2
  · refine iteY (by simp [e2]) ⟨_, rfl, _, rfl, _, rfl, _, _, rfl, lenVX (.inl (.inl (.inl hz2.1))), ?_⟩
    rw [List.length_map]
    refine ⟨rfl, rfl, _, _, rfl, p, g, zs.length, rfl, P2, rfl, by omega, Int.lt_trans (show (zs.length : Int) < 2 ^ 100 by omega) (by decide), fun t3 J3 b0 b1 P3 c3 => ?_⟩
    have c31 := c3.trans c21
    have hz3 : PtsA J3 pl zs := PtsA.same (by rw [← c31] at hz; exact hz) cH_sub
    obtain ⟨j, rfl⟩ := Int.eq_ofNat_of_zero_le b0
    have hj : j < zs.length := by omega
    have hu := List.getElem?_eq_getElem hj
    have mu := List.getElem_mem hj
    generalize zs[j] = u at hu mu
    have eu := hz3.2 u mu
    unfold PtA at eu
    obtain ⟨su1, su2⟩ := sz' u mu
    exact ixX (.inl (.inl (.inl hz3.1))) (atI_nat (by rw [List.getElem?_map, hu]; rfl)) ⟨_, rfl, ixT eu rfl ⟨_, rfl, ixT eu rfl ⟨_, rfl, by show 3 ≤ sizeLine; decide, fin _ _ n P3 c31 n0 (by omega) (by omega) (by omega)⟩⟩⟩
  refine iteN (by simp [e2]) ⟨_, rfl, rfl, _, rfl, ?_⟩
  by_cases e3 : t = 3
  · refine iteY (by simp [e3]) ?_
    refine ⟨_, rfl, ixT er rfl ⟨_, _, rfl, rfl, mul_smallL (by decide), _, rfl, rfl, rfl, _, _, rfl, p, g, 3, rfl, P2, rfl, by decide, by decide, fun u1 J3 x0 x1 P3 c3 => ⟨_, _, rfl, rfl, _, _, rfl, rfl, ?_⟩⟩⟩
    have er3 : J3 r.1 = some (.tup [.int r.2.1, .int r.2.2]) := cH_sub (p := p) (g := g) _ _ (by rw [c3, c21]; exact hA.2 r mr)
    refine ⟨_, rfl, ixT er3 rfl ⟨_, _, rfl, rfl, mul_smallL (by decide), _, rfl, rfl, rfl, _, _, rfl, p, g, 3, rfl, P3, rfl, by decide, by decide, fun u2 J4 y0 y1 P4 c4 => ⟨_, _, rfl, rfl, _, _, rfl, rfl, ?_⟩⟩⟩
    exact ⟨_, rfl, _, _, rfl, rfl, mul_smallL (by decide), by show 3 ≤ sizeLine; decide, fin _ _ (3 * n) P4 ((c4.trans c3).trans c21) (by omega) (by omega) (by omega) (by omega)⟩
  · refine iteN (by simp [e3]) ?_
    refine ⟨_, rfl, _, rfl, rfl, rfl, _, _, rfl, p, g, sz, rfl, P2, rfl, s0, Int.lt_trans s1 (by decide), fun u1 J3 x0 x1 P3 c3 => ⟨_, rfl, _, _, rfl, rfl, div_big (by decide) (by decide), _, _, rfl, rfl, ?_⟩⟩
    refine ⟨_, rfl, _, rfl, rfl, rfl, _, _, rfl, p, g, sz, rfl, P3, rfl, s0, Int.lt_trans s1 (by decide), fun u2 J4 y0 y1 P4 c4 => ⟨_, rfl, _, _, rfl, rfl, div_big (by decide) (by decide), _, _, rfl, rfl, ?_⟩⟩
    refine ⟨_, rfl, rfl, rfl, _, _, rfl, p, g, 9, rfl, P4, rfl, by decide, by decide, fun u3 J5 w0 w1 P5 c5 => ⟨_, _, rfl, rfl, by show 3 ≤ sizeLine; decide, fin _ _ (1 + u3) P5 (((c5.trans c4).trans c3).trans c21) (by omega) (by omega) (by omega) (by omega)⟩⟩
end
end W

namespace S
open PySem PySem.Spec PyProof.Rows L2
/-! x is not True, x a bool -/
section
variable {X : Cx}
theorem op_notBl : OpR X (compareOp .IsNot) (fun x y H Q => ∃ a b, x = .bl a ∧ y = .bl b ∧ Q (.bl (!decide (a = b))) H) := by
  intro pins s σ H x y v u Q I rx ry h
  obtain ⟨a, b, rfl, rfl, q⟩ := h
  cases rx
  cases ry
  show wpAny _ _ ((isSame (Value.bool a) (Value.bool b)) >>= fun z => pure (Value.bool (!z))) _ _ s
  refine wpAny_bind (wpAny_isSame_plain rfl (wpAny_pure (fin_bl I q ?_)))
  cases a <;> cases b <;> rfl
end
end S

namespace W
open PySem PySem.Spec PyProof.Rows L2
section
variable {P : Program} {w : World} {K : S.Frag} {mg : Str → Option Value} {base : Heap}
open S
theorem ins_corner {l : List P2} {n : Int} (n0 : 0 < n) (h : l.length = 1 ∨ 2 ≤ l.length ∧ ∀ (i : Nat) (a b : P2), l[i]? = some a → l[(i + 1) % l.length]? = some b → a ≠ b ∧ ∀ v ∈ l, 0 ≤ crP a b v) {v : P2} (hv : v ∈ l) : insB n n l v = true := by
  have l0 : 0 < l.length := List.length_pos_of_mem hv
  have e : ∀ a b : P2, sdV n n a b v = n * crP a b v := fun a b => by unfold sdV crP; grind
  have one : l.length = 1 → ∀ i : Nat, l[i]? = none ∨ l[i]? = some v := fun h1 i => by
    match l, h1, hv with
    | [x], _, hv =>
      rw [List.mem_singleton.mp hv]
      match i with
      | 0 => exact .inr rfl
      | _ + 1 => exact .inl rfl
  rw [ins_yes fun i hi => ?_]
  · by_cases c : 2 < l.length
    · rw [decide_eq_true c, Bool.true_or]
    · rw [decide_eq_false c, Bool.false_or]
      have b1 : ∀ x f : Int, btB x x f = true := fun x f => by
        unfold btB
        rw [decide_eq_true_eq]
        omega
      have b2 : ∀ x f : Int, btB x f x = true := fun x f => by
        unfold btB
        rw [decide_eq_true_eq]
        omega
      match l, c, hv with
      | [x], _, hv =>
        rw [List.mem_singleton.mp hv]
        show (btB _ _ _ && btB _ _ _) = true
        rw [b1, b1]
        rfl
      | [x, y], _, hv =>
        rcases List.mem_cons.mp hv with e | hv
        · rw [e]
          show (btB _ _ _ && btB _ _ _) = true
          rw [b1, b1]
          rfl
        · rw [List.mem_singleton.mp hv]
          show (btB _ _ _ && btB _ _ _) = true
          rw [b2, b2]
          rfl
      | _ :: _ :: _ :: _, c, _ => exact absurd (by simp) c
  · unfold sdB
    rcases h with h1 | ⟨h2, h3⟩
    · rcases one h1 ((i + l.length - 1) % l.length) with e1 | e1
      · rw [e1]
      · rw [e1]
        rcases one h1 i with e2 | e2
        · rw [e2]
        · rw [e2]
          show decide (0 ≤ sdV n n v v v) = true
          rw [decide_eq_true_eq, e]
          unfold crP
          simp
    · have hp := List.getElem?_eq_getElem (Nat.mod_lt (i + l.length - 1) l0)
      have hq := List.getElem?_eq_getElem hi
      generalize l[(i + l.length - 1) % l.length]'(Nat.mod_lt (i + l.length - 1) l0) = a at hp
      generalize l[i] = b at hq
      have ei : ((i + l.length - 1) % l.length + 1) % l.length = i := by
        by_cases c : i = 0
        · subst c
          rw [Nat.zero_add, Nat.mod_eq_of_lt (show l.length - 1 < l.length by omega), show l.length - 1 + 1 = l.length by omega, Nat.mod_self]
        · rw [show i + l.length - 1 = (i - 1) + l.length by omega, Nat.add_mod_right, Nat.mod_eq_of_lt (show i - 1 < l.length by omega), show i - 1 + 1 = i by omega, Nat.mod_eq_of_lt hi]
      have := (h3 _ a b hp (by rw [ei]; exact hq)).2 v hv
      rw [hp, hq]
      show decide (0 ≤ sdV n n a b v) = true
      rw [decide_eq_true_eq, e]
      exact Int.mul_nonneg (Int.le_of_lt n0) this
def spLaw (K : S.Frag) : Sp := Sp1 fun x H Q _ => ∃ (a : Addr) (ns : List Int), x = .ref a ∧ SqL K H a (ns.map V.int) ∧ ns.length ≤ 63 ∧ ∀ H', Q (.bl true) H'
theorem size_at {t : Int} (t0 : 0 ≤ t) (t1 : t < 5) : ∃ s : Int, atI [V.int 2, V.int 4, V.int 7, V.int (10 ^ (12 : Int).toNat), V.int (2 * 10 ^ (20 : Int).toNat)] t = some (.int s) ∧ 0 < s ∧ s < 2 ^ 69 := by
  have : t = 0 ∨ t = 1 ∨ t = 2 ∨ t = 3 ∨ t = 4 := by omega
  rcases this with rfl | rfl | rfl | rfl | rfl
  · exact ⟨_, rfl, by decide, by decide⟩
  · exact ⟨_, rfl, by decide, by decide⟩
  · exact ⟨_, rfl, by decide, by decide⟩
  · exact ⟨_, rfl, by decide +kernel, by decide +kernel⟩
  · exact ⟨_, rfl, by decide +kernel, by decide +kernel⟩
theorem many_at {t : Int} (t0 : 0 ≤ t) (t1 : t < 3) : ∃ s : Int, atI [V.int 1, V.int 6, V.int (10 ^ (9 : Int).toNat)] t = some (.int s) ∧ 0 < s ∧ s < 2 ^ 30 := by
  have : t = 0 ∨ t = 1 ∨ t = 2 := by omega
  rcases this with rfl | rfl | rfl
  · exact ⟨_, rfl, by decide, by decide⟩
  · exact ⟨_, rfl, by decide, by decide⟩
  · exact ⟨_, rfl, by decide +kernel, by decide +kernel⟩
theorem ok_law (T : Txt K mg) : FnOk P w K mg base (L2.CX P w) 9 (He.fAd K ("law", none)) (S.fdA K ("law", none)) ["_law_script"] (spLaw K) := by
  have G__law_pool := ok__law_pool (P := P) (w := w) (base := base) T
  have G__law_take := ok__law_take (P := P) (w := w) (base := base) T
  have G__law_hull := ok__law_hull (P := P) (w := w) (base := base) T
  have G__law_point := ok__law_point (P := P) (w := w) (base := base) T
  have G_Share___init__ := ok_Share___init__ (P := P) (w := w) (base := base) T
  have G_inside := ok_inside (P := P) (w := w) (base := base) T
  have G__law_number := ok__law_number (P := P) (w := w) (base := base) T
  have G__law_due := ok__law_due (P := P) (w := w) (base := base) T
  refine FunD.ok T.F_law sc_law (fun vs H Q E h => S.splen1 h) (fun cdv A outer s H vs Q E hr h => ?_)
  have hu := hu_of hr
  refine ⟨_, (pss_cons (ps_set (i := 1) sc_law.nd rfl (by first | exact Or.inl rfl | exact Or.inr rfl) (S.pe_fnS G__law_pool (hr.mono (by decide)) rfl T.g__law_pool T.F__law_pool.kp (kb__law_pool_1 T) S.pas0 (pa_cons (pv 0) pa_nil) pk_nil rfl rfl))
      (pss_cons (ps_set (i := 2) sc_law.nd rfl (by first | exact Or.inl rfl | exact Or.inr rfl) (pe_cmpR op_eq (S.pe_fnS G__law_take (hr.mono (by decide)) rfl T.g__law_take T.F__law_take.kp (kb__law_take_2 T) S.pas0 (pa_cons (pv 1) (pa_cons pe_int pa_nil)) pk_nil rfl rfl) pe_int (nomark _)))
      (pss_cons (ps_set (i := 3) sc_law.nd rfl (by first | exact Or.inl rfl | exact Or.inr rfl) (pe_ix (S.ixK (K := K) rfl) (pe_lst (pa_cons pe_int (pa_cons pe_int (pa_cons pe_int (pa_cons (pe_op op_pow pe_int pe_int) (pa_cons (pe_op S.op_mulA pe_int (pe_op op_pow pe_int pe_int)) pa_nil)))))) (S.pe_fnS G__law_take (hr.mono (by decide)) rfl T.g__law_take T.F__law_take.kp (kb__law_take_2 T) S.pas0 (pa_cons (pv 1) (pa_cons pe_int pa_nil)) pk_nil rfl rfl) (fun _ _ => rfl)))
      (pss_cons (ps_set (i := 4) sc_law.nd rfl (by first | exact Or.inl rfl | exact Or.inr rfl) (pe_op op_add pe_int (S.pe_fnS G__law_take (hr.mono (by decide)) rfl T.g__law_take T.F__law_take.kp (kb__law_take_2 T) S.pas0 (pa_cons (pv 1) (pa_cons (pe_ix (S.ixK (K := K) rfl) (pe_lst (pa_cons pe_int (pa_cons pe_int (pa_cons (pe_op op_pow pe_int pe_int) pa_nil)))) (S.pe_fnS G__law_take (hr.mono (by decide)) rfl T.g__law_take T.F__law_take.kp (kb__law_take_2 T) S.pas0 (pa_cons (pv 1) (pa_cons pe_int pa_nil)) pk_nil rfl rfl) (fun _ _ => rfl)) pa_nil)) pk_nil rfl rfl)))
      (pss_cons (ps_set (i := 5) sc_law.nd rfl (by first | exact Or.inl rfl | exact Or.inr rfl) (pe_lst pa_nil))
      (pss_cons (ps_for (S.own_of rfl) rfl (pi_range1 rfl T.n_range (pa_cons (pe_op op_add pe_int (S.pe_fnS G__law_take (hr.mono (by decide)) rfl T.g__law_take T.F__law_take.kp (kb__law_take_2 T) S.pas0 (pa_cons (pv 1) (pa_cons pe_int pa_nil)) pk_nil rfl rfl)) pa_nil)) (pg_name (i := 6) sc_law.nd rfl (by first | exact Or.inl rfl | exact Or.inr rfl))
        (pss_one (ps_expr (pe_bm PySem.F.plainAttrs_list PySem.F.slot_list_append PySem.F.type_list_append mt_append (pv 5) (pa_cons (pe_tup (pa_cons (pe_op op_sub (S.pe_fnS G__law_take (hr.mono (by decide)) rfl T.g__law_take T.F__law_take.kp (kb__law_take_2 T) S.pas0 (pa_cons (pv 1) (pa_cons (pv 3) pa_nil)) pk_nil rfl rfl) (pe_op op_fdivW (pv 3) pe_int)) (pa_cons (pe_op op_sub (S.pe_fnS G__law_take (hr.mono (by decide)) rfl T.g__law_take T.F__law_take.kp (kb__law_take_2 T) S.pas0 (pa_cons (pv 1) (pa_cons (pv 3) pa_nil)) pk_nil rfl rfl) (pe_op op_fdivW (pv 3) pe_int)) pa_nil))) pa_nil)))))
      (pss_cons (ps_set (i := 7) sc_law.nd rfl (by first | exact Or.inl rfl | exact Or.inr rfl) (S.pe_fnS G__law_hull (hr.mono (by decide)) rfl T.g__law_hull T.F__law_hull.kp (kb__law_hull_1 T) S.pas0 (pa_cons (pv 5) pa_nil) pk_nil rfl rfl))
      (pss_cons (ps_set (i := 8) sc_law.nd rfl (by first | exact Or.inl rfl | exact Or.inr rfl) (S.pe_fnS G__law_point (hr.mono (by decide)) rfl T.g__law_point T.F__law_point.kp (kb__law_point_5 T) S.pas0 (pa_cons (pv 1) (pa_cons (pv 7) (pa_cons (pv 5) (pa_cons (pv 4) (pa_cons (pv 3) pa_nil))))) pk_nil rfl rfl))
      (pss_cons (ps_set (i := 9) sc_law.nd rfl (by first | exact Or.inl rfl | exact Or.inr rfl) (pe_callTy (S.tupOfK (K := K) rfl) rfl T.n_tuple S.boot_tuple (pa_cons (pe_lc (own := [("_law_row", 10)]) (g := gName 10) (tt := tYes) rfl sc_law.nd (S.pi_listK (K := K) rfl (pv 7)) (blkOk_by (N := ["_law_script", "_law_pool_here", "_law_whole", "_law_size", "_law_many", "_law_points", "_law_count", "_law_hull_here", "_law_point_here", "_law_shape", "_law_row", "_law_pair", "_law_told"]) (sc := defScope s_law) (by decide +kernel)) (fun _ _ _ _ _ => (pg_name (i := 10) sc_law.nd rfl (by first | exact Or.inl rfl | exact Or.inr rfl))) (fun _ _ _ _ _ => pts_nil) (fun _ _ _ _ _ => (pe_tup (pa_cons (S.pe_mkS T.mk_Share G_Share___init__ (hr.mono (by decide)) rfl T.g_Share (kb_Share___init___3 T).choose_spec S.pas0 (pa_cons (pe_ix (S.ixK (K := K) rfl) (pv 10) pe_int (fun _ _ => rfl)) (pa_cons (pv 4) pa_nil)) pk_nil rfl rfl) (pa_cons (S.pe_mkS T.mk_Share G_Share___init__ (hr.mono (by decide)) rfl T.g_Share (kb_Share___init___3 T).choose_spec S.pas0 (pa_cons (pe_ix (S.ixK (K := K) rfl) (pv 10) pe_int (fun _ _ => rfl)) (pa_cons (pv 4) pa_nil)) pk_nil rfl rfl) pa_nil))))) pa_nil)))
      (pss_cons (ps_for (S.own_of rfl) rfl (S.pi_tupK (K := K) rfl (pv 9)) (pg_name (i := 11) sc_law.nd rfl (by first | exact Or.inl rfl | exact Or.inr rfl))
        (pss_one (ps_if (pt_cmpR S.op_notBl (S.pe_fnS G_inside (hr.mono (by decide)) rfl T.g_inside T.F_inside.kp (kb_inside_2 T) S.pas0 (pa_cons (pv 9) (pa_cons (pv 11) pa_nil)) pk_nil rfl rfl) pe_bl (nomark _)) (pss_one (ps_ret pe_bl)) pss_nil)))
      (pss_cons (ps_set (i := 12) sc_law.nd rfl (by first | exact Or.inl rfl | exact Or.inr rfl) (S.pe_fnS G_inside (hr.mono (by decide)) rfl T.g_inside T.F_inside.kp (kb_inside_2 T) S.pas0 (pa_cons (pv 9) (pa_cons (pe_tup (pa_cons (S.pe_fnS G__law_number (hr.mono (by decide)) rfl T.g__law_number T.F__law_number.kp (kb__law_number_3 T) S.pas0 (pa_cons (pe_ix (S.ixK (K := K) rfl) (pv 8) pe_int (fun _ _ => rfl)) (pa_cons (pe_ix (S.ixK (K := K) rfl) (pv 8) pe_int (fun _ _ => rfl)) (pa_cons (pv 2) pa_nil))) pk_nil rfl rfl) (pa_cons (S.pe_fnS G__law_number (hr.mono (by decide)) rfl T.g__law_number T.F__law_number.kp (kb__law_number_3 T) S.pas0 (pa_cons (pe_ix (S.ixK (K := K) rfl) (pv 8) pe_int (fun _ _ => rfl)) (pa_cons (pe_ix (S.ixK (K := K) rfl) (pv 8) pe_int (fun _ _ => rfl)) (pa_cons (pv 2) pa_nil))) pk_nil rfl rfl) pa_nil))) pa_nil)) pk_nil rfl rfl))
      (pss_one (ps_ret (pe_and (pe_callB (S.isiK (K := K) rfl) rfl T.n_isinstance S.boot_isinstance (pa_cons (pv 12) (pa_cons (pe_bltn (v := .ty "bool") rfl T.n_bool S.boot_bool rfl) pa_nil))) (pe_one (pe_cmpR op_eq (pv 12) (S.pe_fnS G__law_due (hr.mono (by decide)) rfl T.g__law_due T.F__law_due.kp (kb__law_due_3 T) S.pas0 (pa_cons (pv 7) (pa_cons (pv 4) (pa_cons (pv 8) pa_nil))) pk_nil rfl rfl) (nomark _))))))))))))))))), ?_⟩
  obtain ⟨_, rfl, a, ns, rfl, hS, hl, q⟩ := h
  refine ⟨_, rfl, rfl, rfl, _, rfl, a, ns, rfl, hS, hl, fun p g J00 _ _ _ P00 => ?_⟩
  refine ⟨_, rfl, rfl, rfl, _, _, rfl, p, g, 2, rfl, P00, rfl, by decide, by decide, fun t0 J0 _ _ PQ0 _ => ⟨rfl, ?_⟩⟩
  obtain ⟨wh, hwh⟩ : ∃ wh, wh = decide (V.int t0 = V.int 1) := ⟨_, rfl⟩
  refine ⟨10, 12, rfl, rfl, ⟨by decide, by decide, by decide⟩, 10, 20, rfl, rfl, ⟨by decide, by decide, by decide⟩, 2, _, rfl, rfl, mul_smallL (by decide), by show 5 ≤ sizeLine; decide, fun sl hsl => ?_⟩
  have PQ1 := PQ0.same (Same.new (o := .lst [V.int 2, V.int 4, V.int 7, V.int (10 ^ (12 : Int).toNat), V.int (2 * 10 ^ (20 : Int).toNat)]) hsl)
  refine ⟨_, rfl, rfl, rfl, _, _, rfl, p, g, 5, rfl, PQ1, rfl, by decide, by decide, fun t1 J2 a1 b1 PQ2 c2 => ?_⟩
  have e2 := cH_sub (p := p) (g := g) _ _ (show cH p g J2 sl = some (.lst [V.int 2, V.int 4, V.int 7, V.int (10 ^ (12 : Int).toNat), V.int (2 * 10 ^ (20 : Int).toNat)]) by rw [c2]; exact PQ0.new hsl)
  obtain ⟨sz, es, sz0, sz1⟩ := size_at a1 b1
  refine ixX (.inl (.inl (.inl e2))) es ?_
  refine ⟨_, rfl, 10, 9, rfl, rfl, ⟨by decide, by decide, by decide⟩, by show 3 ≤ sizeLine; decide, fun sm hsm => ?_⟩
  have PQ3 := PQ2.same (Same.new (o := .lst [V.int 1, V.int 6, V.int (10 ^ (9 : Int).toNat)]) hsm)
  refine ⟨_, rfl, rfl, rfl, _, _, rfl, p, g, 3, rfl, PQ3, rfl, by decide, by decide, fun t2 J4 a2 b2 PQ4 c4 => ?_⟩
  have e4 := cH_sub (p := p) (g := g) _ _ (show cH p g J4 sm = some (.lst [V.int 1, V.int 6, V.int (10 ^ (9 : Int).toNat)]) by rw [c4]; exact PQ2.new hsm)
  obtain ⟨mz, em, mz0, mz1⟩ := many_at a2 b2
  refine ixX (.inl (.inl (.inl e4))) em ?_
  refine ⟨rfl, rfl, _, _, rfl, p, g, mz, rfl, PQ4, rfl, mz0, Int.lt_trans mz1 (by decide), fun t3 J5 a3 b3 PQ5 _ => ?_⟩
  refine ⟨_, _, rfl, rfl, by show 0 ≤ sizeLine; decide, fun pl hpl => ?_⟩
  have n0 : (0 : Int) < 1 + t3 := by omega
  have n1 : 1 + t3 < 2 ^ 31 := by omega
  have PQ6 := PQ5.same (Same.new (o := .lst []) hpl)
  have nep := PQ5.nep hpl
  have e6 := PQ5.new (o := .lst []) hpl
  generalize upd J5 pl (.lst []) = J6 at PQ6 e6
  refine ⟨_, rfl, rfl, rfl, _, _, rfl, p, g, 7, rfl, PQ6, rfl, by decide, by decide, fun t4 J7 a4 b4 PQ7 c7 => ?_⟩
  have e7 : cH p g J7 pl = some (.lst []) := by rw [c7]; exact e6
  refine ⟨_, _, rfl, rfl, _, rfl, by omega, by omega, for_range (n := (1 + t4).toNat) (fun i σ J => PoolAt J p g ∧ ∃ zs : List (Addr × P2), zs.length = i ∧ PtsA (cH p g J) pl zs ∧ (∀ z ∈ zs, smR z.2 ∧ z.1 ≠ pl) ∧ ∃ v5, σ = [some (.ref a), some (.ref p), some (.bl wh), some (.int sz), some (.int (1 + t3)), some (.ref pl), v5, none, none, none, none, none, none]) ⟨PQ7, [], rfl, ⟨e7, fun _ h => by cases h⟩, (fun _ h => by cases h), _, by rw [hwh]; rfl⟩ ?_ ?_⟩
  · rintro i σ J hi ⟨PJ, zs, lz, hz, sm, v5, rfl⟩
    have eJ := cH_sub _ _ hz.1
    have rng : ∀ {u : Int}, 0 ≤ u → u < sz → (u - sz / 2).natAbs < 2 ^ 70 := fun {u} h0 h1 => by omega
    refine ⟨_, rfl, .inl ⟨rfl, _, .inl (.inl eJ)⟩, _, rfl, _, rfl, rfl, rfl, _, _, rfl, p, g, sz, rfl, PJ, rfl, sz0, Int.lt_trans sz1 (by decide), fun u1 K1 x0 x1 PK1 ck1 => ⟨_, rfl, _, _, rfl, rfl, div_big (by decide) (by decide), _, _, rfl, rfl, ?_⟩⟩
    refine ⟨_, rfl, _, rfl, rfl, rfl, _, _, rfl, p, g, sz, rfl, PK1, rfl, sz0, Int.lt_trans sz1 (by decide), fun u2 K2 y0 y1 PK2 ck2 => ⟨_, rfl, _, _, rfl, rfl, div_big (by decide) (by decide), _, _, rfl, rfl, by show 2 ≤ sizeLine; decide, fun c0 hc0 => ?_⟩⟩
    have ck : cH p g K2 = cH p g J := ck2.trans ck1
    have PK3 := PK2.same (Same.new (o := .tup [.int (u1 - sz / 2), .int (u2 - sz / 2)]) hc0)
    have nc := PK2.nep hc0
    have e3 : cH p g (upd K2 c0 (.tup [.int (u1 - sz / 2), .int (u2 - sz / 2)])) = upd (cH p g J) c0 (.tup [.int (u1 - sz / 2), .int (u2 - sz / 2)]) := by rw [cH_upd nc.1 nc.2, ck]
    have s3 : Same (cH p g J) (cH p g (upd K2 c0 (.tup [.int (u1 - sz / 2), .int (u2 - sz / 2)]))) := by
      rw [e3]
      exact Same.new (by rw [← ck]; exact cH_none hc0)
    have e30 : cH p g (upd K2 c0 (.tup [.int (u1 - sz / 2), .int (u2 - sz / 2)])) c0 = some (.tup [.int (u1 - sz / 2), .int (u2 - sz / 2)]) := by rw [e3]; exact upd_same
    have e3p := s3 _ _ hz.1
    have ncp : c0 ≠ pl := (ne_of_none (cH_sub _ _ (by rw [ck]; exact hz.1) : K2 pl = _) hc0).symm
    generalize upd K2 c0 (.tup [.int (u1 - sz / 2), .int (u2 - sz / 2)]) = K3 at PK3 e3 s3 e30 e3p
    have eK3 := cH_sub _ _ e3p
    have sml : (zs.map fun z => V.ref z.1).length < sizeLine := by rw [List.length_map]; exact Nat.lt_of_le_of_lt (show zs.length ≤ 1000 by omega) (by decide)
    refine ⟨pl, _, _, rfl, rfl, eK3, sml, ?_⟩
    have nl := cH_ne hz.1
    have PK4 : PoolAt (upd K3 pl (.lst ((zs.map fun z => V.ref z.1) ++ [.ref c0]))) p g := by
      obtain ⟨gs, s', c', h1, h2⟩ := PK3.ex
      exact ⟨PK3.ne, gs, s', c', by rw [upd_ne nl.1.symm]; exact h1, by rw [upd_ne nl.2.symm]; exact h2⟩
    have e4 : cH p g (upd K3 pl (.lst ((zs.map fun z => V.ref z.1) ++ [.ref c0]))) = upd (cH p g K3) pl (.lst ((zs.map fun z => V.ref z.1) ++ [.ref c0])) := cH_upd nl.1 nl.2
    refine ⟨PK4, zs ++ [(c0, (u1 - sz / 2, u2 - sz / 2))], by rw [List.length_append, lz]; rfl, ⟨by rw [e4, upd_same, List.map_append]; rfl, fun z hz' => ?_⟩, fun z hz' => ?_, _, rfl⟩
    · rw [e4]
      unfold PtA
      rcases List.mem_append.mp hz' with h | h
      · rw [upd_ne (sm z h).2]
        exact s3 _ _ (hz.2 z h)
      · rw [List.mem_singleton.mp h, upd_ne ncp]
        exact e30
    · rcases List.mem_append.mp hz' with h | h
      · exact sm z h
      · rw [List.mem_singleton.mp h]
        exact ⟨⟨rng x0 x1, rng y0 y1⟩, ncp⟩
  · rintro σ J ⟨PJ, zs, lz, hz, sm, v5, rfl⟩
    have hzJ : PtsA J pl zs := hz.same cH_sub
    have zne : zs ≠ [] := fun e => by
      rw [e] at lz
      simp at lz
      omega
    refine ⟨_, rfl, rfl, rfl, _, rfl, pl, zs, rfl, hzJ, zne, by omega, fun z h => ⟨up (m := 70) (sm z h).1.1 (by decide), up (m := 70) (sm z h).1.2 (by decide)⟩, fun A ks ps H1 s1 hA pw alt sub lk => ?_⟩
    have smk : ∀ z ∈ ks, smR z.2 := fun z h => (sm z (sub z h)).1
    have kne : ks ≠ [] := by
      rcases alt with ⟨h, _⟩ | ⟨h2, h3⟩
      · intro e
        rw [e] at h
        cases h
      · intro e
        have := (hull_ok pw h2).1
        rw [← h3, e] at this
        simp at this
    have PH1 := PJ.same s1
    have hAc : PtsA (cH p g H1) A ks := by
      refine ⟨cH_of hA.1 ?_ ?_, fun z hz' => ?_⟩
      · intro e
        obtain ⟨gs, s', c', h1, h2⟩ := PH1.ex
        have := hA.1
        rw [e, h1] at this
        match ks, this with
        | [], this => simp at this
        | [_], this => simp at this
        | _ :: _ :: _, this => simp at this
      · intro e
        obtain ⟨gs, s', c', h1, h2⟩ := PH1.ex
        have := hA.1
        rw [e, h2] at this
        match ks, gs, this with
        | [], _, _ => exact kne rfl
        | _ :: _, [], this => simp at this
        | _ :: _, _ :: _, this => simp at this
      · obtain ⟨gs, s', c', h1, h2⟩ := PH1.ex
        have e := hA.2 z hz'
        unfold PtA at e ⊢
        refine cH_of e (fun e2 => ?_) (fun e2 => ?_)
        · rw [e2, h1] at e
          cases e
        · rw [e2, h2] at e
          cases e
    have hzc : PtsA (cH p g H1) pl zs := hz.same (cH_same s1)
    refine ⟨_, rfl, _, rfl, _, rfl, _, rfl, _, rfl, rfl, rfl, _, _, _, _, _, rfl, p, g, A, pl, ks, zs, 1 + t3, sz, rfl, rfl, rfl, rfl, rfl, PH1, hAc, kne, lk, smk, hzc, zne, by omega, fun z h => (sm z h).1, n0, n1, sz0, sz1, fun pc v m H2 s2 PH2 hpc m0 m1 sv1 sv2 => ?_⟩
    have hA : PtsA H2 A ks := hAc.same (s2.trans cH_sub)
    have hpc : P3A H2 pc v m := cH_sub _ _ hpc
    refine ⟨_, rfl, A, rfl, ⟨_, .inl (.inl hA.1)⟩, fun D hD => lc_list (xs := ks.map fun z => V.ref z.1) (fun i J => Same H2 J ∧ ∃ cs : List (Addr × P2), cs.length = i ∧ J D = some (.lst (cs.map fun z => .ref z.1)) ∧ (∀ z ∈ cs, CrA K (1 + t3) J z.1 z.2) ∧ cs.map (·.2) = (ks.take i).map (·.2)) ⟨Same.new hD, [], rfl, upd_same, (fun _ h => by cases h), rfl⟩ (fun i J _ h => .inl (.inl (h.1 _ _ hA.1))) ?_ ?_ gName_mono⟩
    · rintro i x J hx ⟨sJ, cs, lc, eD, hcs, ecs⟩
      have il := (List.getElem?_eq_some_iff.mp hx).1
      rw [List.length_map] at il
      rw [List.getElem?_map] at hx
      obtain ⟨z, hzi, rfl⟩ := Option.map_eq_some_iff.mp hx
      have mz := List.mem_of_getElem? hzi
      have ez := (hA.2 z mz).same sJ
      unfold PtA at ez
      obtain ⟨sz1', sz2'⟩ := smk z mz
      have b4k : ∀ {i : Int}, i.natAbs < 2 ^ 70 → i.natAbs < 2 ^ 4000 := fun h => up h (by decide)
      have nn : (1 + t3).natAbs < 2 ^ 70 := by omega
      refine ⟨rfl, _, rfl, ixT ez rfl ⟨_, rfl, rfl, rfl, fun c1 dx np ndx ne => mkZ np ndx ne (b4k sz1') (b4k nn) (by omega) fun H3 s2 v1 => ⟨rfl, ?_⟩⟩⟩
      refine ⟨_, rfl, ixT (s2 _ _ ez) rfl ⟨_, rfl, rfl, rfl, fun c2 dx np ndx ne => mkZ np ndx ne (b4k sz2') (b4k nn) (by omega) fun H4 s3 v2 => ⟨rfl, ?_⟩⟩⟩
      refine ⟨by show 2 ≤ sizeLine; decide, fun c0 hc0 => ?_⟩
      have s4 := Same.new (o := .tup [.ref c1, .ref c2]) hc0
      have s24 := (s2.trans s3).trans s4
      have eD' := s24 _ _ eD
      have e0 := upd_same (H := H4) (a := c0) (o := .tup [.ref c1, .ref c2])
      have v1' := (v1.same s3).same s4
      have v2' := v2.same s4
      generalize upd H4 c0 (.tup [.ref c1, .ref c2]) = H5 at s4 s24 eD' e0 v1' v2'
      refine ⟨_, eD', by rw [List.length_map]; exact Nat.lt_of_le_of_lt (show cs.length ≤ 1000 by omega) (by decide), Same.upd (sJ.trans s24) hD, cs ++ [(c0, z.2)], by rw [List.length_append, lc]; rfl, by rw [upd_same, List.map_append]; rfl, fun y hy => ?_, by rw [List.map_append, ecs, List.take_add_one, hzi, List.map_append]; rfl⟩
      rcases List.mem_append.mp hy with h | h
      · exact ((hcs y h).same s24).putL eD'
      · rw [List.mem_singleton.mp h]
        exact CrA.putL ⟨c1, c2, e0, v1', v2'⟩ eD'
    · rintro J ⟨sJ, cs, lc, eD, hcs, ecs⟩
      rw [List.length_map] at lc
      rw [List.length_map, List.take_length] at ecs
      refine ⟨D, _, rfl, .inl ⟨.inl (.inl eD), fun tp htp => ?_⟩⟩
      have sT := Same.new (o := .tup (cs.map fun z => V.ref z.1)) htp
      have eT := upd_same (H := J) (a := tp) (o := .tup (cs.map fun z => V.ref z.1))
      generalize upd J tp (.tup (cs.map fun z => V.ref z.1)) = J2 at sT eT
      have hA2 := hA.same (sJ.trans sT)
      -- what is known of the hull
      have facts : ks.length = 1 ∨ 2 ≤ ks.length ∧ ∀ i (x y : Addr × P2), ks[i]? = some x → ks[(i + 1) % ks.length]? = some y → x.2 ≠ y.2 ∧ ∀ v ∈ ks, 0 ≤ crP x.2 y.2 v.2 := by
        rcases alt with ⟨h1, _⟩ | ⟨h2, h3⟩
        · exact .inl h1
        · refine .inr ?_
          obtain ⟨k1, k2, k3⟩ := hull_ok pw h2
          have el : (hullM ps).length = ks.length := by rw [← h3, List.length_map]
          rw [el] at k1 k2
          refine ⟨k1, fun i x y hx hy => ?_⟩
          obtain ⟨n1, n2⟩ := k2 i x.2 y.2 (by rw [← h3, List.getElem?_map, hx]; rfl) (by rw [← h3, List.getElem?_map, hy]; rfl)
          exact ⟨n1, fun v hv => n2 _ (k3 _ (by rw [← h3]; exact List.mem_map.mpr ⟨v, hv, rfl⟩))⟩
      have ecs' : ∀ {i : Nat} {z : Addr × P2}, cs[i]? = some z → ∃ y, ks[i]? = some y ∧ y.2 = z.2 := fun {i z} h => by
        have h1 : (cs.map (·.2))[i]? = some z.2 := by rw [List.getElem?_map, h]; rfl
        rw [ecs, List.getElem?_map] at h1
        obtain ⟨y, hy, e⟩ := Option.map_eq_some_iff.mp h1
        exact ⟨y, hy, e⟩
      have emap : cs.map (·.2) = ks.map (·.2) := ecs
      have cne : cs ≠ [] := fun e => by
        rw [e] at lc
        exact kne (List.length_eq_zero_iff.mp lc.symm)
      have hC : CrsA K (1 + t3) J2 tp cs := ⟨eT, fun z hz => (hcs z hz).same sT⟩
      have smc : ∀ z ∈ cs, smR z.2 := fun z hz => by
        obtain ⟨i, hi⟩ := List.getElem?_of_mem hz
        obtain ⟨y, hy, e⟩ := ecs' hi
        rw [← e]
        exact smk y (List.mem_of_getElem? hy)
      have corner : ∀ z ∈ cs, insB (1 + t3) (1 + t3) (cs.map (·.2)) z.2 = true := fun z hz => by
        refine ins_corner n0 ?_ (List.mem_map.mpr ⟨z, hz, rfl⟩)
        rw [emap, List.length_map]
        rcases facts with h | ⟨h1, h2⟩
        · exact .inl h
        · refine .inr ⟨h1, fun i a b ha hb => ?_⟩
          rw [List.getElem?_map] at ha hb
          obtain ⟨x, hx, rfl⟩ := Option.map_eq_some_iff.mp ha
          obtain ⟨y, hy, rfl⟩ := Option.map_eq_some_iff.mp hb
          obtain ⟨q1, q2⟩ := h2 i x y hx hy
          refine ⟨q1, fun v hv => ?_⟩
          obtain ⟨u, hu, rfl⟩ := List.mem_map.mp hv
          exact q2 u hu
      refine ⟨_, rfl, tp, rfl, ⟨_, .inl (.inl eT)⟩, for_tup (xs := cs.map fun z => V.ref z.1) (fun i σ J => Same J2 J ∧ ∃ v11, σ = [some (.ref a), some (.ref p), some (.bl wh), some (.int sz), some (.int (1 + t3)), some (.ref pl), v5, some (.ref A), some (.ref pc), some (.ref tp), none, v11, none]) ⟨fun _ _ h => h, _, rfl⟩ (fun i σ J _ h => .inl (.inl (h.1 _ _ eT))) ?_ ?_⟩
      · rintro i x σ J hx ⟨sJ', v11, rfl⟩
        rw [List.getElem?_map] at hx
        obtain ⟨z, hzi, rfl⟩ := Option.map_eq_some_iff.mp hx
        have mz := List.mem_of_getElem? hzi
        obtain ⟨c1, c2, ec, w1, w2⟩ := (hC.2 z mz).same sJ'
        obtain ⟨sz1', sz2'⟩ := smc z mz
        refine ⟨_, rfl, _, rfl, rfl, rfl, _, _, rfl, tp, z.1, _, _, cs, 1 + t3, 1 + t3, z.2, rfl, hC.same sJ', cne, by omega, n0, n1, smc, rfl, ec, w1, w2, n0, by omega, by omega, by omega, fun J3 s3 => ?_⟩
        rw [corner z mz]
        exact ⟨_, _, rfl, rfl, _, rfl, iteN (by decide) ⟨sJ'.trans s3, _, rfl⟩⟩
      · rintro σ J3 ⟨sJ3, v11, rfl⟩
        have hC3 := hC.same sJ3
        have hpc3 : P3A J3 pc v m := (sJ3 _ _ (sT _ _ (sJ _ _ hpc)))
        unfold P3A at hpc3
        refine ⟨_, rfl, _, rfl, ixT hpc3 rfl ⟨_, rfl, ixT hpc3 rfl ⟨_, rfl, rfl, rfl, _, _, _, rfl, v.1, m, wh, rfl, rfl, rfl, m0, m1, sv1, fun w1 J4 s4 vw1 => ?_⟩⟩⟩
        have hpc4 := s4 _ _ hpc3
        refine ⟨_, rfl, ixT hpc4 rfl ⟨_, rfl, ixT hpc4 rfl ⟨_, rfl, rfl, rfl, _, _, _, rfl, v.2, m, wh, rfl, rfl, rfl, m0, m1, sv2, fun w2 J5 s5 vw2 => ?_⟩⟩⟩
        refine ⟨by show 2 ≤ sizeLine; decide, fun tw htw => ?_⟩
        have s6 := Same.new (o := .tup [w1, w2]) htw
        have e6 := upd_same (H := J5) (a := tw) (o := .tup [w1, w2])
        have v16 := (vw1.same s5).same s6
        have v26 := vw2.same s6
        generalize upd J5 tw (.tup [w1, w2]) = J6 at s6 e6 v16 v26
        have s36 := (s4.trans s5).trans s6
        refine ⟨rfl, rfl, _, _, rfl, tp, tw, w1, w2, cs, 1 + t3, m, v, rfl, hC3.same s36, cne, by omega, n0, n1, smc, rfl, e6, v16, v26, m0, m1, sv1, sv2, fun J7 s7 => ?_⟩
        have hA7 := hA.same ((((sJ.trans sT).trans sJ3).trans s36).trans s7)
        have hpc7 : P3A J7 pc v m := s7 _ _ (s36 _ _ hpc3)
        rw [emap]
        refine ⟨_, rfl, _, _, _, _, true, rfl, .ty _, .base (.bl _), kit_ty (by decide +kernel), _, rfl, iteY rfl ?_⟩
        refine ⟨_, rfl, _, rfl, _, rfl, _, rfl, rfl, rfl, _, _, _, rfl, A, pc, ks, 1 + t3, m, v, rfl, rfl, rfl, hA7, kne, lk, smk, n0, n1, hpc7, m0, m1, sv1, sv2, rfl, ?_⟩
        rw [decide_eq_true rfl]
        exact q _
end
end W

namespace W
open PySem PySem.Spec PyProof.Rows L2
theorem facts {P : Program} {w : World} {K : S.Frag} {h : Heap} {mg : Str → Option Value} {f : Addr} (X : K.In h) (G : h.Ns mainGlobals mg) (hfa : mg ("law" : Str) = some (.ref f)) (c : S.SaysX cks fns gts K) :
    ∃ fd : FuncData, (∀ (s : Shared) (v : Value), BindsTo s fd ⟨[v], []⟩ [("_law_script", v)]) ∧ ∀ base : Heap, FnOk P w K mg base (L2.CX P w) 9 f fd ["_law_script"] (spLaw K) := by
  have T : Txt K mg := txt_of X G c
  have e := hfa.symm.trans T.g_law
  cases e
  have b := FunD.bindsA (ps := ["_law_script"]) T.F_law fun _ _ _ _ _ _ us hl => match us, hl with | [_], _ => rfl
  exact ⟨_, fun s v => b s [v] rfl, fun base => ok_law T⟩
end W
open PySem PySem.W PySem.Calls PyProof.Rows
set_option maxRecDepth 100000 in
set_option maxHeartbeats 0 in
theorem PySem.Challenge.cw_seenshares_k50_inside_holds : PySem.Challenge.rw_seenshares_k50_inside.Holds := by
  w_on; o_law
  refine HandSHeadRun.head_any (r := OpenLaw.row PySem.Challenge.rw_seenshares_k50_inside) (q := view (OpenLaw.row PySem.Challenge.rw_seenshares_k50_inside).prog [28]) (H := _root_.W.hk) (ob := _root_.W.ob) (M := 9000)
    (loose := _root_.W.lo) (d := HandSHeadRun.topDef (OpenLaw.row PySem.Challenge.rw_seenshares_k50_inside).prog 28) (kwd := []) _root_.W.ob_eq (by kernel_rfl) (fun s => by kernel_rfl) _root_.W.run
    (by kernel_rfl) (by kernel_rfl) (by kernel_rfl) (by rfl) (by first | assumption | decide +kernel) (by decide +kernel) ⟨rfl, rfl, rfl, rfl, rfl, by decide +kernel⟩ ?hw ?hc
  case hw => w_witness2
  case hc =>
    refine _root_.S.walk_X (l := PySem.Challenge.rw_seenshares_k50_inside) (n := 63) (k := 9) (x := "_law_script") rfl (by decide) (by kernel_rfl) ⟨rfl, by decide, by decide⟩ ?F
    intro w mg fa h Y G hmg0
    obtain ⟨K, KX, c⟩ := Y
    have hmg : mg ("law" : PySem.Str) = some (.ref fa) := by
      have e : (HandSHeadRun.topDef (OpenLaw.row PySem.Challenge.rw_seenshares_k50_inside).prog 28).name = ("law" : PySem.Str) := by kernel_rfl
      rw [← e]; exact hmg0
    obtain ⟨fd, hb, hF⟩ := _root_.W.facts (P := (PySem.Challenge.rw_seenshares_k50_inside).prog) (w := w) KX G hmg c
    exact ⟨K, fd, _root_.W.spLaw K, KX, hb, fun H a ns hl hbits _ hS => ⟨_, rfl, a, ns, rfl, hS, hl, fun _ => rfl⟩, fun base _ _ => hF base⟩

