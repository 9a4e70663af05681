import PyProof.Rows.All
import Wide.All
import OpenK.AllK
import Wide.FinOn
import KE.KStateDown
import Lean
import HandS.Base
import HandS.Call
import HandS.List
import HandS.Comp
import HandS.Ends
import HandS.Dict
import HandS.Iter
import HandS.Text
import HandS.More
import HandS.Exc
import HandS.FStr
import KE.KCallOwn
import KE.KOpsOwn
import HandS.ExcOwn
import HandS.TryOnly
import HandS.Words
import HandS.WordsList
import HandS.WordsDict
import HandS.WordsExc
import HandS.Defaults
import HandS.MakeKw
import HandS.IsInst
import HandS.Wide
import HandS.ExcInit
import HandS.ExcField
import HandS.ExcIs
import HandS.SlotsOwn
import HandS.NamedTupSort
import HandS.OwnEq
import HandS.EndBits
import HandS.Head0
import HandS.Head1
import HandS.Head2
import HandS.HeadEnd
import HandS.HeadHook1
import HandS.HeadHook2
import HandS.DictComp
import HandS.Property
import HandS.Deep
import HandS.Walk
import HandS.TupAny
import KE.KEqDict
import KE.DataEq
import KE.LtData
import HandS.Conv
import KE.KDictKeyed
import HandS.GenList
import HandS.GenYield
import HandS.Style
import HandS.Star
import KE.GoesEnumKw
import HandS.HotCalls
import KE.KEqNest
import PySem.Challenge.RW_seenshares_k16_long_runs
set_option Elab.async false
set_option linter.all false
set_option maxRecDepth 100000
set_option maxHeartbeats 4000000
namespace S
open PySem PySem.Spec PyProof.Rows L2
/-! the head's facts as plain Bools over the written part -/
abbrev Frag := PySem.W.Frag
abbrev Ck := Frag → Bool
/-- the function behind a property -/
def gA (K : Frag) (p : Str × Option Str) : Addr := match PySem.W.recIn K (He.fAd K p) "property" with
  | some (.ref g :: _) => g
  | _ => 0
def gnW (K : Frag) (p : Str × Option Str) : He.FnW := match K.lookup (gA K p) with
  | some ⟨_, _, .func fd, _⟩ => some (fd.name, fd.qualname, fd.params, fd.body, fd.scope, fd.globals, fd.closure, fd.builtins)
  | _ => none
def gok (K : Frag) (d : He.DefD) : Bool := PySem.W.keepIn K (.ref (gA K d.at_)) && (match K.lookup (gA K d.at_) with
  | some ⟨_, _, .func fd, _⟩ => PySem.W.codeIn K fd.code d.qual && (He.dflB K fd.defaults (d.dvs K) && He.kwdB K fd.kwdefaults (d.kws K))
  | _ => false)
theorem funG {K : Frag} {d : He.DefD} (e : gnW K d.at_ = d.val) (c : gok K d = true) : ∃ fd, FunD K d.name d.qual d.params d.body d.scope (d.dvs K) (d.kws K) (gA K d.at_) fd := by
  obtain ⟨kp, c2⟩ := He.ba c
  unfold gnW at e
  cases q : K.lookup (gA K d.at_) with
  | none => rw [q] at c2; cases c2
  | some o =>
    obtain ⟨o1, o2, o3, o4⟩ := o
    rw [q] at c2 e
    cases o3 with
    | func fd =>
      obtain ⟨x1, x2, x3, x4, x5, x6, x7, x8, x9, x10, x11, x12, x13, x14, x15⟩ := fd
      have e2 : (some (x1, x2, x3, x4, x5, x6, x7, x15) : He.FnW) = some (d.name, d.qual, d.params, .stmts d.body, d.scope, mainGlobals, [], builtinsNs) := e
      simp only [Option.some.injEq, Prod.mk.injEq] at e2
      obtain ⟨y1, y2, y3, y4, y5, y6, y7, y8⟩ := e2
      subst y1 y2 y3 y4 y5 y6 y7 y8
      have c3 : (PySem.W.codeIn K x13 d.qual && (He.dflB K x8 (d.dvs K) && He.kwdB K x9 (d.kws K))) = true := c2
      obtain ⟨k1, k2⟩ := He.ba c3
      obtain ⟨k3, k4⟩ := He.ba k2
      exact ⟨_, ⟨o1, o2, x8, x9, x10, x11, x12, x13, x14, o4, rfl, q, k1, He.dflB_ok k3, He.kwdB_ok k4⟩, kp⟩
    | _ => cases c2
def obsX (ck : List Ck) (fn gt : List He.DefD) (K : Frag) : He.AlD :=
  (ck.all (fun c => c K) && (fn.all (fun d => d.ok K) && gt.all (fun d => gok K d)), fn.map (fun d => He.fnW K d.at_) ++ gt.map (fun d => gnW K d.at_))
def valX (fn gt : List He.DefD) : He.AlD := (true, fn.map He.DefD.val ++ gt.map He.DefD.val)
def obsXG (n : Nat) (ck : List Ck) (fn gt : List He.DefD) (g : Addr → Option Obj) : He.AlD :=
  obsX ck fn gt (He.frG g (He.asD g n))
def SaysX (ck : List Ck) (fn gt : List He.DefD) (K : Frag) : Prop := obsX ck fn gt K = valX fn gt
def hookX (n : Nat) (ck : List Ck) (fn gt : List He.DefD) : PySem.W.Hook where
  α := He.AlD
  obs := fun s => obsXG n ck fn gt s.heap.get?
  val := fun _ => valX fn gt
  says := fun _ h => ∃ K : Frag, K.In h ∧ SaysX ck fn gt K
  of := fun _ _ e => ⟨_, He.frG_in, e⟩
  keeps := fun _ _ _ ⟨K, hK, c⟩ k => ⟨K, PySem.W.Frag.In.keeps hK k, c⟩
theorem obsXG_eq {n : Nat} {ck : List Ck} {fn gt : List He.DefD} {g : Addr → Option Obj} {s : Shared}
    (h : ∀ a, g a = s.heap.get? a) : obsXG n ck fn gt g = (hookX n ck fn gt).obs s := by
  have e : g = s.heap.get? := funext h
  subst e
  exact rfl
theorem SaysX.bools {ck : List Ck} {fn gt : List He.DefD} {K : Frag} (c : SaysX ck fn gt K) :
    (ck.all (fun c => c K) && (fn.all (fun d => d.ok K) && gt.all (fun d => gok K d))) = true := congrArg Prod.fst c
theorem SaysX.fact {ck : List Ck} {fn gt : List He.DefD} {K : Frag} (c : SaysX ck fn gt K) (i : Nat) {f : Ck}
    (h : ck[i]? = some f := by rfl) : f K = true :=
  List.all_eq_true.mp (He.ba c.bools).1 f (List.mem_of_getElem? h)
/-- the function object that stands there -/
def fdOf (K : Frag) (a : Addr) : FuncData := match K.lookup a with
  | some ⟨_, _, .func fd, _⟩ => fd
  | _ => PySem.W.fnOf "" "" ⟨[], [], none, [], [], none, []⟩ [] ⟨.function, [], false, false, []⟩ .none .none .none .none none .none .none
def fdA (K : Frag) (p : Str × Option Str) : FuncData := fdOf K (He.fAd K p)
def gdA (K : Frag) (p : Str × Option Str) : FuncData := fdOf K (gA K p)
abbrev FunA (K : Frag) (d : He.DefD) : Prop :=
  FunD K d.name d.qual d.params d.body d.scope (d.dvs K) (d.kws K) (He.fAd K d.at_) (fdA K d.at_)
abbrev FunG (K : Frag) (d : He.DefD) : Prop :=
  FunD K d.name d.qual d.params d.body d.scope (d.dvs K) (d.kws K) (gA K d.at_) (gdA K d.at_)
theorem SaysX.def_ {ck : List Ck} {fn gt : List He.DefD} {K : Frag} (c : SaysX ck fn gt K) (i : Nat) {d : He.DefD}
    (h : fn[i]? = some d := by rfl) : FunA K d := by
  have e : fn.map (fun d => He.fnW K d.at_) ++ gt.map (fun d => gnW K d.at_) = fn.map He.DefD.val ++ gt.map He.DefD.val := congrArg Prod.snd c
  have e1 := (List.append_inj e (by rw [List.length_map, List.length_map])).1
  have e2 := congrArg (fun l => l[i]?) e1
  simp only [List.getElem?_map, h, Option.map_some, Option.some.injEq] at e2
  obtain ⟨fd, F⟩ := He.DefD.funD e2 (List.all_eq_true.mp (He.ba (He.ba c.bools).2).1 d (List.mem_of_getElem? h))
  have q : fdA K d.at_ = fd := by
    obtain ⟨oc, od, dV, kV, doc, pm, an, cdv, ct, osl, r, lk, _⟩ := F.ex
    unfold fdA fdOf
    rw [lk]
  unfold FunA
  rw [q]
  exact F
theorem SaysX.get_ {ck : List Ck} {fn gt : List He.DefD} {K : Frag} (c : SaysX ck fn gt K) (i : Nat) {d : He.DefD}
    (h : gt[i]? = some d := by rfl) : FunG K d := by
  have e : fn.map (fun d => He.fnW K d.at_) ++ gt.map (fun d => gnW K d.at_) = fn.map He.DefD.val ++ gt.map He.DefD.val := congrArg Prod.snd c
  have e1 := (List.append_inj e (by rw [List.length_map, List.length_map])).2
  have e2 := congrArg (fun l => l[i]?) e1
  simp only [List.getElem?_map, h, Option.map_some, Option.some.injEq] at e2
  obtain ⟨fd, F⟩ := funG e2 (List.all_eq_true.mp (He.ba (He.ba c.bools).2).2 d (List.mem_of_getElem? h))
  have q : gdA K d.at_ = fd := by
    obtain ⟨oc, od, dV, kV, doc, pm, an, cdv, ct, osl, r, lk, _⟩ := F.ex
    unfold gdA fdOf
    rw [lk]
  unfold FunG
  rw [q]
  exact F
/-- a property of a class -/
def proB (K : Frag) (C : Addr) (f : Str) : Bool := He.eqO (PySem.W.findIn K (.ref C) f) (some (some (.ref (He.ma K C f)))) &&
  (He.eqO (PySem.W.specialIn K (.ref (He.ma K C f)) "__get__") (some (some (.builtin "property.__get__"))) &&
  (decide (PySem.W.takesIn K (.ref (He.ma K C f)) = some true) && (match PySem.W.recIn K (He.ma K C f) "property" with | some (.ref _ :: _) => true | _ => false)))
theorem proB_ok {K : Frag} {x f : Str} (q : proB K (He.ga K x) f = true) : PropOf K (He.ga K x) f (He.ma K (He.ga K x) f) (gA K (x, some f)) := by
  obtain ⟨a, q⟩ := He.ba q
  obtain ⟨b, q⟩ := He.ba q
  obtain ⟨c, d⟩ := He.ba q
  refine ⟨He.eqO_ok a, He.eqO_ok b, of_decide_eq_true c, ?_⟩
  show ∃ rest, PySem.W.recIn K (He.ma K (He.ga K x) f) "property" = some (.ref (gA K (x, some f)) :: rest)
  have e : gA K (x, some f) = (match PySem.W.recIn K (He.ma K (He.ga K x) f) "property" with
    | some (.ref g :: _) => g
    | _ => 0) := rfl
  rw [e]
  split at d
  · rename_i g r h
    rw [h]
    exact ⟨r, rfl⟩
  · cases d
/-! own exception classes, over ValueError at any depth -/
def oexO (K : Frag) (C : Addr) : Bool := (match K.lookup C with
  | some ⟨.type "type", _, .cls cd, sl⟩ => (match cd.mro, sl.toList with
    | .ref C' :: bm, [_, _, _, _, some (.builtin n), _] =>
      C' == C && (n == "ValueError.__new__" && (!cd.hasDel && (cd.hasDict && PySem.HandSPX.refsVE bm)))
    | _, _ => false)
  | _ => false)
theorem oexO_ok {K : Frag} {C : Addr} (q : oexO K C = true) :
    ∃ nm qn N bs bm sn sub ab col dd k0 k1 k2 k3 k5, K.lookup C = some (excClassObj nm qn C N bs bm true sn sub ab col dd k0 k1 k2 k3 k5 "ValueError.__new__") ∧ PySem.HandSPX.refsVE bm = true := by
  unfold oexO at q
  split at q
  · rename_i dd cd sl ho
    split at q
    · rename_i c1 bm k0 k1 k2 k3 n k5 hm hs
      simp only [Bool.and_eq_true, beq_iff_eq, Bool.not_eq_true'] at q
      obtain ⟨e1, e2, e3, e4, e5⟩ := q
      subst e1 e2
      obtain ⟨nm, bs, mro, ns, qn, hd, sn, sub, ab, col, dl⟩ := cd
      simp only at hm e3 e4
      subst hm e3 e4
      obtain ⟨l⟩ := sl
      simp only at hs
      subst hs
      exact ⟨nm, qn, ns, bs, bm, sn, sub, ab, col, dd, k0, k1, k2, k3, k5, ho, e5⟩
    · cases q
  · cases q
def oexB (K : Frag) (C : Addr) : Bool := oexO K C && (He.eqO (PySem.W.findIn K (.ref C) "__setattr__") (some (some (.builtin "object.__setattr__"))) &&
  (decide (PySem.W.subIn K (.ref C) (.type "BaseException") = some true) && (decide (PySem.W.typeIn K (.ref C) = some (.type "type")) && PySem.W.keepIn K (.ref C))))
theorem oexB_ok {K : Frag} {C : Addr} (q : oexB K C = true) : OexC K C := by
  obtain ⟨a, q⟩ := He.ba q
  obtain ⟨b, q⟩ := He.ba q
  obtain ⟨c, q⟩ := He.ba q
  obtain ⟨d, e⟩ := He.ba q
  exact ⟨oexO_ok a, He.eqO_ok b, of_decide_eq_true c, of_decide_eq_true d, e⟩
def excB (K : Frag) (D : Addr) : Bool := xfB K D && (He.eqO (PySem.W.findIn K (.ref D) "__class__") (some (some (.builtin "object.__class__"))) &&
  (He.eqO (PySem.W.specialIn K (.builtin "object.__class__") "__get__") (some (some (.builtin "getset_descriptor.__get__"))) &&
  (decide (PySem.W.takesIn K (.builtin "object.__class__") = some true) && decide (PySem.W.mroIn K D (.type "object") = some true))))
theorem excB_ok {K : Frag} {D : Addr} (q : excB K D = true) : ExcC K D := by
  obtain ⟨a, q⟩ := He.ba q
  obtain ⟨b, q⟩ := He.ba q
  obtain ⟨c, q⟩ := He.ba q
  obtain ⟨d, e⟩ := He.ba q
  have x := xfB_ok a
  exact ⟨x.ga, x.gg, x.exC, x.hdC, He.eqO_ok b, He.eqO_ok c, of_decide_eq_true d, of_decide_eq_true e⟩
end S
namespace S
open PySem PySem.Spec PyProof.Rows L2
/-! promises by their number of arguments -/
def Sp1 (f : V → Hp → VK → XK → Prop) : Sp := fun vs H Q E => ∃ x, vs = [x] ∧ f x H Q E
def Sp2 (f : V → V → Hp → VK → XK → Prop) : Sp := fun vs H Q E => ∃ x y, vs = [x, y] ∧ f x y H Q E
def Sp3 (f : V → V → V → Hp → VK → XK → Prop) : Sp := fun vs H Q E => ∃ x y z, vs = [x, y, z] ∧ f x y z H Q E
def Sp4 (f : V → V → V → V → Hp → VK → XK → Prop) : Sp := fun vs H Q E => ∃ x y z u, vs = [x, y, z, u] ∧ f x y z u H Q E
def Sp5 (f : V → V → V → V → V → Hp → VK → XK → Prop) : Sp := fun vs H Q E => ∃ x y z u v, vs = [x, y, z, u, v] ∧ f x y z u v H Q E
section
variable {vs : List V} {H : Hp} {Q : VK} {E : XK}
theorem splen1 {f} (h : Sp1 f vs H Q E) : vs.length = 1 := by obtain ⟨_, rfl, _⟩ := h; rfl
theorem splen2 {f} (h : Sp2 f vs H Q E) : vs.length = 2 := by obtain ⟨_, _, rfl, _⟩ := h; rfl
theorem splen3 {f} (h : Sp3 f vs H Q E) : vs.length = 3 := by obtain ⟨_, _, _, rfl, _⟩ := h; rfl
theorem splen4 {f} (h : Sp4 f vs H Q E) : vs.length = 4 := by obtain ⟨_, _, _, _, rfl, _⟩ := h; rfl
theorem splen5 {f} (h : Sp5 f vs H Q E) : vs.length = 5 := by obtain ⟨_, _, _, _, _, rfl, _⟩ := h; rfl
end
/-! built-ins by name -/
theorem boot_int : bootBuiltins "int" = some (.type "int") := by decide +kernel
theorem boot_bool : bootBuiltins "bool" = some (.type "bool") := by decide +kernel
theorem boot_str : bootBuiltins "str" = some (.type "str") := by decide +kernel
theorem boot_list : bootBuiltins "list" = some (.type "list") := by decide +kernel
theorem boot_tuple : bootBuiltins "tuple" = some (.type "tuple") := by decide +kernel
theorem boot_dict : bootBuiltins "dict" = some (.type "dict") := by decide +kernel
theorem boot_len : bootBuiltins "len" = some (.builtin "len") := by decide +kernel
theorem boot_abs : bootBuiltins "abs" = some (.builtin "abs") := by decide +kernel
theorem boot_isinstance : bootBuiltins "isinstance" = some (.builtin "isinstance") := by decide +kernel
section
variable {X : Cx} {CX : CXT} {k n : Nat} {f C : Addr} {fd : FuncData} {ps ks : List Str} {sp : Sp} {E : L2.St → XK} {x m : Str} {p pos apos : Pos} {o e : Expr} {es : List Expr} {kws : List Keyword} {ta : TE} {t tk : TA} {g : List Value → List Value → List Value} {gV : List V → List V → List V}
theorem pe_globI {i : Int} (hg : Gl X x) (h : ∃ t, X.mg x = some (.int i t)) (hd : (x == ("__debug__" : Str)) = false := by decide) : PE X (.Name x pos) (tC (.int i)) := by
  obtain ⟨t, h⟩ := h
  exact pe_glob hg h ⟨t, rfl⟩ hd
theorem pe_globS {z : Str} (hg : Gl X x) (h : ∃ t, X.mg x = some (.str z t)) (hd : (x == ("__debug__" : Str)) = false := by decide) : PE X (.Name x pos) (tC (.str z)) := by
  obtain ⟨t, h⟩ := h
  exact pe_glob hg h ⟨t, rfl⟩ hd
/-! what is raised, wished for at the slots -/
theorem pas0 {X : Cx} : ∀ σ : L2.St, PassesAt (L2.CX X.prog X.w) X σ E0 := fun σ pins H s e s' I c => passL pins σ H s e s' I c
theorem pasE {X : Cx} {W : WX} (tk : Takes X W) : ∀ σ : L2.St, PassesAt (L2.CX X.prog X.w) X σ (fun cls d H => W cls d σ H) := fun σ => passAt tk σ
theorem own_of {K : Value → Shared → Prop} {E1 : Value → Shared → Prop} (hx : X.xe = fun e s' => wpAny (model X.prog X.w) X.A (leaving X.env e) (fun _ s2 => K e s2) E1 s') : PassesOwn (model X.prog X.w) X.A X.env X.xe := passes_of hx
theorem kb_of_binds {K : Frag} {ds : List Value} {dvs : List V} (hb : Binds K fd ps ds) (hd : Vals dvs ds) (hl : n + dvs.length = ps.length) : KBn K fd ps n [] (fun us _ => us ++ ds) (fun vs _ => vs ++ dvs) where
  to := fun s us ws k l1 l2 => by
    have e : ([] : List Str).zip ws = [] := rfl
    rw [e]
    exact hb s us k (by rw [List.length_append, l1, ← hd.length]; exact hl)
  rel := fun r _ => r.append hd
/-! f(e, .., k = v, ..); C(e, .., k = v, ..); o.m(e, .., k = v, ..) -/
def tFnS (n m : Nat) (sp : Sp) (gV : List V → List V → List V) (E : L2.St → XK) (t tk : TA) : TE := fun σ H Q =>
  t σ H fun vs H1 => tk σ H1 fun zs H2 => vs.length = n ∧ zs.length = m ∧ sp (gV vs zs) H2 Q (E σ)
def tMkS (C : Addr) (n m : Nat) (sp : Sp) (gV : List V → List V → List V) (E : L2.St → XK) (t tk : TA) : TE := fun σ H Q =>
  t σ H fun vs H1 => tk σ H1 fun zs H2 => vs.length = n ∧ zs.length = m ∧ ∀ x dx, H2 x = none → H2 dx = none → dx ≠ x →
    sp (gV (.ref x :: vs) zs) (upd (upd H2 dx (.own x)) x (.ins C dx [])) (fun v H3 => v = .non ∧ Q (.ref x) H3) (E σ)
def tMtS (C : Addr) (m : Str) (n l : Nat) (sp : Sp) (gV : List V → List V → List V) (E : L2.St → XK) (ta : TE) (t tk : TA) : TE := fun σ H Q =>
  ta σ H fun x H1 => ∃ a dx fs, x = .ref a ∧ H1 a = some (.ins C dx fs) ∧ fs.lookup m = none ∧
    t σ H1 fun vs H2 => tk σ H2 fun zs H3 => vs.length = n ∧ zs.length = l ∧ sp (gV (x :: vs) zs) H3 Q (E σ)
section
variable {pins : List (Addr × Obj)} {σ : L2.St} {H : Hp} {s : Shared} {Q : VK} {us ws : List Value} {vs zs : List V}
theorem run_S (F : FnOk X.prog X.w X.K X.mg X.base CX k f fd ps sp) (hr : Room k X.A) (hb : KBn X.K fd ps n ks g gV) (hx : PassesAt CX X σ (E σ)) (I : Inv X pins σ H s) (r : Vals vs us) (rz : Vals zs ws)
    (l1 : vs.length = n) (l2 : zs.length = ks.length) (h : sp (gV vs zs) H Q (E σ)) : wpAny (model X.prog X.w) X.A (call (.ref f) us (ks.zip ws)) (EP X pins σ Q) X.xe s := by
  have a1 : us.length = n := r.length.symm.trans l1
  have a2 : ws.length = ks.length := rz.length.symm.trans l2
  refine wpAny_call (codeAny_mono (F.run X.A X.stack s H ⟨us, ks.zip ws⟩ (g us ws) (gV vs zs) Q (E σ) hr I.env0 (hb.to s us ws I.kIn a1 a2) (hb.rel r rz) h) fun r s' hq => ?_)
  match r, hq with
  | .error e, hq => exact hx pins H s e s' I hq
  | .ok (.ret u), hq => exact I.after hq
  | .ok .next, hq => exact hq.elim
  | .ok .brk, hq => exact hq.elim
  | .ok .cont, hq => exact hq.elim
theorem run_mkS (M : Mk X.K C f) (F : FnOk X.prog X.w X.K X.mg X.base CX k f fd ps sp) (hr : Room (k + 1) X.A) (hb : KBn X.K fd ps (n + 1) ks g gV) (hx : PassesAt CX X σ (E σ)) (I : Inv X pins σ H s) (r : Vals vs us) (rz : Vals zs ws)
    (l1 : vs.length = n) (l2 : zs.length = ks.length) (h : ∀ x dx, H x = none → H dx = none → dx ≠ x → sp (gV (.ref x :: vs) zs) (upd (upd H dx (.own x)) x (.ins C dx [])) (fun v H2 => v = .non ∧ Q (.ref x) H2) (E σ)) :
    wpAny (model X.prog X.w) X.A (call (.ref C) us (ks.zip ws)) (EP X pins σ Q) X.xe s := by
  have hq := h (s.heap.objs.size + 1) s.heap.objs.size (I.hok.fresh (Nat.le_succ _)) (I.hok.fresh (Nat.le_refl _)) (Nat.ne_of_lt (Nat.lt_succ_self _))
  have J := Inv.made (C := C) I
  have r1 : Vals (V.ref (s.heap.objs.size + 1) :: vs) (Value.ref (s.heap.objs.size + 1) :: us) := .cons rfl r
  have a1 : (Value.ref (s.heap.objs.size + 1) :: us).length = n + 1 := by rw [← r1.length]; exact congrArg Nat.succ l1
  have a2 : ws.length = ks.length := rz.length.symm.trans l2
  have run := F.run _ X.stack _ _ ⟨Value.ref (s.heap.objs.size + 1) :: us, ks.zip ws⟩ (g (Value.ref (s.heap.objs.size + 1) :: us) ws) _ _ (E σ) (hr.make C us (ks.zip ws)) (J.env0.make C us (ks.zip ws)) (hb.to _ _ ws J.kIn a1 a2) (hb.rel r1 rz) hq
  refine wpAny_call (make_map (f := f) I.kIn M.makes M.init (beq_iff_eq.mp M.fn) (codeAny_mono run fun r s' hq2 => ?_))
  match r, hq2 with
  | .error e, hq2 => exact hx pins _ _ e s' J hq2
  | .ok (.ret u), hq2 =>
    obtain ⟨v, H2, J2, rv, ev, q3⟩ := J.after hq2
    subst ev
    exact ⟨rv, ⟨V.ref (s.heap.objs.size + 1), H2, J2, rfl, q3⟩⟩
  | .ok .next, hq2 => exact hq2.elim
  | .ok .brk, hq2 => exact hq2.elim
  | .ok .cont, hq2 => exact hq2.elim
end
theorem pe_fnS (F : FnOk X.prog X.w X.K X.mg X.base CX k f fd ps sp) (hr : Room k X.A) (hg : Gl X x) (hm : X.mg x = some (.ref f)) (hk : PySem.W.keepIn X.K (.ref f) = true) (hb : KBn X.K fd ps n ks g gV) (hx : ∀ σ, PassesAt CX X σ (E σ))
    (ha : PA X (e :: es) t) (hkw : PK X kws tk) (hall : (backToKw pos (keywordEach kws X.env)).all (·.1.isSome) = true) (hks : (backToKw pos (keywordEach kws X.env)).filterMap (·.1) = ks)
    (hdb : (x == ("__debug__" : Str)) = false := by decide) (he : starEach (e :: es) X.env = (false, eval e X.env) :: starEach es X.env := by rfl)
    (hpl : ((backTo pos (starEach (e :: es) X.env)).any (·.1) || (backToKw pos (keywordEach kws X.env)).any (·.1.isNone)) = false := by rfl) :
    PE X (.Call (.Name x p) (e :: es) kws pos) (tFnS n ks.length sp gV E t tk) := ⟨fun pins s σ H Q I h =>
  wpAny_Call_Name_kw (ld_glob I hg hm (PySem.W.callWith_KW (h₀ := X.base) I.ok.mod.kin hk hall (thn (ha.run pos pins s σ H _ I h) fun us s1 ⟨vs, H1, I1, r, q⟩ =>
    thn (hkw.run pos pins s1 σ H1 _ I1 q) fun ws s2 ⟨zs, H2, I2, rz, l1, l2, q2⟩ => ⟨I2.kIn, by rw [hks]; exact run_S F hr hb (hx σ) I2 r rz l1 l2 q2⟩) hpl he) hdb)⟩
theorem pe_mkS (M : Mk X.K C f) (F : FnOk X.prog X.w X.K X.mg X.base CX k f fd ps sp) (hr : Room (k + 1) X.A) (hg : Gl X x) (hm : X.mg x = some (.ref C)) (hb : KBn X.K fd ps (n + 1) ks g gV) (hx : ∀ σ, PassesAt CX X σ (E σ))
    (ha : PA X (e :: es) t) (hkw : PK X kws tk) (hall : (backToKw pos (keywordEach kws X.env)).all (·.1.isSome) = true) (hks : (backToKw pos (keywordEach kws X.env)).filterMap (·.1) = ks)
    (hdb : (x == ("__debug__" : Str)) = false := by decide) (he : starEach (e :: es) X.env = (false, eval e X.env) :: starEach es X.env := by rfl)
    (hpl : ((backTo pos (starEach (e :: es) X.env)).any (·.1) || (backToKw pos (keywordEach kws X.env)).any (·.1.isNone)) = false := by rfl) :
    PE X (.Call (.Name x p) (e :: es) kws pos) (tMkS C n ks.length sp gV E t tk) := ⟨fun pins s σ H Q I h =>
  wpAny_Call_Name_kw (ld_glob I hg hm (PySem.W.callWith_KW (h₀ := X.base) I.ok.mod.kin M.kp hall (thn (ha.run pos pins s σ H _ I h) fun us s1 ⟨vs, H1, I1, r, q⟩ =>
    thn (hkw.run pos pins s1 σ H1 _ I1 q) fun ws s2 ⟨zs, H2, I2, rz, l1, l2, q2⟩ => ⟨I2.kIn, by rw [hks]; exact run_mkS M F hr hb (hx σ) I2 r rz l1 l2 q2⟩) hpl he) hdb)⟩
theorem pe_mtS {pl : Sem Bool} (he : PE X o ta) (c : Cls X.K C) (hm : Meth X.K C m f) (F : FnOk X.prog X.w X.K X.mg X.base CX k f fd ps sp) (hr : Room k X.A) (hb : KBn X.K fd ps (n + 1) ks g gV) (hx : ∀ σ, PassesAt CX X σ (E σ))
    (ha : PA X (e :: es) t) (hkw : PK X kws tk) (hall : (backToKw pos (keywordEach kws X.env)).all (·.1.isSome) = true) (hks : (backToKw pos (keywordEach kws X.env)).filterMap (·.1) = ks)
    (hst : starEach (e :: es) X.env = (false, eval e X.env) :: starEach es X.env := by rfl)
    (hpl : ((backTo pos (starEach (e :: es) X.env)).any (·.1) || (backToKw pos (keywordEach kws X.env)).any (·.1.isNone)) = false := by rfl)
    (ht : eval (.Call (.Attribute o m apos) (e :: es) kws pos) X.env = (do
      let ov ← eval o X.env
      standAt apos.atName
      let (f, first) ← holding [ov] (getMethod ov m pl)
      callWith pos f first (backTo pos (starEach (e :: es) X.env)) (backToKw pos (keywordEach kws X.env))) := by rfl) :
    PE X (.Call (.Attribute o m apos) (e :: es) kws pos) (tMtS C m n ks.length sp gV E ta t tk) := by
  refine ⟨fun pins s σ H Q I h => PySem.W.methodCall_KW (pl := pl) (thn (he.run pins s σ H _ I h) fun u s1 ⟨x, H1, I1, rx, a, dx, fs, ex, ea, l, q⟩ => ?_) ht⟩
  subst ex
  cases (show u = Value.ref a from rx)
  refine getmeth_ok I1 ea c hm l (PySem.W.callWith_KW (first := [.ref a]) (h₀ := X.base) I.ok.mod.kin hm.kp hall (thn (ha.run pos pins s1 σ H1 _ I1 q) fun us s2 ⟨vs, H2, I2, r, q2⟩ =>
    thn (hkw.run pos pins s2 σ H2 _ I2 q2) fun ws s3 ⟨zs, H3, I3, rz, l1, l2, q3⟩ => ⟨I3.kIn, ?_⟩) hpl hst)
  rw [hks]
  exact run_S (us := .ref a :: us) (vs := .ref a :: vs) F hr hb (hx σ) I3 (.cons rfl r) rz (congrArg Nat.succ l1) l2 q3
theorem pe_mtS0 {pl : Sem Bool} (he : PE X o ta) (c : Cls X.K C) (hm : Meth X.K C m f) (F : FnOk X.prog X.w X.K X.mg X.base CX k f fd ps sp) (hr : Room k X.A) (hb : KBn X.K fd ps (0 + 1) ks g gV) (hx : ∀ σ, PassesAt CX X σ (E σ))
    (hkw : PK X kws tk) (hall : (backToKw pos (keywordEach kws X.env)).all (·.1.isSome) = true) (hks : (backToKw pos (keywordEach kws X.env)).filterMap (·.1) = ks)
    (hpl : ((backTo pos (starEach [] X.env)).any (·.1) || (backToKw pos (keywordEach kws X.env)).any (·.1.isNone)) = false := by rfl)
    (ht : eval (.Call (.Attribute o m apos) [] kws pos) X.env = (do
      let ov ← eval o X.env
      standAt apos.atName
      let (f, first) ← holding [ov] (getMethod ov m pl)
      callWith pos f first (backTo pos (starEach [] X.env)) (backToKw pos (keywordEach kws X.env))) := by rfl) :
    PE X (.Call (.Attribute o m apos) [] kws pos) (tMtS C m 0 ks.length sp gV E ta tNil tk) := by
  refine ⟨fun pins s σ H Q I h => PySem.W.methodCall_KW (pl := pl) (thn (he.run pins s σ H _ I h) fun u s1 ⟨x, H1, I1, rx, a, dx, fs, ex, ea, l, q⟩ => ?_) ht⟩
  subst ex
  cases (show u = Value.ref a from rx)
  refine getmeth_ok I1 ea c hm l (PySem.W.callWith_KW0 (first := [.ref a]) (h₀ := X.base) I.ok.mod.kin hm.kp hall
    (thn (hkw.run pos pins s1 σ H1 _ I1 q) fun ws s3 ⟨zs, H3, I3, rz, l1, l2, q3⟩ => ⟨I3.kIn, ?_⟩) hpl)
  rw [hks]
  exact run_S (us := [.ref a]) (vs := [.ref a]) F hr hb (hx σ) I3 (.cons rfl .nil) rz rfl l2 q3
/-! raise C(e, ..), C with an own __init__ -/
theorem ps_raiseO {W : WX} {fI : Addr} {pos2 : Pos} (hc : X.calm = true) (tk : Takes X W) (T : OexC X.K C) (iC : PySem.W.findIn X.K (.ref C) "__init__" = some (some (.ref fI))) (tI : PySem.W.typeIn X.K (.ref fI) = some (.type "function"))
    (F : FnOk X.prog X.w X.K X.mg X.base (L2.CX X.prog X.w) k fI fd ps sp) (hr : Room (k + 1) X.A) (hb : KBn X.K fd ps n [] (fun us _ => us ++ []) (fun vs _ => vs ++ [])) (hg : Gl X x) (hm : X.mg x = some (.ref C)) (ha : PA X (e :: es) t)
    (hn : n = ps.length := by rfl)
    (hdb : (x == ("__debug__" : Str)) = false := by decide) (he : starEach (e :: es) X.env = (false, eval e X.env) :: starEach es X.env := by rfl) (hpl : (backTo pos (starEach es X.env)).any (·.1) = false := by rfl) :
    PS X (.Raise (some (.Call (.Name x p) (e :: es) [] pos)) none pos2) (fun _ σ H => tMkO C sp [] t σ H fun cls d H' => W cls d σ H') := by
  refine ps_raise hc tk (pmk_oex (ds := []) (dvs := []) T iC tI F hr (fun s us k hl => ?_) .nil passL hg hm ha hdb he hpl)
  exact hb.to s us [] k (by rw [List.append_nil] at hl; rw [hl, hn]) rfl
end
/-! isinstance of the caught error, with a dict of its own -/
section
open PySem.W PySem.Calls
variable {prog : Program} {w : World} {A : Around} {Ex : Value → Shared → Prop} {s : Shared} {K : Frag} {x D : Addr} {ox : Obj} {od : Option Obj}
theorem findObj_dataX {C : Addr} {name : Str} {a g : Value} {od : Option Obj} (hc : (clsIn K C).isSome = true) (ha : findIn K (.ref C) name = some (some a)) (hg : specialIn K a "__get__" = some (some g)) (ht : takesIn K a = some true) : findObj K C od name = some (.bind g a) := by
  obtain ⟨cd, hc⟩ := Option.isSome_iff_exists.mp hc
  unfold findObj
  simp [hc, ha, hg, ht]
theorem kin_classX (c : ExcC K D) {Q : Option Value → Shared → Prop} (X : K.In s.heap) (I : InstAt s.heap x ox D od) (h : Q (some (.ref D)) { s with toks := s.toks + 1 }) : wpAny (model prog w) A (getAttr? (.ref x) "__class__") Q Ex s := by
  have hf : findObj K D od "__class__" = some (.bind (.builtin "getset_descriptor.__get__") (.builtin "object.__class__")) :=
    findObj_dataX (by obtain ⟨cd, hc, _⟩ := any_some c.hd; rw [hc]; rfl) c.ha c.hn c.ht
  obtain ⟨hp, g, d, t, os⟩ := s
  have a0 := I.type (M := model prog w)
  have a1 := looks_findIn (M := model prog w) X c.hg
  have a2 := looks_findIn (M := model prog w) X c.hk
  have a3 := looks_find (M := model prog w) X I hf
  have sub : Looks (model prog w) hp (isInstance (.ref x) (.type "BaseException")) true := a0.andThen (looks_subIn X c.hs)
  have hx2 : (Value.builtin "BaseException.__getattribute__" == Value.builtin "object.__getattribute__") = false := by decide +kernel
  unfold getAttr? getAttrBy? getAttrBy
  refine wpAny_bind (wpAny_mkText (wpAny_bind (wpAny_attempt (wpAny_holding (wpAny_bind (a0.at (wpAny_bind (a1.at ?_))))))))
  have hx1 : (onTheHeap (Value.ref D) && Value.builtin "BaseException.__getattribute__" == Value.builtin "object.__getattribute__") = false := by
    rw [hx2]; rfl
  dsimp only
  rw [hx1, if_neg Bool.false_ne_true]
  unfold getAttrByItsOwn hookBefore
  refine wpAny_bind ?_
  rw [if_pos (show onTheHeap (Value.ref D) = true from rfl)]
  refine a2.at (wpAny_bind (wpAny_attempt (wpAny_holding ?_)))
  unfold callGetattribute
  have hx0 : ∀ z : Bool, (false && z) = false := fun _ => rfl
  rw [hx0, if_neg Bool.false_ne_true]
  unfold boundAndCalled
  rw [PySem.F.excAttr_ValueError.ga.bind (.ref x)]
  refine wpAny_bind (wpAny_pure ?_)
  refine wpAny_call (codeAny_call_builtin PySem.F.excAttr_ValueError.ga.plain PySem.F.entry_bexc_ga ?_)
  refine @check_slot (model prog w) _ _ ⟨hp, g, d, t + 1, os⟩ "BaseException.__getattribute__" "BaseException" "__getattribute__" (.ref x) [.str "__class__" t] [] _ (by decide +kernel) (by decide +kernel) sub (PySem.F.args_bexc_ga (.ref x) (.str "__class__" t)) ?_
  unfold Builtin.«object.__getattribute__»
  refine wpAny_bind (wpAny_of_eq (a := ((Value.ref x : Value), [Value.str "__class__" t])) (by first | rfl | (simp only [slotArgs]; rfl)) ?_)
  refine wpAny_bind (wpAny_pure (wpAny_bind (a0.at (wpAny_bind (a3.at ?_)))))
  refine wpAny_bind (wpAny_holding (wpAny_call (class_get (s := ⟨hp, g, d, t + 1, os⟩) (ox := ox) (od := od) X I c.hm ?_)))
  refine wpAny_pure ?_
  dsimp only
  rw [handedOut_of (v := .ref D) rfl]
  first
    | exact wpAny_pure (wpAny_pure h) | exact wpAny_pure h | exact wpAny_pure (wpAny_bind (wpAny_pure (wpAny_pure h)))
theorem kitx_excX (c : ExcC K D) : KitX K (.ref x) (.ref D) (fun h => InstAt h x ox D od) where
  ty := fun _ _ _ I => I.type
  it := fun _ _ X _ A' Q' E' s' k q => by
    obtain ⟨cd, hc, _⟩ := any_some c.hd
    unfold clsIn at hc
    split at hc
    · rename_i ho
      unfold isType loadHead
      exact wpAny_bind (wpAny_loadPart (k _ _ (X _ _ ho)) (wpAny_pure q))
    · cases hc
  ne := fun h tp dd its n sl X htp => (handS_kitx_exc (x := x) (ox := ox) c.hg c.hk c.hs c.hd c.ha c.hn c.ht c.hm).ne h tp dd its n sl X htp
  ca := fun X I k => kin_classX c X I k
end
/-- isinstance(e, c), e the error that the suite holds (class D, dict d) -/
def rIsX (K : Frag) (D a : Addr) (cls : Value) (d : Option Addr) : List V → Hp → VK → Prop := fun xs H Q => cls = .ref D ∧
  (d = none ∨ ∃ dd fs, d = some dd ∧ H dd = some (.xd fs)) ∧ ∃ (c : V) (cv : Value) (b : Bool), xs = [.ref a, c] ∧ ClsV c cv ∧ PySem.W.kitOne K (.ref D) cv = some b ∧ Q (.bl b) H
theorem call_isX {X : Cx} {a D : Addr} {oe : Obj} {cls : Value} {d : Option Addr} {pn : List (Addr × Obj)} (C : ExcC X.K D) (hz : Zc cls d oe) (hf : ∃ vs, oe.data = .fields vs) :
    CallR (X.suite a ((a, oe) :: pn)) (.builtin "isinstance") (rIsX X.K D a cls d) := by
  intro pins s σ H xs us Q I r h
  obtain ⟨ec, hd, c, cv, b, rfl, hcv, e, q⟩ := h
  obtain ⟨u1, u2, rfl, r1, r2⟩ := vals2 r
  cases (show u1 = Value.ref a from r1)
  cases hcv.eq r2
  obtain ⟨ha, _⟩ := I.pin (a, oe) (List.mem_append_left _ List.mem_cons_self)
  obtain ⟨vs, hv⟩ := hf
  have nc : PySem.W.notCls oe = true := by unfold PySem.W.notCls; rw [hv]
  obtain ⟨h1, h2⟩ := hz
  subst ec
  obtain ⟨od, J⟩ : ∃ od, PySem.W.InstAt s.heap a oe D od := by
    rcases hd with rfl | ⟨dd, fs, rfl, hx⟩
    · exact ⟨none, ha, h1, nc, by rw [h2]; trivial⟩
    · obtain ⟨mA, hns, _⟩ := (show ObjOk X.prog X.w H s.heap dd (.xd fs) from I.hok dd _ hx)
      obtain ⟨od, ho, _⟩ := lookIn_ns hns
      exact ⟨some od, ha, h1, nc, by rw [h2]; exact ho⟩
  exact PySem.W.kia_one (kitx_excX C) I.kIn J e (fun z => nomatch z) fun tk => ⟨.bl b, H, I.tok tk, rfl, q⟩
/-! an instance of an own class: what isinstance asks of its class -/
structure InsT (K : Frag) (C : Addr) : Prop where
  ha : PySem.W.findIn K (.ref C) "__class__" = some (some (.builtin "object.__class__"))
  hn : PySem.W.specialIn K (.builtin "object.__class__") "__get__" = some (some (.builtin "getset_descriptor.__get__"))
  ht : PySem.W.takesIn K (.builtin "object.__class__") = some true
  hm : PySem.W.mroIn K C (.type "object") = some true
def insB (K : Frag) (C : Addr) : Bool := He.eqO (PySem.W.findIn K (.ref C) "__class__") (some (some (.builtin "object.__class__"))) &&
  (He.eqO (PySem.W.specialIn K (.builtin "object.__class__") "__get__") (some (some (.builtin "getset_descriptor.__get__"))) &&
  (decide (PySem.W.takesIn K (.builtin "object.__class__") = some true) && decide (PySem.W.mroIn K C (.type "object") = some true)))
theorem insB_ok {K : Frag} {C : Addr} (q : insB K C = true) : InsT K C := by
  obtain ⟨b, q⟩ := He.ba q
  obtain ⟨c, q⟩ := He.ba q
  obtain ⟨d, e⟩ := He.ba q
  exact ⟨He.eqO_ok b, He.eqO_ok c, of_decide_eq_true d, of_decide_eq_true e⟩
theorem InsT.ty {K : Frag} {C a dx : Addr} {H : Hp} {fs : List (Str × V)} (i : InsT K C) (c : Cls K C) (h : H a = some (.ins C dx fs)) : TyX K H (.ref a) (.ref C) := .base (.ins h c i.ha i.hn i.ht i.hm)
/-! * where one factor is small, or both have less than a million bits together -/
def CMulA (i j : Int) : Prop := CMul i j ∨ CMulW i j
theorem op_mulA {X : Cx} : OpR X (binaryOp .Mult) (rI CMulA fun i j => .int (i * j)) := opI fun _ _ _ _ _ _ _ hc q =>
  hc.elim (fun h => mul_int q h.ok) (fun h => mul_int q h.ok)
/-- x is an int (no bool), or known to be none -/
inductive IsI (K : Frag) (H : Hp) : V → Bool → Prop where
  | int (i : Int) : IsI K H (.int i) true
  | bl (b : Bool) : IsI K H (.bl b) false
  | oth {x : V} {t : Value} (h : TyX K H x t) (e : PySem.W.kitOne K t (.type "int") = some false) : IsI K H x false
/-! the end of a law: a head by facts, the script's bits told -/
theorem walk_X {l : PySem.W.OpenLaw} {n k : Nat} {q : Program} {loose : List Str} {XP : (Str → Option Value) → Heap → Prop} {YP : World → Heap → Prop} {d : DefRec} {x : Str}
    (hn : l.most = some n) (hn2 : n ≤ sizeLine) (hdf : d.params.defaults = []) (hr : Room k callerA)
    (F : ∀ (w : World) (mg : Str → Option Value) (fa : Addr) (h : Heap), YP w h → h.Ns mainGlobals mg → mg d.name = some (.ref fa) →
      ∃ (K : Frag) (fd : FuncData) (sp : Sp), K.In h ∧ (∀ (s : Shared) (u : Value), BindsTo s fd ⟨[u], []⟩ [(x, u)]) ∧
        (∀ (H : Hp) (a : Addr) (ns : List Int), ns.length ≤ n → (∀ z ∈ ns, Builtin.Int.intBits z ≤ 1048576) → Only H → SqL K H a (ns.map V.int) → sp [.ref a] H (fun v _ => v = .bl true) E0) ∧
        ∀ base : Heap, K.In base → base.Ns mainGlobals mg → FnOk l.prog w K mg base (L2.CX l.prog w) k fa fd [x] sp) :
    PySem.W.WalkO q loose XP YP l.row.toRowW d [] (fun f vs => PySem.call f vs) := by
  refine Att.attach_callB hn hdf fun w s0 s1 mg mb fa o pm cd doc a vs ns G Y ho hd hcd hmg hobj hints hlen hbits hg => ?_
  obtain ⟨K, fd, sp, KX, hb, hsp, hF⟩ := F w mg fa _ Y G.T.g hmg
  refine law_call KX G.T.g G.T.b G.T.builtins G.T.nolimit hg hobj hints (Nat.le_trans hlen hn2) hr hF hb (fun H hO hS => hsp H a ns hlen hbits hO hS) fun H e s' c => ?_
  obtain ⟨_, _, _, _, _, _, _, _, _, _, _, _, z⟩ := c
  exact z
end S
namespace S
open PySem PySem.Spec PyProof.Rows L2
section
open PySem.W PySem.Calls
variable {prog : Program} {w : World} {A : Around} {Ex : Value → Shared → Prop} {s : Shared} {K : Frag} {x C f : Addr} {ox : Obj} {od : Option Obj} {b tb : Value}
/-- object.__ne__ over an own __eq__ that gives a bool -/
theorem objNe_K {Q : Fin → Shared → Prop} (hu : A.units < cLine) (X : K.In s.heap) (I : InstAt s.heap x ox C od) (hs : findIn K (.ref C) "__eq__" = some (some (.ref f))) (hf : isFn K (.ref f) = true)
    (h : wpAny (model prog w) A (call (.ref f) [.ref x, b]) (fun v s' => ∃ r, v = .bool r ∧ Q (.done (.ret (.bool (!r)))) s') Ex s) :
    wpAny (model prog w) A (Builtin.«object.__ne__» ⟨[.ref x, b], []⟩) Q Ex s := by
  unfold Builtin.«object.__ne__»
  refine wpAny_bind (wpAny_of_eq (a := ((Value.ref x : Value), [b])) (by first | rfl | (simp only [slotArgs]; rfl)) ?_)
  dsimp only
  refine wpAny_bind (wpAny_cRoomFor hu ?_)
  refine wpAny_bind (ifBound_K X I hs hf (wpAny_mono h (fun v s' hv => ?_) fun _ _ e => e))
  obtain ⟨r, rfl, q⟩ := hv
  dsimp only
  refine wpAny_bind (wpAny_truthy_bool ?_)
  first | exact wpAny_pure q | exact q
theorem ne_K {Q : Value → Shared → Prop} (hu : A.units + 1 < cLine) (X : K.In s.heap) (I : InstAt s.heap x ox C od) (hb : Looks (model prog w) s.heap (typeOf b) tb) (hn : notFirst K C tb = true)
    (hne : findIn K (.ref C) "__ne__" = some (some (.builtin "object.__ne__"))) (hm : mroIn K C (.type "object") = some true)
    (hs : findIn K (.ref C) "__eq__" = some (some (.ref f))) (hf : isFn K (.ref f) = true)
    (h : wpAny (model prog w) A.in1 (call (.ref f) [.ref x, b]) (fun v s' => ∃ r, v = .bool r ∧ Q (.bool (!r)) s') Ex s) : wpAny (model prog w) A (richCompare .NotEq (.ref x) b) Q Ex s := by
  have one : wpAny (model prog w) A (tryCompare (.ref x) "__ne__" b) (fun r s' => ∃ v, r = some v ∧ Q v s') Ex s := by
    unfold tryCompare
    refine wpAny_bind (NtL.csib (I.type.andThen (looks_findIn X hne)) (F.cmp_object.ne.bind _) ?_)
    refine wpAny_call (codeAny_call_builtin F.cmp_object.ne.plain F.cmpEntry_ne (check_slot F.cmpKind_ne F.cmpSplit_ne (I.type.andThen (looks_mroIn X hm)) (F.cmpArgs_ne _ _) ?_))
    refine objNe_K (A := A.in1) hu X I hs hf (wpAny_mono h (fun v s' hv => ?_) fun _ _ e => e)
    obtain ⟨r, rfl, q⟩ := hv
    exact ⟨r, rfl, wpAny_pure ⟨_, rfl, q⟩⟩
  unfold richCompare
  simp only [oneThing_ref]
  refine wpAny_holding (wpAny_bind (wpAny_cRoomFor (Nat.lt_of_succ_lt hu) ?_))
  rw [cmpInfo_NotEq]
  dsimp only
  refine wpAny_bind (I.type.here (wpAny_bind (hb.here ?_)))
  split
  · rename_i q
    have e : subIn K tb (.ref C) = some false := by
      rcases Bool.or_eq_true_iff.mp hn with e | e
      · rw [beq_iff_eq.mp e] at q
        simp at q
      · exact beq_iff_eq.mp e
    refine wpAny_bind ((looks_subIn X e).here ?_)
    simp only [Bool.false_eq_true, if_false]
    refine wpAny_bind (wpAny_mono one (fun r s' z => ?_) fun _ _ e => e)
    obtain ⟨v, rfl, hq⟩ := z
    exact wpAny_pure hq
  · refine wpAny_bind (wpAny_pure ?_)
    simp only [Bool.false_eq_true, if_false]
    refine wpAny_bind (wpAny_mono one (fun r s' z => ?_) fun _ _ e => e)
    obtain ⟨v, rfl, hq⟩ := z
    exact wpAny_pure hq
end
section
variable {X : Cx} {n : Nat} {C g : Addr} {sp : Sp}
/-- x op y by x's own method, both instances -/
def rOwnI (K : Frag) (C : Addr) (sp : Sp) : R2 := fun x y H Q => ∃ a dx fs b C' dy gs, x = .ref a ∧ y = .ref b ∧ H a = some (.ins C dx fs) ∧ H b = some (.ins C' dy gs) ∧ PySem.W.notFirst K C (.ref C') = true ∧ sp [x, y] H Q E0
theorem op_ownI {op : CmpOp} (hop : ∀ a b, compareOp op a b = richCompare op a b) (hs : PySem.W.findIn X.K (.ref C) (cmpInfo op).2.1 = some (some (.ref g))) (hf : PySem.W.isFn X.K (.ref g) = true)
    (F : FnR X.prog X.w X.K X.mg X.base (L2.CX X.prog X.w) n g sp) (hr : Room n X.A) : OpR X (compareOp op) (rOwnI X.K C sp) := by
  intro pins s σ H x y v u Q I rx ry h
  obtain ⟨a, dx, fs, b, C', dy, gs, rfl, rfl, ha, hb, hn, q⟩ := h
  cases (show v = Value.ref a from rx)
  cases (show u = Value.ref b from ry)
  obtain ⟨mA, O, _⟩ := ins_get I.hok ha
  obtain ⟨od, J, _⟩ := O.look
  obtain ⟨mB, O2, _⟩ := ins_get I.hok hb
  obtain ⟨od2, J2, _⟩ := O2.look
  obtain ⟨m, hF⟩ := I.fr
  rw [hop]
  refine PySem.W.cmp_K (op := op) (tb := .ref C') hr.units0 hF I.ok.mod.kin J J2.type hn hs hf ?_
  refine wpAny_mono (wpAny_call (run_fnR (us := [.ref a, .ref b]) (vs := [.ref a, .ref b]) F hr passL I (.cons rfl (.cons rfl .nil)) q)) (fun w s' z => ?_) fun _ _ x => x
  obtain ⟨z2, H2, I2, rz, qz⟩ := z
  exact SlX.cmpback rz ⟨z2, H2, I2, rz, qz⟩
/-- x != y by x's own == -/
def rNeI (K : Frag) (C : Addr) (sp : Sp) : R2 := fun x y H Q => ∃ a dx fs b C' dy gs, x = .ref a ∧ y = .ref b ∧ H a = some (.ins C dx fs) ∧ H b = some (.ins C' dy gs) ∧ PySem.W.notFirst K C (.ref C') = true ∧
  sp [x, y] H (fun z H2 => ∃ r, z = .bl r ∧ Q (.bl (!r)) H2) E0
theorem op_neI (hne : PySem.W.findIn X.K (.ref C) "__ne__" = some (some (.builtin "object.__ne__"))) (hm : PySem.W.mroIn X.K C (.type "object") = some true)
    (hs : PySem.W.findIn X.K (.ref C) "__eq__" = some (some (.ref g))) (hf : PySem.W.isFn X.K (.ref g) = true)
    (F : FnR X.prog X.w X.K X.mg X.base (L2.CX X.prog X.w) n g sp) (hr : Room (n + 1) X.A) : OpR X (compareOp .NotEq) (rNeI X.K C sp) := by
  intro pins s σ H x y v u Q I rx ry h
  obtain ⟨a, dx, fs, b, C', dy, gs, rfl, rfl, ha, hb, hn, q⟩ := h
  cases (show v = Value.ref a from rx)
  cases (show u = Value.ref b from ry)
  obtain ⟨mA, O, _⟩ := ins_get I.hok ha
  obtain ⟨od, J, _⟩ := O.look
  obtain ⟨mB, O2, _⟩ := ins_get I.hok hb
  obtain ⟨od2, J2, _⟩ := O2.look
  show wpAny _ _ (richCompare .NotEq (.ref a) (.ref b)) _ _ _
  refine ne_K (tb := .ref C') (hu_of hr) I.kIn J J2.type hn hne hm hs hf ?_
  refine wpAny_mono (wpAny_call (SlX.run_at (us := [.ref a, .ref b]) (ws := [.ref a, .ref b]) F hr.in1 I.env0.in1 passL I (.cons rfl (.cons rfl .nil)) q)) (fun w s' z => ?_) fun _ _ x => x
  obtain ⟨z2, H2, I2, rz, r, rfl, qz⟩ := z
  cases (show w = Value.bool r from rz)
  exact ⟨r, rfl, .bl (!r), H2, I2, rfl, qz⟩
theorem hop_eq : ∀ a b, compareOp .Eq a b = richCompare .Eq a b := fun _ _ => rfl
end
/-! keyword-only defaults and no others: f(e, .., k = v, ..) -/
theorem kbinds0 {K : Frag} {x qual : Str} {params : Arguments} {body : List Stmt} {scope : Scope} {kws : List (Str × V)} {f : Addr} {fd : FuncData} {ps : List Str} (F : FunD K x qual params body scope [] kws f fd) (n : Nat) (ks : List Str) (ms : List (Str × V))
    (g : {α : Type} → List α → List α → List α → List α) (hk : kws ≠ []) (hms : ∀ q ∈ ms, q ∈ kws)
    (hrel : ∀ {vs mz zs : List V} {us mv ws : List Value}, Vals vs us → Vals mz mv → Vals zs ws → Vals (g vs mz zs) (g us mv ws))
    (h : ∀ (D : Addr) (doc pm : Value) (an : Option Addr) (cdv ct : Value) (us mv ws : List Value), us.length = n → mv.length = ms.length → ws.length = ks.length →
      KwChain D ((ms.map (·.1)).zip mv) (bindArgs (PySem.W.fnOf x qual params body scope .none (.ref D) doc pm an cdv ct) ⟨us, ks.zip ws⟩) (ps.zip (g us mv ws))) :
    ∃ mv : List Value, KBn K fd ps n ks (fun us ws => g us mv ws) (fun vs zs => g vs (ms.map (·.2)) zs) := by
  obtain ⟨oc, od, dV, kV, doc, pm, an, cdv, ct, osl, rfl, lk, hcd, hD, hK⟩ := F.ex
  rcases hD with ⟨_, rfl⟩ | ⟨e, _⟩
  · rcases hK with e | ⟨D, rfl, hq⟩
    · exact absurd e hk
    · obtain ⟨mv, hl, rk, hks⟩ := kwd_vals (ms := ms) fun q hm => hq q (hms q hm)
      refine ⟨mv, ⟨fun s us ws X l1 l2 => BindsTo.of_looks fun M => KwChain.looks X hks (h D doc pm an cdv ct us mv ws l1 hl l2), fun r1 r2 => hrel r1 rk r2⟩⟩
  · exact absurd rfl e
/-! a block cut by a word: what follows is shown once -/
def tCut (t u : TS) : TS := fun D σ H => ∃ M : L2.St → Hp → Prop, t { D with nx := M } σ H ∧ ∀ τ J, M τ J → u D τ J
theorem pss_cut {X : Cx} {st : Stmt} {rest : List Stmt} {t u : TS} (h1 : PS X st t) (h2 : PSs X rest u) : PSs X (st :: rest) (tCut t u) :=
  ⟨fun pins s σ H D I ⟨M, hm, hu⟩ => wpAny_execs_cons (thn (h1.run pins s σ H { D with nx := M } I hm) fun f s1 q => by
    match f, q with
    | .next, ⟨τ, J, I2, q⟩ => exact h2.run pins s1 τ J D I2 (hu τ J q)
    | .ret v, q => exact q
    | .brk, q => exact q
    | .cont, q => exact q)⟩
/-! ways -/
theorem iteY {c A B : Prop} [Decidable c] (h : c) (a : A) : if c then A else B := by rw [if_pos h]; exact a
theorem iteN {c A B : Prop} [Decidable c] (h : ¬ c) (b : B) : if c then A else B := by rw [if_neg h]; exact b
theorem iteB {x : Bool} {A B : Prop} (h : if x then A else B) : if x = true then A else B := h
/-! small laws of heaps and fields -/
theorem putF_nil (f : Str) (v : V) : putF f v [] = [(f, v)] := rfl
theorem putF_cons_ne {f k : Str} {v u : V} {r : List (Str × V)} (h : ¬ k = f) : putF f v ((k, u) :: r) = (k, u) :: putF f v r := by
  show (if k = f then _ else _) = _
  rw [if_neg h]
theorem Same.new {H : Hp} {p : Addr} {o : HO} (h : H p = none) : Same H (upd H p o) := fun b u e => by
  rw [upd_ne (ne_of_none e h)]
  exact e
theorem Same.upd {H H' : Hp} {p : Addr} {o : HO} (e : Same H H') (h : H p = none) : Same H (L2.upd H' p o) := fun b u q => by
  rw [upd_ne (ne_of_none q h)]
  exact e b u q
/-! an own error with one field -/
/-- self.f = v in __init__ -/
def sp_err (C : Addr) (f : Str) : Sp := Sp2 fun x y H Q _ => ∃ a, x = .ref a ∧ H a = some (exo a C none) ∧ ∀ dx, H dx = none → dx ≠ a → Q .non (upd (upd H dx (exd dx [(f, y)])) a (exo a C (some dx)))
theorem raise_err {C : Addr} {f : Str} {t : TA} {σ : L2.St} {H : Hp} {Q : XK} (y : V)
    (k : ∀ d H', H d = none → Same H H' → H' d = some (.xd [(f, y)]) → Q (.ref C) (some d) H') (ht : ∀ R, R [y] H → t σ H R := by exact fun R r => r) : tMkO C (sp_err C f) [] t σ H Q := by
  refine ht _ ⟨by show 1 ≤ 1000; decide, fun a ha => ⟨_, _, rfl, a, rfl, upd_same, fun dx hdx hne => ⟨rfl, dx, [(f, y)], ?_, ?_, ?_, ?_⟩⟩⟩
  · exact upd_same
  · rw [upd_ne hne, upd_same]
  · rw [upd_ne hne] at hdx
    exact hdx
  · have h0 : H dx = none := by rw [upd_ne hne] at hdx; exact hdx
    refine k dx _ h0 (fun b o e => ?_) upd_same
    have n1 : b ≠ dx := ne_of_none e h0
    have n2 : b ≠ a := ne_of_none e ha
    rw [upd_ne n1, del_ne n2, upd_ne n2, upd_ne n1, upd_ne n2]
    exact e
/-! the law's own draws -/
/-- a cell is some integer of at least 0 -/
def spCellN (K : Frag) : Sp := Sp2 fun x y H Q _ => ∃ (a : Addr) (ns : List Int) (k : Int), x = .ref a ∧ y = .int k ∧ 0 ≤ k ∧ SqL K H a (ns.map V.int) ∧ ∀ n : Int, 0 ≤ n → Q (.int n) H
theorem int_at {ns : List Int} {k : Nat} (h : k < ns.length) : atI (ns.map V.int) ((k : Nat) : Int) = some (.int (ns.getD k 0)) := by
  refine atI_nat ?_
  rw [List.getElem?_map, List.getElem?_eq_getElem h, List.getD_eq_getElem?_getD, List.getElem?_eq_getElem h]
  rfl
theorem mul_small {i j : Int} (h : -(2 ^ 64) < j ∧ j < 2 ^ 64) : CMulA i j := .inl (.inr h)
theorem mul_smallL {i j : Int} (h : -(2 ^ 64) < i ∧ i < 2 ^ 64) : CMulA i j := .inl (.inl h)
theorem mod_small (x : Int) {m : Int} (h : 0 < m) (h2 : m < 2 ^ 64) : -(2 ^ 64) < x % m ∧ x % m < 2 ^ 64 := by
  have a := Int.emod_nonneg x (show m ≠ 0 by omega)
  have b := Int.emod_lt_of_pos x h
  omega
theorem mod_lo (x : Int) {m : Int} (h : 0 < m) : 0 ≤ x % m := Int.emod_nonneg x (by omega)
theorem mod_hi (x : Int) {m : Int} (h : 0 < m) : x % m < m := Int.emod_lt_of_pos x h
theorem div_small {i j : Int} (h : 0 < j) (h2 : j < 2 ^ 64) : CDivW i j := wide_div (b := 64) h (by omega) (by decide) (by decide)
end S
namespace S
open PySem PySem.Spec PyProof.Rows L2
/-! the rules that lean on the written part, with its own name -/
section
variable {X : Cx} {K : Frag}
theorem ixK (hK : X.K = K) : IxR X (rIx K) := hK ▸ ix_seq
theorem lenK (hK : X.K = K) : CallR X (.builtin "len") (rLen K) := hK ▸ call_len
theorem isiK (hK : X.K = K) : CallR X (.builtin "isinstance") (rIsi K) := hK ▸ call_isi
theorem isiTK (hK : X.K = K) : CallR X (.builtin "isinstance") (rIsiT K) := hK ▸ call_isiT
theorem inK (hK : X.K = K) : OpR X (compareOp .In) (rIn K false) := hK ▸ op_in_seq
theorem notInK (hK : X.K = K) : OpR X (compareOp .NotIn) (rIn K true) := hK ▸ op_notIn_seq
theorem eqDK (hK : X.K = K) (hu : X.A.units + 64 < cLine) : OpR X (compareOp .Eq) (rEqD K) := hK ▸ op_eqD hu
theorem neDK (hK : X.K = K) (hu : X.A.units + 64 < cLine) : OpR X (compareOp .NotEq) (rNeD K) := hK ▸ op_neD hu
theorem slLK (hK : X.K = K) : SlR X (rSlL K) := hK ▸ sl_list
theorem slTK (hK : X.K = K) : SlR X (rSlT K) := hK ▸ sl_tup
variable {e o l value tg a : Expr} {es : List Expr} {ta tv tl : TE} {f : Str} {pos pos' : Pos}
theorem pe_fldK (hK : X.K = K) (he : PE X e ta) (hb : attributeBase e f X.env (eval e X.env) = eval e X.env) : PE X (.Attribute e f pos) (tFld K ta f) := hK ▸ pe_fld he hb
theorem ps_fldK (hK : X.K = K) (ha : PE X o ta) (hv : PE X value tv) (hs : swapsWith value (some (.Attribute o f pos')) pos.line X.env = pure false) : PS X (.Assign [.Attribute o f pos'] value pos) (sFld K ta tv f) := hK ▸ ps_fld ha hv hs
theorem ps_ostK (hK : X.K = K) (ha : PE X o ta) (hv : PE X value tv) (hs : swapsWith value (some (.Attribute o f pos')) pos.line X.env = pure false) : PS X (.Assign [.Attribute o f pos'] value pos) (tOst K f ta tv) := hK ▸ ps_ost ha hv hs
theorem pe_slK (hK : X.K = K) (he : PE X e ta) (hb : attributeBase e f X.env (eval e X.env) = eval e X.env) : PE X (.Attribute e f pos) (SlX.tSl K ta f) := hK ▸ SlX.pe_sl he hb
theorem ps_slK (hK : X.K = K) (ha : PE X o ta) (hv : PE X value tv) (hs : swapsWith value (some (.Attribute o f pos')) pos.line X.env = pure false) : PS X (.Assign [.Attribute o f pos'] value pos) (SlX.sSl K ta tv f) := hK ▸ SlX.ps_sl ha hv hs
theorem pi_listK (hK : X.K = K) (hl : PE X l tl) : PI X tg l (iList K tl) := hK ▸ pi_list hl
theorem pi_tupK (hK : X.K = K) (hl : PE X l tl) : PI X tg l (iTup K tl) := hK ▸ pi_tup hl
def tTruK (K : Frag) (ta : TE) : TT := fun σ H Q => ta σ H fun x H' => ∃ k, TruV K x H' k ∧ Q k H'
theorem pt_truthK (hK : X.K = K) (ha : PE X a ta) (he : ∀ whole, isTrue a X.env whole = (do let v ← whole; standAt a.pos; holding [v] (truthy v))) : PT X a (tTruK K ta) := by
  subst hK
  exact pt_truth ha he
end
end S
namespace S
open PySem PySem.Spec PyProof.Rows L2
/-! flat data: None, bools, ints, texts -/
def sca : V → Bool
  | .non => true
  | .bl _ => true
  | .int _ => true
  | .str x => PyData.strOk x
  | _ => false
def dat : V → PyData
  | .bl b => .bool b
  | .int i => .int i
  | .str x => .str x
  | _ => .none
theorem dp_dat {K : Frag} {H : Hp} {v : V} (h : sca v = true) : Dp K H v (dat v) := by
  cases v with
  | non => exact .non
  | bl b => exact .bl b
  | int i => exact .int i
  | str x => exact .str x
  | _ => cases h
theorem dpAll_dat {K : Frag} {H : Hp} : ∀ {vs : List V}, vs.all sca = true → DpAll K H vs (vs.map dat)
  | [], _ => .nil
  | v :: vs, h => by
    rw [List.all_cons, Bool.and_eq_true] at h
    exact .cons (dp_dat h.1) (dpAll_dat h.2)
theorem lay_dat {v : V} (h : sca v = true) : (dat v).canLay0 = true := by
  cases v with
  | str x => simpa [dat, PyData.canLay0, sca] using h
  | _ => simp [dat, PyData.canLay0]
theorem layAll_dat : ∀ {vs : List V}, vs.all sca = true → PyData.canLayAll0 (vs.map dat) = true
  | [], _ => rfl
  | v :: vs, h => by
    rw [List.all_cons, Bool.and_eq_true] at h
    simp [PyData.canLayAll0, lay_dat h.1, layAll_dat h.2]
theorem depth_dat (v : V) : (dat v).depth = 0 := by cases v <;> simp [dat, PyData.depth]
theorem depthAll_dat : ∀ (vs : List V), PyData.depthAll (vs.map dat) = 0
  | [] => rfl
  | v :: vs => by simp [PyData.depthAll, depth_dat, depthAll_dat vs]
theorem shaped_list {vs : List V} (h : vs.all sca = true) : SeqAt.shaped (.list (vs.map dat)) = true := by
  simp [SeqAt.shaped, PyData.canLay0, layAll_dat h, PyData.depth, depthAll_dat]
theorem shaped_tup {vs : List V} (h : vs.all sca = true) : SeqAt.shaped (.tuple (vs.map dat)) = true := by
  simp [SeqAt.shaped, PyData.canLay0, layAll_dat h, PyData.depth, depthAll_dat]
theorem eqv_refl (v : V) : PyData.eqv (dat v) (dat v) = true := by cases v <;> simp [dat, PyData.eqv]
theorem eqvAll_refl : ∀ (vs : List V), PyData.eqvAll (vs.map dat) (vs.map dat) = true
  | [] => rfl
  | v :: vs => by simp [PyData.eqvAll, eqv_refl, eqvAll_refl vs]
theorem rEqL {K : Frag} {H : Hp} {a b : Addr} {xs ys : List V} {Q : VK} (ha : SqL K H a xs) (hb : SqL K H b ys) (hx : xs.all sca = true) (hy : ys.all sca = true) (q : Q (.bl (PyData.eqvAll (xs.map dat) (ys.map dat))) H) : rEqD K (.ref a) (.ref b) H Q :=
  ⟨_, _, .lst ha (dpAll_dat hx), .lst hb (dpAll_dat hy), shaped_list hx, shaped_list hy, by simpa only [PyData.eqv] using q⟩
theorem rEqT {K : Frag} {H : Hp} {a b : Addr} {xs ys : List V} {Q : VK} (ha : SqT K H a xs) (hb : SqT K H b ys) (hx : xs.all sca = true) (hy : ys.all sca = true) (q : Q (.bl (PyData.eqvAll (xs.map dat) (ys.map dat))) H) : rEqD K (.ref a) (.ref b) H Q :=
  ⟨_, _, .tup ha (dpAll_dat hx), .tup hb (dpAll_dat hy), shaped_tup hx, shaped_tup hy, by simpa only [PyData.eqv] using q⟩
theorem rEqL_true {K : Frag} {H : Hp} {a b : Addr} {xs : List V} {Q : VK} (ha : SqL K H a xs) (hb : SqL K H b xs) (hx : xs.all sca = true) (q : Q (.bl true) H) : rEqD K (.ref a) (.ref b) H Q := rEqL ha hb hx hx (by rw [eqvAll_refl]; exact q)
theorem rEqT_true {K : Frag} {H : Hp} {a b : Addr} {xs : List V} {Q : VK} (ha : SqT K H a xs) (hb : SqT K H b xs) (hx : xs.all sca = true) (q : Q (.bl true) H) : rEqD K (.ref a) (.ref b) H Q := rEqT ha hb hx hx (by rw [eqvAll_refl]; exact q)
/-- a def with all its parameters written, by positional values -/
theorem raw_of {P : Program} {w : World} {K : Frag} {mg : Str → Option Value} {base : Heap} {CX : CXT} {k n : Nat} {f : Addr} {fd : FuncData} {ps : List Str} {sp : Sp} (F : FnOk P w K mg base CX k f fd ps sp)
    (hb : KBn K fd ps n [] (fun us _ => us ++ []) (fun vs _ => vs ++ [])) (hn : n = ps.length := by rfl) : FnR P w K mg base CX k f sp := by
  refine (F.raw (ds := []) (dvs := []) (fun s us k hl => ?_) .nil).imp fun vs H Q E h => ?_
  · exact hb.to s us [] k (by rw [List.append_nil] at hl; rw [hl, hn]) rfl
  · rw [List.append_nil]
    exact h
theorem hu64 {A : Around} {k : Nat} (hr : Room k A) : A.units + 64 < cLine := by have := hr.un; omega
/-! a for over a text's signs -/
theorem for_str {x : Str} {g : TG} {tb : TS} {D : Ends} {σ : L2.St} {H : Hp} (Pv : Nat → L2.St → Hp → Prop) (h0 : Pv 0 σ H)
    (hs : ∀ i c σ H, x.cps[i]? = some c → Pv i σ H → g (.str ⟨#[c]⟩) σ H fun σ2 H2 => tb { D with nx := Pv (i + 1), ct := Pv (i + 1), bk := D.nx } σ2 H2) (hd : ∀ σ H, Pv x.cps.size σ H → D.nx σ H) :
    ∃ Z : Nat → Nat → L2.St → Hp → Prop, (∃ m, Z 0 m σ H) ∧ ∀ i m σ H, Z i m σ H →
      ((Its x).stop i H ∧ D.nx σ H) ∨ ((Its x).go i H ∧ ∃ N : L2.St → Hp → Prop, (∀ σ' H', N σ' H' → ∃ m', m' < m ∧ Z (i + 1) m' σ' H') ∧ ∀ v H', (Its x).yld i H v H' → g v σ H' fun σ2 H2 => tb { D with nx := N, ct := N, bk := D.nx } σ2 H2) := by
  refine ⟨fun i m σ H => m = x.cps.size - i ∧ i ≤ x.cps.size ∧ Pv i σ H, ⟨x.cps.size, by simp, Nat.zero_le _, h0⟩, ?_⟩
  rintro i m σ H ⟨rfl, hi, p⟩
  by_cases hlt : i < x.cps.size
  · refine .inr ⟨hlt, Pv (i + 1), fun σ' H' p' => ⟨x.cps.size - (i + 1), by omega, rfl, hlt, p'⟩, fun v H' y => ?_⟩
    obtain ⟨rfl, c, hc, rfl⟩ := y
    exact hs i c σ H' hc p
  · have e : i = x.cps.size := by omega
    subst e
    exact .inl ⟨Nat.le_refl _, hd σ H p⟩
end S
namespace S
open PySem PySem.Spec PyProof.Rows L2
/-! x in a list whose items' own == may make objects -/
section
open MeetsSeq MeetsSeq2 MeetsSeq3 SeqRoads2
variable {prog : Program} {w : World} {A : Around} {R : Result → Shared → Prop}
/-- at each turn the list is read anew: the items still to come; a hit ends the walk -/
def ContI (prog : Program) (w : World) (A : Around) (R : Result → Shared → Prop) (l : Addr) (x : Value) (N : Nat) (I : Nat → Shared → Prop) : Prop :=
  ∀ i s, I i s → ∃ (its : Array Value) (n : Nat), s.heap.get? l = some { cls := .type "list", data := .seq its n } ∧ its.size = N ∧
    ∀ h1 : i < its.size, wpAny (model prog w) A.in1 (eqBool its[i] x) (fun r s' => if r = true then R (.ok (.ret (.bool true))) s' else I (i + 1) s') (fun e s' => R (.error e) s') s
theorem cont_loop (l : Addr) (x : Value) (N : Nat) (I : Nat → Shared → Prop) (hl : ContI prog w A R l x N I) (fin : ∀ s, I N s → R (.ok (.ret (.bool false))) s) (k : Nat) :
    ∀ i : Nat, N - i = k → i ≤ N → ∀ s, I i s →
      wpAny (model prog w) A.in1 (Builtin.«list.__contains__.loop» ⟨[.ref l, x, rawInt i], []⟩) (GQ.FinOf prog w A R) (fun e s' => R (.error e) s') s := by
  induction k with
  | zero =>
    intro i hk hi s h
    obtain ⟨its, n, h1, hs, _⟩ := hl _ _ h
    have e : i = N := by omega
    have hR : R (.ok (.ret (.bool false))) s := fin s (e ▸ h)
    obtain ⟨hp, g, d, tk, os⟩ := s
    wp_walk using wpAny_loadPart' h1
    have hn : its[((i : Nat) : Int).toNat]? = none := by simp; omega
    rw [hn]
    wp_walk
    exact hR
  | succ k ih =>
    intro i hk hi s h
    obtain ⟨its, n, h1, hs, turn⟩ := hl _ _ h
    have hlt : i < its.size := by omega
    have ht := turn hlt
    obtain ⟨hp, g, d, tk, os⟩ := s
    wp_walk using wpAny_loadPart' h1
    have hn : its[((i : Nat) : Int).toNat]? = some its[i] := by simp [hlt]
    rw [hn]
    refine wpAny_bind (wpAny_mono ht (fun r s2 h2 => ?_) fun _ _ z => z)
    cases r with
    | true =>
      rw [if_pos rfl] at h2
      obtain ⟨hp2, g2, d2, tk2, os2⟩ := s2
      wp_walk
      exact h2
    | false =>
      rw [if_neg Bool.false_ne_true] at h2
      have hc : ((i : Int) + 1) = ((i + 1 : Nat) : Int) := by omega
      have hrec := ih (i + 1) (by omega) (by omega) s2 h2
      obtain ⟨hp2, g2, d2, tk2, os2⟩ := s2
      wp_walk
      rw [hc]
      exact ⟨plainId_quiet plain_contains_loop _, codeAny_builtin entry_contains_loop (by rw [Around.under_plainId plain_contains_loop _]; exact hrec)⟩
theorem cont_list (l : Addr) (x : Value) (N : Nat) (I : Nat → Shared → Prop) (hl : ContI prog w A R l x N I) (fin : ∀ s, I N s → R (.ok (.ret (.bool false))) s) {s : Shared} (h : I 0 s) :
    wpAny (model prog w) A.in1 (Builtin.«list.__contains__» ⟨[.ref l, x], []⟩) (GQ.FinOf prog w A R) (fun e s' => R (.error e) s') s := by
  obtain ⟨its, n, h1, hs, _⟩ := hl _ _ h
  have hrec := cont_loop (A := A) (R := R) l x N I hl fin _ 0 rfl (Nat.zero_le _) s h
  obtain ⟨hp, g, d, tk, os⟩ := s
  wp_walk using wpAny_loadPart' h1
  exact ⟨plainId_quiet plain_contains_loop _, codeAny_builtin entry_contains_loop (by rw [Around.under_plainId plain_contains_loop _]; exact hrec)⟩
theorem contains_G {E : Value → Shared → Prop} {s : Shared} {l : Addr} {x : Value} {N : Nat} {Q : Bool → Shared → Prop} (I : Nat → Shared → Prop)
    (hl : ContI prog w A (wants (fun v s' => ∃ b, v = .bool b ∧ Q b s') E) l x N I) (fin : ∀ s, I N s → Q false s) (h : I 0 s) : wpAny (model prog w) A (contains (.ref l) x) Q E s := by
  obtain ⟨its, n, h1, _⟩ := hl _ _ h
  refine wpAny_contains_slot (T := "list") ⟨_, h1, rfl⟩ F.slot_list_contains (wpAny_mono (GQ.call_here (Q := fun v s' => ∃ b, v = .bool b ∧ Q b s') F.slot_list_contains ⟨_, h1, rfl⟩ F.entry_list_contains (F.args_list_contains_2 _ _) ?_) (fun v s' hv => ?_) fun _ _ e => e)
  · exact cont_list l x N I hl (fun s' q => ⟨false, rfl, fin s' q⟩) h
  · obtain ⟨b, rfl, q⟩ := hv
    exact wpAny_truthy_bool q
end
section
variable {X : Cx} {n : Nat} {C g : Addr} {sp : Sp}
/-- x in y, y a list of instances of C that are compared by their own == : e b tells the answer for the item at b -/
def rInO (C : Addr) (sp : Sp) (neg : Bool) : R2 := fun x y H Q => ∃ (a l dx : Addr) (fs : List (Str × V)) (bs : List Addr) (e : Addr → Bool), x = .ref a ∧ y = .ref l ∧ H l = some (.lst (bs.map V.ref)) ∧ H a = some (.ins C dx fs) ∧
  (∀ b ∈ bs, ∃ dy gs, H b = some (.ins C dy gs)) ∧ (∀ b ∈ bs, ∀ H1, Same H H1 → ∀ Z : VK, (∀ H2, Same H1 H2 → Z (.bl (e b)) H2) → sp [.ref b, .ref a] H1 Z E0) ∧
  ∀ H', Same H H' → Q (.bl (if neg then !(bs.any fun b => decide (b = a) || e b) else bs.any fun b => decide (b = a) || e b)) H'
theorem contO (hs : PySem.W.findIn X.K (.ref C) "__eq__" = some (some (.ref g))) (hf : PySem.W.isFn X.K (.ref g) = true) (F : FnR X.prog X.w X.K X.mg X.base (L2.CX X.prog X.w) n g sp) (hr : Room (n + 1) X.A)
    {pins : List (Addr × Obj)} {s : Shared} {σ : L2.St} {H : Hp} {a l dx : Addr} {fs : List (Str × V)} {bs : List Addr} {e : Addr → Bool} (I : Inv X pins σ H s) (hl : H l = some (.lst (bs.map V.ref))) (ha : H a = some (.ins C dx fs))
    (hb : ∀ b ∈ bs, ∃ dy gs, H b = some (.ins C dy gs)) (hsp : ∀ b ∈ bs, ∀ H1, Same H H1 → ∀ Z : VK, (∀ H2, Same H1 H2 → Z (.bl (e b)) H2) → sp [.ref b, .ref a] H1 Z E0) {Q : Bool → Shared → Prop}
    (q : ∀ s' H', Inv X pins σ H' s' → Same H H' → Q (bs.any fun b => decide (b = a) || e b) s') : wpAny (model X.prog X.w) X.A (contains (.ref l) (.ref a)) Q X.xe s := by
  refine contains_G (N := bs.length) (fun i s' => ∃ H1, Inv X pins σ H1 s' ∧ Same H H1 ∧ (bs.take i).any (fun b => decide (b = a) || e b) = false) ?_ ?_ ⟨H, I, fun _ _ z => z, rfl⟩
  · rintro i s1 ⟨H1, I1, sm, no⟩
    obtain ⟨hz, its, m, rv, hg⟩ := (show ObjOk X.prog X.w H1 s1.heap l (.lst (bs.map V.ref)) from I1.hok l _ (sm _ _ hl))
    have hlen : its.length = bs.length := by rw [← rv.length, List.length_map]
    refine ⟨its.toArray, m, hg, by simp [hlen], fun h1 => ?_⟩
    have hi : i < bs.length := by simpa [hlen] using h1
    obtain ⟨u, hu, ru⟩ := rv.get (i := i) (x := .ref bs[i]) (by simp [hi])
    have eu : its.toArray[i] = Value.ref bs[i] := by
      have : its[i]? = some (Value.ref bs[i]) := by rw [hu]; exact congrArg some ru
      have h2 : i < its.length := by omega
      rw [List.getElem?_eq_getElem h2] at this
      simpa using Option.some.inj this
    rw [eu]
    have mem : bs[i] ∈ bs := List.getElem_mem hi
    have step : ∀ r : Bool, (decide (bs[i] = a) || e bs[i]) = r → ∀ s2 H2, Inv X pins σ H2 s2 → Same H H2 → (if r = true then wants (fun v s' => ∃ b, v = .bool b ∧ Q b s') X.xe (.ok (.ret (.bool true))) s2 else ∃ H1, Inv X pins σ H1 s2 ∧ Same H H1 ∧ (bs.take (i + 1)).any (fun b => decide (b = a) || e b) = false) := by
      intro r er s2 H2 I2 sm2
      have tk : bs.take (i + 1) = bs.take i ++ [bs[i]] := by rw [List.take_succ, List.getElem?_eq_getElem hi]; rfl
      cases r with
      | true =>
        rw [if_pos rfl]
        refine ⟨true, rfl, ?_⟩
        have hq := q s2 H2 I2 sm2
        rw [show (bs.any fun b => decide (b = a) || e b) = true from List.any_eq_true.mpr ⟨_, mem, er⟩] at hq
        exact hq
      | false =>
        rw [if_neg Bool.false_ne_true]
        refine ⟨H2, I2, sm2, ?_⟩
        rw [tk, List.any_append, no, List.any_cons, er]
        rfl
    by_cases hab : bs[i] = a
    · rw [hab]
      exact SeqAt.EqAt.same (A := X.A.in1) (s := s1) (.ref a) X.prog X.w _ _ (step true (by simp [hab]) s1 H1 I1 sm)
    · obtain ⟨dy, gs, hbi⟩ := hb _ mem
      refine GQ.eqBool_refG hab ?_
      obtain ⟨mA, O, _⟩ := ins_get I1.hok (sm _ _ hbi)
      obtain ⟨od, J, _⟩ := O.look
      obtain ⟨mB, O2, _⟩ := ins_get I1.hok (sm _ _ ha)
      obtain ⟨od2, J2, _⟩ := O2.look
      obtain ⟨m2, hF⟩ := I1.fr
      refine PySem.W.cmp_K (op := .Eq) (tb := .ref C) hr.in1.units0 hF I1.ok.mod.kin J J2.type (by simp [PySem.W.notFirst]) hs hf ?_
      refine wpAny_mono (wpAny_call (SlX.run_at (us := [.ref bs[i], .ref a]) (ws := [.ref bs[i], .ref a]) (Q := fun z H2 => z = .bl (e bs[i]) ∧ Same H1 H2) F hr.in1 I1.env0.in1 passL I1 (.cons rfl (.cons rfl .nil)) (hsp _ mem H1 sm _ fun H2 s2 => ⟨rfl, s2⟩))) (fun z s2 hz2 => ?_) fun _ _ x => x
      obtain ⟨z2, H2, I2, rz, rfl, sm2⟩ := hz2
      cases (show z = Value.bool (e bs[i]) from rz)
      exact ⟨e bs[i], rfl, step _ (by simp [hab]) s2 H2 I2 (sm.trans sm2)⟩
  · rintro s1 ⟨H1, I1, sm, no⟩
    have hq := q s1 H1 I1 sm
    rw [List.take_length] at no
    rw [no] at hq
    exact hq
theorem op_inO (hs : PySem.W.findIn X.K (.ref C) "__eq__" = some (some (.ref g))) (hf : PySem.W.isFn X.K (.ref g) = true) (F : FnR X.prog X.w X.K X.mg X.base (L2.CX X.prog X.w) n g sp) (hr : Room (n + 1) X.A) : OpR X (compareOp .In) (rInO C sp false) := by
  intro pins s σ H x y v u Q I rx ry h
  obtain ⟨a, l, dx, fs, bs, e, rfl, rfl, hl, ha, hb, hsp, q⟩ := h
  cases (show v = Value.ref a from rx)
  cases (show u = Value.ref l from ry)
  show wpAny _ _ (do return Value.bool (← contains (.ref l) (.ref a))) _ _ _
  exact wpAny_bind (contO hs hf F hr I hl ha hb hsp fun s' H' I' sm => wpAny_pure ⟨.bl _, H', I', rfl, q H' sm⟩)
theorem op_notInO (hs : PySem.W.findIn X.K (.ref C) "__eq__" = some (some (.ref g))) (hf : PySem.W.isFn X.K (.ref g) = true) (F : FnR X.prog X.w X.K X.mg X.base (L2.CX X.prog X.w) n g sp) (hr : Room (n + 1) X.A) : OpR X (compareOp .NotIn) (rInO C sp true) := by
  intro pins s σ H x y v u Q I rx ry h
  obtain ⟨a, l, dx, fs, bs, e, rfl, rfl, hl, ha, hb, hsp, q⟩ := h
  cases (show v = Value.ref a from rx)
  cases (show u = Value.ref l from ry)
  show wpAny _ _ (do return Value.bool (!(← contains (.ref l) (.ref a)))) _ _ _
  exact wpAny_bind (contO hs hf F hr I hl ha hb hsp fun s' H' I' sm => wpAny_pure ⟨.bl _, H', I', rfl, q H' sm⟩)
end
end S
namespace S
open PySem PySem.Spec PyProof.Rows L2
/-! ### classes with slots -/
/-- the descriptor of a slot -/
def slA (K : Frag) (C : Addr) (f : Str) : Addr := match PySem.W.findIn K (.ref C) f with | some (some (.ref p)) => p | _ => 0
def sclB (K : Frag) (C : Addr) : Bool := PySem.W.plainGet K C Str.empty && (PySem.W.isClsIn K C && (PySem.W.plainOver K C && He.eqO (PySem.W.findIn K (.ref C) "__setattr__") (some (some (.builtin "object.__setattr__")))))
theorem sclB_ok {K : Frag} {C : Addr} (q : sclB K C = true) : SlX.SCls K C := by
  obtain ⟨a, q⟩ := He.ba q
  obtain ⟨b, q⟩ := He.ba q
  obtain ⟨c, d⟩ := He.ba q
  exact ⟨a, b, c, He.eqO_ok d⟩
theorem sisB_ok {K : Frag} {C : Addr} (q : insB K C = true) : SlX.SIsi K C := let i := insB_ok q; ⟨i.ha, i.hn, i.ht, i.hm⟩
def sltB (K : Frag) (C : Addr) (f : Str) (i : Nat) : Bool := He.eqO (PySem.W.findIn K (.ref C) f) (some (some (.ref (slA K C f)))) && (He.eqO (PySem.W.specialIn K (.ref (slA K C f)) "__get__") (some (some (.builtin "member_descriptor.__get__"))) &&
  (decide (PySem.W.takesIn K (.ref (slA K C f)) = some true) && (decide (PySem.W.typeIn K (.ref (slA K C f)) = some (.type "member_descriptor")) && decide (PySem.W.slotIn K (slA K C f) C = some i))))
theorem sltB_ok {K : Frag} {C : Addr} {f : Str} {i : Nat} (hi : i < 1000) (q : sltB K C f i = true) : SlX.Slot1 K C f (slA K C f) i := by
  obtain ⟨a, q⟩ := He.ba q
  obtain ⟨b, q⟩ := He.ba q
  obtain ⟨c, q⟩ := He.ba q
  obtain ⟨d, e⟩ := He.ba q
  exact ⟨He.eqO_ok a, He.eqO_ok b, of_decide_eq_true c, of_decide_eq_true d, of_decide_eq_true e, hi⟩
section
variable {X : Cx} {CX : CXT} {k n : Nat} {f C : Addr} {fd : FuncData} {ps ks : List Str} {sp : Sp} {E : L2.St → XK} {m : Str} {pos apos : Pos} {o e : Expr} {es : List Expr} {kws : List Keyword} {ta : TE} {t tk : TA} {g : List Value → List Value → List Value} {gV : List V → List V → List V}
def tMtL (C : Addr) (n l : Nat) (sp : Sp) (gV : List V → List V → List V) (E : L2.St → XK) (ta : TE) (t tk : TA) : TE := fun σ H Q =>
  ta σ H fun x H1 => ∃ a dx fs, x = .ref a ∧ SlX.Slt H1 a C dx fs ∧
    t σ H1 fun vs H2 => tk σ H2 fun zs H3 => vs.length = n ∧ zs.length = l ∧ sp (gV (x :: vs) zs) H3 Q (E σ)
theorem pe_mtL {pl : Sem Bool} (he : PE X o ta) (c : SlX.SCls X.K C) (hm : Meth X.K C m f) (F : FnOk X.prog X.w X.K X.mg X.base CX k f fd ps sp) (hr : Room k X.A) (hb : KBn X.K fd ps (n + 1) ks g gV) (hx : ∀ σ, PassesAt CX X σ (E σ))
    (ha : PA X (e :: es) t) (hkw : PK X kws tk) (hall : (backToKw pos (keywordEach kws X.env)).all (·.1.isSome) = true) (hks : (backToKw pos (keywordEach kws X.env)).filterMap (·.1) = ks)
    (hst : starEach (e :: es) X.env = (false, eval e X.env) :: starEach es X.env := by rfl)
    (hpl : ((backTo pos (starEach (e :: es) X.env)).any (·.1) || (backToKw pos (keywordEach kws X.env)).any (·.1.isNone)) = false := by rfl)
    (ht : eval (.Call (.Attribute o m apos) (e :: es) kws pos) X.env = (do
      let ov ← eval o X.env
      standAt apos.atName
      let (f, first) ← holding [ov] (getMethod ov m pl)
      callWith pos f first (backTo pos (starEach (e :: es) X.env)) (backToKw pos (keywordEach kws X.env))) := by rfl) :
    PE X (.Call (.Attribute o m apos) (e :: es) kws pos) (tMtL C n ks.length sp gV E ta t tk) := by
  refine ⟨fun pins s σ H Q I h => PySem.W.methodCall_KW (pl := pl) (thn (he.run pins s σ H _ I h) fun u s1 ⟨x, H1, I1, rx, a, dx, fs, ex, ea, q⟩ => ?_) ht⟩
  subst ex
  cases (show u = Value.ref a from rx)
  refine SlX.getmethsl_ok I1 ea c hm (PySem.W.callWith_KW (first := [.ref a]) (h₀ := X.base) I.ok.mod.kin hm.kp hall (thn (ha.run pos pins s1 σ H1 _ I1 q) fun us s2 ⟨vs, H2, I2, r, q2⟩ =>
    thn (hkw.run pos pins s2 σ H2 _ I2 q2) fun ws s3 ⟨zs, H3, I3, rz, l1, l2, q3⟩ => ⟨I3.kIn, ?_⟩) hpl hst)
  rw [hks]
  exact run_S (us := .ref a :: us) (vs := .ref a :: vs) F hr hb (hx σ) I3 (.cons rfl r) rz (congrArg Nat.succ l1) l2 q3
theorem pe_mtL0 {pl : Sem Bool} (he : PE X o ta) (c : SlX.SCls X.K C) (hm : Meth X.K C m f) (F : FnOk X.prog X.w X.K X.mg X.base CX k f fd ps sp) (hr : Room k X.A) (hb : KBn X.K fd ps (0 + 1) ks g gV) (hx : ∀ σ, PassesAt CX X σ (E σ))
    (hkw : PK X kws tk) (hall : (backToKw pos (keywordEach kws X.env)).all (·.1.isSome) = true) (hks : (backToKw pos (keywordEach kws X.env)).filterMap (·.1) = ks)
    (hpl : ((backTo pos (starEach [] X.env)).any (·.1) || (backToKw pos (keywordEach kws X.env)).any (·.1.isNone)) = false := by rfl)
    (ht : eval (.Call (.Attribute o m apos) [] kws pos) X.env = (do
      let ov ← eval o X.env
      standAt apos.atName
      let (f, first) ← holding [ov] (getMethod ov m pl)
      callWith pos f first (backTo pos (starEach [] X.env)) (backToKw pos (keywordEach kws X.env))) := by rfl) :
    PE X (.Call (.Attribute o m apos) [] kws pos) (tMtL C 0 ks.length sp gV E ta tNil tk) := by
  refine ⟨fun pins s σ H Q I h => PySem.W.methodCall_KW (pl := pl) (thn (he.run pins s σ H _ I h) fun u s1 ⟨x, H1, I1, rx, a, dx, fs, ex, ea, q⟩ => ?_) ht⟩
  subst ex
  cases (show u = Value.ref a from rx)
  refine SlX.getmethsl_ok I1 ea c hm (PySem.W.callWith_KW0 (first := [.ref a]) (h₀ := X.base) I.ok.mod.kin hm.kp hall
    (thn (hkw.run pos pins s1 σ H1 _ I1 q) fun ws s3 ⟨zs, H3, I3, rz, l1, l2, q3⟩ => ⟨I3.kIn, ?_⟩) hpl)
  rw [hks]
  exact run_S (us := [.ref a]) (vs := [.ref a]) F hr hb (hx σ) I3 (.cons rfl .nil) rz rfl l2 q3
end
/-! str(x) by the class's own def -/
section
variable {X : Cx} {C g : Addr} {n : Nat} {sp : Sp}
def rStrL (C : Addr) (sp : Sp) : List V → Hp → VK → Prop := fun xs H Q => ∃ a dx vs, xs = [V.ref a] ∧ SlX.Slt H a C dx vs ∧ sp [.ref a] H (fun z H' => ∃ y, z = .str y ∧ Q z H') E0
theorem call_strL (hs : PySem.W.findIn X.K (.ref C) "__str__" = some (some (.ref g))) (hf : PySem.W.isFn X.K (.ref g) = true) (F : FnR X.prog X.w X.K X.mg X.base (L2.CX X.prog X.w) n g sp) (hr : Room (n + 2) X.A) : CallR X (.type "str") (rStrL C sp) := by
  intro pins s σ H xs us Q I r h
  obtain ⟨a, dx, vs, rfl, hsl, q⟩ := h
  obtain ⟨u, rfl, ru⟩ := r.one
  cases (show u = Value.ref a from ru)
  obtain ⟨sl, od, _, J, _⟩ := SlX.slt_inst I hsl
  have hr2 : Room n X.A.in1.in1 := (show Room (n + 1) X.A.in1 from Room.in1 hr).in1
  refine PySem.W.kso_call hr2.units0 I.kIn J hs hf (wpAny_mono (wpAny_call (SlX.run_at (us := [.ref a]) (ws := [.ref a]) F hr2 I.env0.in1.in1 passL I (.cons rfl .nil) q)) (fun w s' z => ?_) fun _ _ x => x)
  obtain ⟨z', H', I', rz, y, ey, qz⟩ := z
  subst ey
  obtain ⟨t, e⟩ := (show ∃ t, w = Value.str y t from rz)
  cases e
  exact ⟨.str y, H', I', ⟨t, rfl⟩, qz⟩
end
/-! isinstance of an instance with slots, or of another thing -/
section
variable {X : Cx} {K : Frag}
theorem call_or {v : Value} {r1 r2 : List V → Hp → VK → Prop} (h1 : CallR X v r1) (h2 : CallR X v r2) : CallR X v (fun xs H Q => r1 xs H Q ∨ r2 xs H Q) := by
  intro pins s σ H xs us Q I r h
  rcases h with h | h
  · exact h1 pins s σ H xs us Q I r h
  · exact h2 pins s σ H xs us Q I r h
theorem isiLK (hK : X.K = K) (C : Addr) : CallR X (.builtin "isinstance") (SlX.rIsiSl K (.ref C)) := hK ▸ SlX.call_isiSl (.ref C)
theorem isi2K (hK : X.K = K) (C : Addr) : CallR X (.builtin "isinstance") (fun xs H Q => SlX.rIsiSl K (.ref C) xs H Q ∨ rIsi K xs H Q) := call_or (isiLK hK C) (isiK hK)
end
end S
namespace S
open PySem PySem.Spec PyProof.Rows L2
/-! ### + - * // of own instances with slots, among themselves and with ints -/
theorem ps_never {X : Cx} {st : Stmt} : PS X st (fun _ _ _ => False) := ⟨fun _ _ _ _ _ _ h => h.elim⟩
section
open PySem.W PySem.Calls
variable {prog : Program} {w : World} {A : Around} {E : Value → Shared → Prop} {s : Shared} {K : Frag} {x C f f0 : Addr} {ox : Obj} {od : Option Obj}
/-- at x stands no int -/
def NoInt (x : Addr) (s : Shared) : Prop := ∃ o : Obj, s.heap.get? x = some o ∧ ∀ i t, o.data ≠ .prim (.int i t)
theorem asInt_no {M : Model} {A : Around} {E : Value → Shared → Prop} {s : Shared} {x : Addr} {Q : Option Int → Shared → Prop} (h : NoInt x s) (q : Q none s) : wpAny M A (asInt? (.ref x)) Q E s := by
  obtain ⟨o, ho, hn⟩ := h
  show wpAny M A (load x >>= _) Q E s
  refine wpAny_bind (wpAny_load ho ?_)
  split
  · rename_i i t e
    exact absurd e (hn i t)
  · exact wpAny_pure q
theorem decl_bin {prog : Program} {w : World} {A : Around} {R : Result → Shared → Prop} {s : Shared} {name : String} {f : Int → Int → Sem Fin} {a : Int} {t : Tok} {x : Addr} (h : NoInt x s) (q : R (.ok (.ret .notImplemented)) s) :
    wpAny (model prog w) A.in1 (Builtin.Int.intBinary name f false ⟨[.int a t, .ref x], []⟩) (fun fin s' => match fin with | .done f => R (.ok f) s' | .again c' => c'.quiet = true ∧ codeAny (model prog w) A c' R s') (fun e s' => R (.error e) s') s := by
  unfold Builtin.Int.intBinary
  refine wpAny_bind (wpAny_of_eq (a := (.int a t, [.ref x])) rfl ?_)
  refine wpAny_bind (wpAny_of_eq (a := a) rfl ?_)
  refine wpAny_bind (asInt_no h ?_)
  exact wpAny_bind (wpAny_rule (wpAny_pure q))
theorem decl_add (a : Int) (t : Tok) (x : Addr) : GivesAt (NoInt x) (Builtin.«int.__add__» ⟨[.int a t, .ref x], []⟩) (.val (Value.notImplemented)) := fun prog w A R s h q => decl_bin h q
theorem decl_sub (a : Int) (t : Tok) (x : Addr) : GivesAt (NoInt x) (Builtin.«int.__sub__» ⟨[.int a t, .ref x], []⟩) (.val (Value.notImplemented)) := fun prog w A R s h q => decl_bin h q
theorem decl_mul (a : Int) (t : Tok) (x : Addr) : GivesAt (NoInt x) (Builtin.«int.__mul__» ⟨[.int a t, .ref x], []⟩) (.val (Value.notImplemented)) := fun prog w A R s h q => decl_bin h q
theorem decl_floordiv (a : Int) (t : Tok) (x : Addr) : GivesAt (NoInt x) (Builtin.«int.__floordiv__» ⟨[.int a t, .ref x], []⟩) (.val (Value.notImplemented)) := fun prog w A R s h q => by
  unfold Builtin.«int.__floordiv__»
  refine wpAny_bind ?_
  refine wpAny_bind (m := asInt? (.int a t)) (wpAny_of_eq (a := some a) rfl ?_)
  refine wpAny_bind (m := asInt? (.ref x)) (asInt_no h ?_)
  exact wpAny_pure (decl_bin h q)
/-- what is known of int's own slot for an operator -/
structure IntOp (op : Operator) (idl : String) (B : Builtin) : Prop where
  fl : fillsNumberSlot (.type "int") op.info.2 = pure true
  sl : Slot "int" (PySem.dunder op.info.2) idl
  en : entryFor table idl = some B
  ar : ∀ a b : Value, argsOk idl ⟨[a, b], []⟩
  de : ∀ (a : Int) (t : Tok) (x : Addr), GivesAt (NoInt x) (B ⟨[.int a t, .ref x], []⟩) (.val (Value.notImplemented))
theorem io_add : IntOp .Add "int.__add__" Builtin.«int.__add__» := ⟨PySem.F.fills_int_add, PySem.F.slot_int_add, PySem.F.entry_int_add, PySem.F.args_int_add_2, decl_add⟩
theorem io_sub : IntOp .Sub "int.__sub__" Builtin.«int.__sub__» := ⟨PySem.F.fills_int_sub, PySem.F.slot_int_sub, PySem.F.entry_int_sub, PySem.F.args_int_sub_2, decl_sub⟩
theorem io_mul : IntOp .Mult "int.__mul__" Builtin.«int.__mul__» := ⟨PySem.F.fills_int_mul, PySem.F.slot_int_mul, PySem.F.entry_int_mul, PySem.F.args_int_mul_2, decl_mul⟩
theorem io_fdiv : IntOp .FloorDiv "int.__floordiv__" Builtin.«int.__floordiv__» := ⟨PySem.F.fills_int_floordiv, PySem.F.slot_int_floordiv, PySem.F.entry_int_floordiv, PySem.F.args_int_floordiv_2, decl_floordiv⟩
theorem bin_refl {op : Operator} {idl : String} {B : Builtin} {i : Int} {t : Tok} {Q : Value → Shared → Prop} (io : IntOp op idl B) (X : K.In s.heap) (I : InstAt s.heap x ox C od) (hno : NoInt x s) (hc : selfFirst K C = true)
    (hs : findIn K (.ref C) (PySem.dunder op.info.2) = some (some (.ref f0))) (hsR : findIn K (.ref C) (dunderR op.info.2) = some (some (.ref f))) (hf : isFn K (.ref f) = true) (hsub : subIn K (.ref C) (.type "int") = some false)
    (h : wpAny (model prog w) A (call (.ref f) [.ref x, .int i t]) (PySem.W.CmpBack Q) E s) : wpAny (model prog w) A (binaryOp op (.int i t) (.ref x)) Q E s := by
  obtain ⟨fl, sl, en, ar, de⟩ := io
  obtain ⟨cd, rest, hcd, hm⟩ := ksp_first hc
  rcases hi : op.info with ⟨sym, nm⟩
  rw [hi] at fl sl hs hsR
  simp only [binaryOp, hi]
  refine wpAny_holding (wpAny_bind ?_)
  simp only [binaryOp1]
  have ha := typeIs_int s i t
  refine wpAny_bind (wpAny_typeOf ha (wpAny_bind (I.type.here (wpAny_bind (wpAny_of_eq fl ?_)))))
  have hne : (Value.type "int" == Value.ref C) = false := Bool.eq_false_iff.mpr fun q => by cases beq_iff_eq.mp q
  simp only [hne, Bool.false_eq_true, if_false]
  refine wpAny_bind ((fills_K X hcd hm hs).here ?_)
  simp only [Bool.and_self, if_true]
  refine wpAny_bind ((looks_subIn X hsub).here ?_)
  have hpy : numberSlotInPython (.type "int") nm = pure false := rfl
  simp only [Bool.false_eq_true, if_false, pure_bind, Bool.not_false, Bool.and_self, if_true, hpy]
  simp only [tryMethod]
  refine wpAny_bind (wpAny_bind (wpAny_callSpecial?_slot ha sl (wpAny_mono (call_givesAt (Q := fun v s1 => v = .notImplemented ∧ s1 = s) sl ha en (ar _ _) (de i t x) hno ⟨rfl, rfl⟩) (fun v s1 h1 => ?_) fun _ _ x => x)))
  obtain ⟨rfl, rfl⟩ := h1
  refine wpAny_pure (wpAny_bind (wpAny_bind (special_fn X I hsR (beq_iff_eq.mp hf) (wpAny_mono h (fun v s' hv => ?_) fun _ _ e => e))))
  cases v <;> first | exact hv.elim | exact wpAny_pure (wpAny_bind (wpAny_rule (wpAny_pure (wpAny_pure hv))))
end
/-- what of the text a class must have for an operator -/
structure BinC (K : Frag) (C : Addr) (nm : String) (f g : Addr) : Prop where
  sf : PySem.W.selfFirst K C = true
  at_ : PySem.W.findIn K (.ref C) (PySem.dunder nm) = some (some (.ref f))
  fn : PySem.W.isFn K (.ref f) = true
  atR : PySem.W.findIn K (.ref C) (dunderR nm) = some (some (.ref g))
  fnR : PySem.W.isFn K (.ref g) = true
  su : PySem.W.subIn K (.ref C) (.type "int") = some false
  us : PySem.W.subIn K (.type "int") (.ref C) = some false
  i1 : ∃ fo, PySem.W.findIn K (.type "int") (PySem.dunder nm) = some fo
  i2 : ∃ ro, PySem.W.findIn K (.type "int") (dunderR nm) = some ro
def binB (K : Frag) (C : Addr) (nm : String) (f g : Addr) : Bool := PySem.W.selfFirst K C && (He.eqO (PySem.W.findIn K (.ref C) (PySem.dunder nm)) (some (some (.ref f))) && (PySem.W.isFn K (.ref f) &&
  (He.eqO (PySem.W.findIn K (.ref C) (dunderR nm)) (some (some (.ref g))) && (PySem.W.isFn K (.ref g) && (decide (PySem.W.subIn K (.ref C) (.type "int") = some false) && (decide (PySem.W.subIn K (.type "int") (.ref C) = some false) &&
  ((PySem.W.findIn K (.type "int") (PySem.dunder nm)).isSome && (PySem.W.findIn K (.type "int") (dunderR nm)).isSome)))))))
theorem binB_ok {K : Frag} {C : Addr} {nm : String} {f g : Addr} (q : binB K C nm f g = true) : BinC K C nm f g := by
  obtain ⟨a, q⟩ := He.ba q
  obtain ⟨b, q⟩ := He.ba q
  obtain ⟨c, q⟩ := He.ba q
  obtain ⟨d, q⟩ := He.ba q
  obtain ⟨e, q⟩ := He.ba q
  obtain ⟨f, q⟩ := He.ba q
  obtain ⟨g, q⟩ := He.ba q
  obtain ⟨h, i⟩ := He.ba q
  exact ⟨a, He.eqO_ok b, c, He.eqO_ok d, e, of_decide_eq_true f, of_decide_eq_true g, Option.isSome_iff_exists.mp h, Option.isSome_iff_exists.mp i⟩
/-- x op y, one of them an instance of C, the other too, or an int -/
def rBinL (C : Addr) (sp spR : Sp) (E : XK) : R2 := fun x y H Q =>
  (∃ a dx vs b dy ws, x = .ref a ∧ y = .ref b ∧ SlX.Slt H a C dx vs ∧ SlX.Slt H b C dy ws ∧ sp [x, y] H Q E) ∨
  (∃ a dx vs i, x = .ref a ∧ y = .int i ∧ SlX.Slt H a C dx vs ∧ sp [x, y] H Q E) ∨
  (∃ b dy ws i, x = .int i ∧ y = .ref b ∧ SlX.Slt H b C dy ws ∧ spR [y, x] H Q E)
def tBinL (C : Addr) (sp spR : Sp) (E : L2.St → XK) (ta tb : TE) : TE := fun σ H Q => ta σ H fun x H1 => tb σ H1 fun y H2 => rBinL C sp spR (E σ) x y H2 Q
section
variable {X : Cx} {C f g : Addr} {n k : Nat} {sp spR : Sp} {E : L2.St → XK} {op : Operator} {idl : String} {B : Builtin} {a b : Expr} {ta tb : TE} {pos : Pos}
/-- the callee runs below the running body, what is raised wished for at the slots -/
theorem run_fnAt {CX : CXT} {E : XK} {pins : List (Addr × Obj)} {σ : L2.St} {H : Hp} {s : Shared} {Q : VK} {us : List Value} {ws : List V} (F : FnR X.prog X.w X.K X.mg X.base CX n f sp) (hr : Room n X.A) (hx : PassesAt CX X σ E) (I : Inv X pins σ H s) (r : Vals ws us) (h : sp ws H Q E) :
    codeAny (model X.prog X.w) X.A (.call (.ref f) ⟨us, []⟩) (fun r s' => match r with | .ok (.ret v) => EP X pins σ Q v s' | .ok _ => False | .error e => X.xe e s') s := by
  refine codeAny_mono (F X.A X.stack s H us ws Q E hr I.env0 r h) fun r s' hq => ?_
  match r, hq with
  | .error e, hq => exact hx pins H s e s' I hq
  | .ok (.ret u), hq => exact I.after hq
  | .ok .next, hq => exact hq.elim
  | .ok .brk, hq => exact hq.elim
  | .ok .cont, hq => exact hq.elim
theorem cb_of {pins : List (Addr × Obj)} {σ : L2.St} {Q : VK} {w : Value} {s' : Shared} (z : EP X pins σ Q w s') : PySem.W.CmpBack (EP X pins σ Q) w s' := by
  obtain ⟨v, H', I', rz, qz⟩ := z
  exact SlX.cmpback rz ⟨v, H', I', rz, qz⟩
theorem pe_binL (io : IntOp op idl B) (c : BinC X.K C op.info.2 f g) (F : FnR X.prog X.w X.K X.mg X.base (L2.CX X.prog X.w) n f sp) (hr : Room n X.A) (G : FnR X.prog X.w X.K X.mg X.base (L2.CX X.prog X.w) k g spR) (hr2 : Room k X.A)
    (hx : ∀ σ, PassesAt (L2.CX X.prog X.w) X σ (E σ)) (ha : PE X a ta) (hb : PE X b tb) : PE X (.BinOp a op b pos) (tBinL C sp spR E ta tb) := by
  refine ⟨fun pins s σ H Q I h => wpAny_BinOp (binT ha hb I (R := fun x y H2 => rBinL C sp spR (E σ) x y H2 Q) h fun v u s2 x y H2 I2 rx ry q => ?_)⟩
  obtain ⟨m, hF⟩ := I2.fr
  rcases q with ⟨a, dx, vs, b, dy, ws, rfl, rfl, h1, h2, q⟩ | ⟨a, dx, vs, i, rfl, rfl, h1, q⟩ | ⟨b, dy, ws, i, rfl, rfl, h1, q⟩
  · cases (show v = Value.ref a from rx)
    cases (show u = Value.ref b from ry)
    obtain ⟨sl, od, _, J, _⟩ := SlX.slt_inst I2 h1
    obtain ⟨sl', od', _, J', _⟩ := SlX.slt_inst I2 h2
    exact PySem.W.binop_K hF I2.ok.mod.kin J J'.type c.sf c.at_ c.fn (wpAny_mono (wpAny_call (run_fnAt (us := [.ref a, .ref b]) (ws := [.ref a, .ref b]) F hr (hx σ) I2 (.cons rfl (.cons rfl .nil)) q)) (fun w s' z => cb_of z) fun _ _ x => x)
  · cases (show v = Value.ref a from rx)
    obtain ⟨t, rfl⟩ := (show ∃ t, u = Value.int i t from ry)
    obtain ⟨sl, od, _, J, _⟩ := SlX.slt_inst I2 h1
    obtain ⟨fo, e1⟩ := c.i1
    obtain ⟨ro, e2⟩ := c.i2
    exact PySem.W.ksp_binT (T := "int") hF I2.ok.mod.kin J rfl c.sf c.at_ c.fn c.atR (.inr ⟨_, rfl⟩) e1 e2 c.us (wpAny_mono (wpAny_call (run_fnAt (us := [.ref a, .int i t]) (ws := [.ref a, .int i]) F hr (hx σ) I2 (.cons rfl (.cons ⟨t, rfl⟩ .nil)) q)) (fun w s' z => cb_of z) fun _ _ x => x)
  · obtain ⟨t, rfl⟩ := (show ∃ t, v = Value.int i t from rx)
    cases (show u = Value.ref b from ry)
    obtain ⟨sl, od, _, J, _⟩ := SlX.slt_inst I2 h1
    exact bin_refl io I2.kIn J ⟨_, J.at_, fun _ _ => by intro z; cases z⟩ c.sf c.at_ c.atR c.fnR c.su (wpAny_mono (wpAny_call (run_fnAt (us := [.ref b, .int i t]) (ws := [.ref b, .int i]) G hr2 (hx σ) I2 (.cons rfl (.cons ⟨t, rfl⟩ .nil)) q)) (fun w s' z => cb_of z) fun _ _ x => x)
/-- - x -/
def rNegL (C : Addr) (sp : Sp) : V → Hp → VK → Prop := fun x H Q => ∃ a dx vs, x = .ref a ∧ SlX.Slt H a C dx vs ∧ sp [x] H Q E0
theorem un_negL (hs : PySem.W.findIn X.K (.ref C) "__neg__" = some (some (.ref f))) (hf : PySem.W.isFn X.K (.ref f) = true) (F : FnR X.prog X.w X.K X.mg X.base (L2.CX X.prog X.w) n f sp) (hr : Room n X.A) : UnR X (unaryOp .USub) (rNegL C sp) := by
  intro pins s σ H x v Q I rx h
  obtain ⟨a, dx, vs, rfl, h1, q⟩ := h
  cases (show v = Value.ref a from rx)
  obtain ⟨sl, od, _, J, _⟩ := SlX.slt_inst I h1
  obtain ⟨m, hF⟩ := I.fr
  exact PySem.W.ksp_neg hF I.ok.mod.kin J hs hf (wpAny_call (run_fnR (us := [.ref a]) (vs := [.ref a]) F hr passL I (.cons rfl .nil) q))
/-! raise C(), C a class of the text with no __init__ -/
theorem pmk_own0 {bmB : List Value} {BB newId initId : String} {x : Str} {p : Pos} (F : ExcBaseFacts BB newId initId bmB) (q : PySem.W.excIn X.K C bmB newId = true) (gC : X.mg x = some (.ref C))
    (kC : PySem.W.keepIn X.K (.ref C) = true) (r : Raises X (.ref C)) (hg : Gl X x) (hdb : (x == ("__debug__" : Str)) = false := by decide) :
    PMk X (.Call (.Name x p) [] [] pos) (fun _ H Q => Q (.ref C) none H) := by
  intro pins s σ H Q I h
  refine wpAny_Call_Name_kw (ld_glob I hg gC ?_ hdb)
  refine PySem.W.callWith_K0 (first := []) I.kIn kC ?_
  show wpAny _ _ (call (.ref C) []) _ _ _
  obtain ⟨bm, N, nm, qn, bs, hdct, sn, sub, ab, col, dd, k0, k1, k2, k3, k5, mN, hC, hN, hni, T⟩ := exc_obj I.kIn q
  refine wpAny_call_exc_subT F T hC hN hni (fun h' e hm => ?_) (Nat.zero_le _)
  exact mk_of I hm r h (I.hok.gone hm.new)
end
structure Ex0 (K : Frag) (C : Addr) : Prop where
  ex : PySem.W.excIn K C [.type "ValueError", .type "Exception", .type "BaseException", .type "object"] "ValueError.__new__" = true
  kp : PySem.W.keepIn K (.ref C) = true
  sb : PySem.W.subIn K (.ref C) (.type "BaseException") = some true
  ty : PySem.W.typeIn K (.ref C) = some (.type "type")
def ex0B (K : Frag) (C : Addr) : Bool := PySem.W.excIn K C [.type "ValueError", .type "Exception", .type "BaseException", .type "object"] "ValueError.__new__" && (PySem.W.keepIn K (.ref C) &&
  (decide (PySem.W.subIn K (.ref C) (.type "BaseException") = some true) && decide (PySem.W.typeIn K (.ref C) = some (.type "type"))))
theorem ex0B_ok {K : Frag} {C : Addr} (q : ex0B K C = true) : Ex0 K C := by
  obtain ⟨a, q⟩ := He.ba q
  obtain ⟨b, q⟩ := He.ba q
  obtain ⟨c, d⟩ := He.ba q
  exact ⟨a, b, of_decide_eq_true c, of_decide_eq_true d⟩
theorem ps_raiseP {X : Cx} {C : Addr} {W : WX} {x : Str} {p pos pos2 : Pos} (hc : X.calm = true) (tk : Takes X W) (c : Ex0 X.K C) (hg : Gl X x) (gC : X.mg x = some (.ref C)) (hdb : (x == ("__debug__" : Str)) = false := by decide) :
    PS X (.Raise (some (.Call (.Name x p) [] [] pos)) none pos2) (fun _ σ H => W (.ref C) none σ H) :=
  ps_raise hc tk (pmk_own0 PySem.F.excBase_ValueError c.ex gC c.kp (raises_own c.sb c.ty) hg hdb)
end S
namespace S
open PySem PySem.Spec PyProof.Rows L2
/-! abs(x) by the class's own def -/
section
variable {X : Cx} {C g : Addr} {n : Nat} {sp : Sp}
def rAbsL (C : Addr) (sp : Sp) : List V → Hp → VK → Prop := fun xs H Q => ∃ a dx vs, xs = [V.ref a] ∧ SlX.Slt H a C dx vs ∧ sp [.ref a] H Q E0
theorem call_absL (hs : PySem.W.findIn X.K (.ref C) "__abs__" = some (some (.ref g))) (hf : PySem.W.isFn X.K (.ref g) = true) (F : FnR X.prog X.w X.K X.mg X.base (L2.CX X.prog X.w) n g sp) (hr : Room (n + 1) X.A) : CallR X (.builtin "abs") (rAbsL C sp) := by
  intro pins s σ H xs us Q I r h
  obtain ⟨a, dx, vs, rfl, hsl, q⟩ := h
  obtain ⟨u, rfl, ru⟩ := r.one
  cases (show u = Value.ref a from ru)
  obtain ⟨sl, od, _, J, _⟩ := SlX.slt_inst I hsl
  refine PySem.Calls.call_function_entry kind_abs plain_abs entry_abs (args_abs _) ?_
  unfold Builtin.«abs»
  refine wpAny_bind (wpAny_of_eq (a := .ref a) rfl ?_)
  refine wpAny_bind (PySem.W.special_fn I.kIn J hs (beq_iff_eq.mp hf) (wpAny_mono (wpAny_call (SlX.run_at (us := [.ref a]) (ws := [.ref a]) F hr.in1 I.env0.in1 passL I (.cons rfl .nil) q)) (fun w s' z => ?_) fun _ _ x => x))
  exact wpAny_pure ⟨_, rfl, z⟩
end
end S
namespace S
open PySem PySem.Spec PyProof.Rows L2
/-! // by any divisor but 0 -/
def CDivN (_ j : Int) : Prop := j ≠ 0 ∧ j.natAbs.log2 < 9000
theorem op_fdivN {X : Cx} : OpR X (binaryOp .FloorDiv) (rI CDivN fun i j => .int (i.fdiv j)) := opI fun i j _ _ _ _ _ hc q => floordiv_int hc.1 q (.inl (PyProof.noPylong_of_log2 hc.2))
end S
namespace S
open PySem PySem.Spec PyProof.Rows L2
/-! ### == < .. of slotted instances by their own defs, the right side an instance of the class or an int -/
section
variable {X : Cx} {n : Nat} {C g : Addr} {sp : Sp}
def rCmpL (K : Frag) (C : Addr) (sp : Sp) : R2 := fun x y H Q => ∃ a dx vs, x = .ref a ∧ SlX.Slt H a C dx vs ∧ ((∃ b dy ws, y = .ref b ∧ SlX.Slt H b C dy ws) ∨ ((∃ i, y = .int i) ∧ PySem.W.notFirst K C (.type "int") = true)) ∧ sp [x, y] H Q E0
theorem op_cmpL {op : CmpOp} (hop : ∀ a b, compareOp op a b = richCompare op a b) (hs : PySem.W.findIn X.K (.ref C) (cmpInfo op).2.1 = some (some (.ref g))) (hf : PySem.W.isFn X.K (.ref g) = true)
    (F : FnR X.prog X.w X.K X.mg X.base (L2.CX X.prog X.w) n g sp) (hr : Room n X.A) : OpR X (compareOp op) (rCmpL X.K C sp) := by
  intro pins s σ H x y v u Q I rx ry h
  obtain ⟨a, dx, vs, rfl, h1, hy, q⟩ := h
  cases (show v = Value.ref a from rx)
  obtain ⟨sl, od, _, J, _⟩ := SlX.slt_inst I h1
  obtain ⟨m, hF⟩ := I.fr
  rw [hop]
  rcases hy with ⟨b, dy, ws, rfl, h2⟩ | ⟨⟨i, rfl⟩, hn⟩
  · cases (show u = Value.ref b from ry)
    obtain ⟨sl', od', _, J', _⟩ := SlX.slt_inst I h2
    refine PySem.W.cmp_K (op := op) (tb := .ref C) hr.units0 hF I.ok.mod.kin J J'.type (by simp [PySem.W.notFirst]) hs hf ?_
    refine wpAny_mono (wpAny_call (run_fnR (us := [.ref a, .ref b]) (vs := [.ref a, .ref b]) F hr passL I (.cons rfl (.cons rfl .nil)) q)) (fun w s' z => ?_) fun _ _ x => x
    obtain ⟨z2, H2, I2, rz, qz⟩ := z
    exact SlX.cmpback rz ⟨z2, H2, I2, rz, qz⟩
  · obtain ⟨t, rfl⟩ := (show ∃ t, u = Value.int i t from ry)
    refine PySem.W.cmp_K (op := op) (tb := .type "int") hr.units0 hF I.ok.mod.kin J (PySem.W.Looks.of_pure rfl) hn hs hf ?_
    refine wpAny_mono (wpAny_call (run_fnR (us := [.ref a, .int i t]) (vs := [.ref a, .int i]) F hr passL I (.cons rfl (.cons ⟨t, rfl⟩ .nil)) q)) (fun w s' z => ?_) fun _ _ x => x
    obtain ⟨z2, H2, I2, rz, qz⟩ := z
    exact SlX.cmpback rz ⟨z2, H2, I2, rz, qz⟩
/-- x != y by x's own ==, both of the class -/
def rNeL (C : Addr) (sp : Sp) : R2 := fun x y H Q => ∃ a dx vs b dy ws, x = .ref a ∧ y = .ref b ∧ SlX.Slt H a C dx vs ∧ SlX.Slt H b C dy ws ∧ sp [x, y] H (fun z H2 => ∃ r, z = .bl r ∧ Q (.bl (!r)) H2) E0
theorem op_neL (hne : PySem.W.findIn X.K (.ref C) "__ne__" = some (some (.builtin "object.__ne__"))) (hm : PySem.W.mroIn X.K C (.type "object") = some true)
    (hs : PySem.W.findIn X.K (.ref C) "__eq__" = some (some (.ref g))) (hf : PySem.W.isFn X.K (.ref g) = true)
    (F : FnR X.prog X.w X.K X.mg X.base (L2.CX X.prog X.w) n g sp) (hr : Room (n + 1) X.A) : OpR X (compareOp .NotEq) (rNeL C sp) := by
  intro pins s σ H x y v u Q I rx ry h
  obtain ⟨a, dx, fs, b, dy, gs, rfl, rfl, ha, hb, q⟩ := h
  cases (show v = Value.ref a from rx)
  cases (show u = Value.ref b from ry)
  obtain ⟨sl, od, _, J, _⟩ := SlX.slt_inst I ha
  obtain ⟨sl', od', _, J2, _⟩ := SlX.slt_inst I hb
  show wpAny _ _ (richCompare .NotEq (.ref a) (.ref b)) _ _ _
  refine ne_K (tb := .ref C) (hu_of hr) I.kIn J J2.type (by simp [PySem.W.notFirst]) hne hm hs hf ?_
  refine wpAny_mono (wpAny_call (SlX.run_at (us := [.ref a, .ref b]) (ws := [.ref a, .ref b]) F hr.in1 I.env0.in1 passL I (.cons rfl (.cons rfl .nil)) q)) (fun w s' z => ?_) fun _ _ x => x
  obtain ⟨z2, H2, I2, rz, r, rfl, qz⟩ := z
  cases (show w = Value.bool r from rz)
  exact ⟨r, rfl, .bl (!r), H2, I2, rfl, qz⟩
end
end S
namespace S
open PySem PySem.Spec PyProof.Rows L2
/-! ### [e for x in ..] by an invariant over the turn and the heap -/
section
variable {K : Frag} {a D : Addr} {xs : List V} {g : TG} {te : TE} {σ : L2.St} {H : Hp} {vs : List Nat} {R0 : Hp → Prop}
theorem lc_list (Pv : Nat → Hp → Prop) (h0 : Pv 0 (upd H D (.lst []))) (hl : ∀ i H, i ≤ xs.length → Pv i H → SqL K H a xs)
    (hs : ∀ i x H, xs[i]? = some x → Pv i H → g x (wipe σ vs) H fun σ2 H2 => wipe σ2 vs = wipe σ vs ∧ te σ2 H2 fun y H4 => ∃ acc, H4 D = some (.lst acc) ∧ acc.length < sizeLine ∧ Pv (i + 1) (upd H4 D (.lst (acc ++ [y]))))
    (hd : ∀ H, Pv xs.length H → R0 H)
    (mono : ∀ x H R R', (∀ σ2 H2, R σ2 H2 → R' σ2 H2) → g x (wipe σ vs) H R → g x (wipe σ vs) H R') :
    ∃ W : Nat → Nat → Hp → Prop, (∃ m, W 0 m (upd H D (.lst []))) ∧ ∀ i m H, W i m H →
      ((Itl K a).stop i H ∧ R0 H) ∨ ((Itl K a).go i H ∧ ∃ Nx : Hp → Prop, (∀ H', Nx H' → ∃ m', m' < m ∧ W (i + 1) m' H') ∧ ∀ x H', (Itl K a).yld i H x H' → g x (wipe σ vs) H' fun σ2 H2 => wipe σ2 vs = wipe σ vs ∧ tYes σ2 H2 fun b H3 =>
        if b = true then te σ2 H3 fun y H4 => ∃ acc, H4 D = some (.lst acc) ∧ acc.length < sizeLine ∧ Nx (upd H4 D (.lst (acc ++ [y]))) else Nx H3) := by
  refine ⟨fun i m H => m = xs.length - i ∧ i ≤ xs.length ∧ Pv i H, ⟨xs.length, by simp, Nat.zero_le _, h0⟩, ?_⟩
  rintro i m H ⟨rfl, hi, p⟩
  have q := hl i H hi p
  by_cases hlt : i < xs.length
  · refine .inr ⟨⟨xs, xs[i], q, by simp [hlt]⟩, Pv (i + 1), fun H' p' => ⟨xs.length - (i + 1), by omega, rfl, hlt, p'⟩, fun x H' y => ?_⟩
    obtain ⟨e, y⟩ := y
    subst e
    exact mono _ _ _ _ (fun σ2 H2 z => ⟨z.1, by unfold tYes; exact iteT z.2⟩) (hs i x _ (y xs q) p)
  · have e : i = xs.length := by omega
    subst e
    exact .inl ⟨⟨xs, q, Nat.le_refl _⟩, hd H p⟩
theorem lc_range {lo : Int} {n : Nat} (Pv : Nat → Hp → Prop) (h0 : Pv 0 (upd H D (.lst [])))
    (hs : ∀ i H, i < n → Pv i H → g (.int (lo + i)) (wipe σ vs) H fun σ2 H2 => wipe σ2 vs = wipe σ vs ∧ te σ2 H2 fun y H4 => ∃ acc, H4 D = some (.lst acc) ∧ acc.length < sizeLine ∧ Pv (i + 1) (upd H4 D (.lst (acc ++ [y]))))
    (hd : ∀ H, Pv n H → R0 H)
    (mono : ∀ x H R R', (∀ σ2 H2, R σ2 H2 → R' σ2 H2) → g x (wipe σ vs) H R → g x (wipe σ vs) H R') :
    ∃ W : Nat → Nat → Hp → Prop, (∃ m, W 0 m (upd H D (.lst []))) ∧ ∀ i m H, W i m H →
      ((Itr lo n).stop i H ∧ R0 H) ∨ ((Itr lo n).go i H ∧ ∃ Nx : Hp → Prop, (∀ H', Nx H' → ∃ m', m' < m ∧ W (i + 1) m' H') ∧ ∀ x H', (Itr lo n).yld i H x H' → g x (wipe σ vs) H' fun σ2 H2 => wipe σ2 vs = wipe σ vs ∧ tYes σ2 H2 fun b H3 =>
        if b = true then te σ2 H3 fun y H4 => ∃ acc, H4 D = some (.lst acc) ∧ acc.length < sizeLine ∧ Nx (upd H4 D (.lst (acc ++ [y]))) else Nx H3) := by
  refine ⟨fun i m H => m = n - i ∧ i ≤ n ∧ Pv i H, ⟨n, by simp, Nat.zero_le _, h0⟩, ?_⟩
  rintro i m H ⟨rfl, hi, p⟩
  by_cases hlt : i < n
  · refine .inr ⟨hlt, Pv (i + 1), fun H' p' => ⟨n - (i + 1), by omega, rfl, hlt, p'⟩, fun x H' y => ?_⟩
    obtain ⟨e, y⟩ := y
    subst e y
    exact mono _ _ _ _ (fun σ2 H2 z => ⟨z.1, by unfold tYes; exact iteT z.2⟩) (hs i _ hlt p)
  · have e : i = n := by omega
    subst e
    exact .inl ⟨Nat.le_refl _, hd H p⟩
theorem gName_mono {i : Nat} {σ : L2.St} : ∀ (x : V) (H : Hp) (R R' : L2.St → Hp → Prop), (∀ σ2 H2, R σ2 H2 → R' σ2 H2) → gName i x σ H R → gName i x σ H R' := fun _ _ _ _ k h => k _ _ h
theorem sumK {X : Cx} (hK : X.K = K) (hc : X.calm = true) : CallR X (.builtin "sum") (rSum K) := hK ▸ cr_sum hc
theorem boot_sum : bootBuiltins "sum" = some (.builtin "sum") := by decide +kernel
end
end S
namespace S
open PySem PySem.Spec PyProof.Rows L2
/-! ### == of any data, by what the parts answer -/
section
variable {K : Frag} {H : Hp} {n m : Nat} {x y : V} {b : Bool}
def EqOk (K : Frag) (H : Hp) (n : Nat) (x y : V) (b : Bool) : Prop := ∀ (X : Cx) (pins : List (Addr × Obj)) (σ : L2.St) (s : Shared) (A : Around) (v u : Value), X.K = K → Inv X pins σ H s → A.units + n < cLine → RelV x v → RelV y u → SeqAt.EqAt A s v u b
def RcOk (K : Frag) (H : Hp) (n : Nat) (x y : V) (b : Bool) : Prop := ∀ (X : Cx) (pins : List (Addr × Obj)) (σ : L2.St) (s : Shared) (A : Around) (v u : Value), X.K = K → Inv X pins σ H s → A.units + n < cLine → RelV x v → RelV y u → ∀ (E Q : Value → Shared → Prop), Q (.bool b) s → wpAny (model X.prog X.w) A (richCompare .Eq v u) Q E s
def NeOk (K : Frag) (H : Hp) (n : Nat) (x y : V) (b : Bool) : Prop := ∀ (X : Cx) (pins : List (Addr × Obj)) (σ : L2.St) (s : Shared) (A : Around) (v u : Value), X.K = K → Inv X pins σ H s → A.units + n < cLine → RelV x v → RelV y u → ∀ (E Q : Value → Shared → Prop), Q (.bool (!b)) s → wpAny (model X.prog X.w) A (richCompare .NotEq v u) Q E s
structure EqG (K : Frag) (H : Hp) (n : Nat) (x y : V) (b : Bool) : Prop where
  eq : RcOk K H n x y b
  ne : NeOk K H n x y b
  at_ : EqOk K H n x y b
theorem EqOk.up (h : EqOk K H n x y b) (l : n ≤ m) : EqOk K H m x y b := fun X pins σ s A v u k I hu => h X pins σ s A v u k I (Nat.lt_of_le_of_lt (Nat.add_le_add_left l _) hu)
theorem EqOk.to {c : Bool} (h : EqOk K H n x y b) (e : b = c) : EqOk K H n x y c := e ▸ h
theorem EqG.to {c : Bool} (h : EqG K H n x y b) (e : b = c) : EqG K H n x y c := e ▸ h
theorem EqG.up (h : EqG K H n x y b) (l : n ≤ m) : EqG K H m x y b :=
  ⟨fun X pins σ s A v u k I hu => h.eq X pins σ s A v u k I (Nat.lt_of_le_of_lt (Nat.add_le_add_left l _) hu), fun X pins σ s A v u k I hu => h.ne X pins σ s A v u k I (Nat.lt_of_le_of_lt (Nat.add_le_add_left l _) hu), h.at_.up l⟩
theorem eg_same {a : Addr} : EqOk K H n (.ref a) (.ref a) true := fun X pins σ s A v u k I hu rv ru => by
  cases rv
  cases ru
  exact SeqAt.EqAt.same _
theorem eg_dat {d e : PyData} (hd : Dp K H x d) (he : Dp K H y e) (pd : d.plain = true) (pe : e.plain = true) : EqG K H (min d.depth e.depth) x y (PyData.eqv d e) where
  eq := fun X pins σ s A v u k I hu rv ru => by
    subst k
    obtain ⟨as, r1⟩ := Dp.reads I d x v hd rv
    obtain ⟨bs, r2⟩ := Dp.reads I e y u he ru
    exact SeqAt.rcAt_plain r1 r2 pd pe hu X.prog X.w
  ne := fun X pins σ s A v u k I hu rv ru => by
    subst k
    obtain ⟨as, r1⟩ := Dp.reads I d x v hd rv
    obtain ⟨bs, r2⟩ := Dp.reads I e y u he ru
    exact SeqAt.rcNe_plain r1 r2 pd pe hu X.prog X.w
  at_ := fun X pins σ s A v u k I hu rv ru => by
    subst k
    obtain ⟨as, r1⟩ := Dp.reads I d x v hd rv
    obtain ⟨bs, r2⟩ := Dp.reads I e y u he ru
    exact SeqAt.eqAt_plain _ _ _ _ _ _ _ _ r1 r2 pd pe hu
theorem vals_at {xs : List V} {us : List Value} (r : Vals xs us) {j : Nat} (h : j < us.length) : ∃ x, xs[j]? = some x ∧ RelV x us[j] := by
  have hx : j < xs.length := by rw [r.length]; exact h
  obtain ⟨u, e, q⟩ := r.get (List.getElem?_eq_getElem hx)
  rw [List.getElem?_eq_getElem h] at e
  cases e
  exact ⟨_, List.getElem?_eq_getElem hx, q⟩
/-- pair by pair -/
def pairs (e : Nat → Bool) (xs ys : List V) : Bool := decide (xs.length = ys.length) && (List.range xs.length).all e
theorem eg_list {a c : Addr} {xs ys : List V} {e : Nat → Bool} (ha : SqL K H a xs) (hc : SqL K H c ys) (he : ∀ i p q, xs[i]? = some p → ys[i]? = some q → EqOk K H n p q (e i)) (hab : a = c → pairs e xs ys = true) : EqG K H (n + 1) (.ref a) (.ref c) (pairs e xs ys) := by
  have rc : ∀ (X : Cx) (pins : List (Addr × Obj)) (σ : L2.St) (s : Shared) (A : Around) (v u : Value), X.K = K → Inv X pins σ H s → A.units + (n + 1) < cLine → RelV (.ref a) v → RelV (.ref c) u → SeqAt.RcAt A s v u (pairs e xs ys) := fun X pins σ s A v u k I hu rv ru => by
    subst k
    cases rv
    cases ru
    obtain ⟨its, r, pl, _⟩ := I.list ha
    obtain ⟨its2, r2, pl2, _⟩ := I.list hc
    unfold pairs
    by_cases hl : xs.length = ys.length
    · rw [decide_eq_true hl, Bool.true_and]
      have := SeqAt.RcAt.lists (A := A) (e := e) pl.isList pl2.isList (by simp only [List.size_toArray]; rw [← r.length, ← r2.length, hl]) (by omega) (fun j h1 h2 => by
        obtain ⟨p, hp, rp⟩ := vals_at r (j := j) (by simpa using h1)
        obtain ⟨q, hq, rq⟩ := vals_at r2 (j := j) (by simpa using h2)
        simpa using he j p q hp hq X pins σ s A.in1 _ _ rfl I (by show A.units + 1 + n < cLine; omega) rp rq)
      rw [List.size_toArray, ← r.length] at this
      exact this
    · rw [decide_eq_false hl, Bool.false_and]
      exact SeqAt.RcAt.lists_lengths pl.isList pl2.isList (by simp only [List.size_toArray]; rw [← r.length, ← r2.length]; simpa using hl) (by omega)
  refine ⟨fun X pins σ s A v u k I hu rv ru => rc X pins σ s A v u k I hu rv ru X.prog X.w, fun X pins σ s A v u k I hu rv ru => ?_, fun X pins σ s A v u k I hu rv ru => ?_⟩
  · subst k
    cases rv
    cases ru
    obtain ⟨its, r, pl, _⟩ := I.list ha
    obtain ⟨its2, r2, pl2, _⟩ := I.list hc
    unfold pairs
    by_cases hl : xs.length = ys.length
    · rw [decide_eq_true hl, Bool.true_and]
      have := SeqAt.RcNeAt.lists (A := A) (e := e) pl.isList pl2.isList (by simp only [List.size_toArray]; rw [← r.length, ← r2.length, hl]) (by omega) (fun j h1 h2 => by
        obtain ⟨p, hp, rp⟩ := vals_at r (j := j) (by simpa using h1)
        obtain ⟨q, hq, rq⟩ := vals_at r2 (j := j) (by simpa using h2)
        simpa using he j p q hp hq X pins σ s A.in1 _ _ rfl I (by show A.units + 1 + n < cLine; omega) rp rq)
      rw [List.size_toArray, ← r.length] at this
      exact this X.prog X.w
    · rw [decide_eq_false hl, Bool.false_and]
      exact SeqAt.RcNeAt.lists_lengths pl.isList pl2.isList (by simp only [List.size_toArray]; rw [← r.length, ← r2.length]; simpa using hl) (by omega) X.prog X.w
  · have z := rc X pins σ s A v u k I hu rv ru
    cases rv
    cases ru
    by_cases e0 : a = c
    · subst e0
      rw [hab rfl]
      exact SeqAt.EqAt.same _
    · exact SeqAt.EqAt.of_refs e0 z
theorem eg_tup {a c : Addr} {xs ys : List V} {e : Nat → Bool} (ha : SqT K H a xs) (hc : SqT K H c ys) (he : ∀ i p q, xs[i]? = some p → ys[i]? = some q → EqOk K H n p q (e i)) (hab : a = c → pairs e xs ys = true) : EqG K H (n + 1) (.ref a) (.ref c) (pairs e xs ys) := by
  have flag : ∀ {p q : Nat}, p = xs.length → q = ys.length → ((List.range (min p q)).all e && p == q) = pairs e xs ys := fun {p q} h1 h2 => by
    subst h1 h2
    unfold pairs
    by_cases hl : xs.length = ys.length
    · rw [← hl]; simp
    · simp [hl]
  have rc : ∀ (X : Cx) (pins : List (Addr × Obj)) (σ : L2.St) (s : Shared) (A : Around) (v u : Value), X.K = K → Inv X pins σ H s → A.units + (n + 1) < cLine → RelV (.ref a) v → RelV (.ref c) u → SeqAt.RcAt A s v u (pairs e xs ys) := fun X pins σ s A v u k I hu rv ru => by
    subst k
    cases rv
    cases ru
    obtain ⟨its, r, pl, _⟩ := I.tuple ha
    obtain ⟨its2, r2, pl2, _⟩ := I.tuple hc
    have := SeqAt.RcAt.tuples (A := A) (e := e) pl pl2 (by omega) (fun j h1 h2 => by
      obtain ⟨p, hp, rp⟩ := vals_at r (j := j) (by simpa using h1)
      obtain ⟨q, hq, rq⟩ := vals_at r2 (j := j) (by simpa using h2)
      simpa using he j p q hp hq X pins σ s A.in1 _ _ rfl I (by show A.units + 1 + n < cLine; omega) rp rq)
    rw [flag (by simp [r.length]) (by simp [r2.length])] at this
    exact this
  refine ⟨fun X pins σ s A v u k I hu rv ru => rc X pins σ s A v u k I hu rv ru X.prog X.w, fun X pins σ s A v u k I hu rv ru => ?_, fun X pins σ s A v u k I hu rv ru => ?_⟩
  · subst k
    cases rv
    cases ru
    obtain ⟨its, r, pl, _⟩ := I.tuple ha
    obtain ⟨its2, r2, pl2, _⟩ := I.tuple hc
    have := SeqAt.RcNeAt.tuples (A := A) (e := e) pl pl2 (by omega) (fun j h1 h2 => by
      obtain ⟨p, hp, rp⟩ := vals_at r (j := j) (by simpa using h1)
      obtain ⟨q, hq, rq⟩ := vals_at r2 (j := j) (by simpa using h2)
      simpa using he j p q hp hq X pins σ s A.in1 _ _ rfl I (by show A.units + 1 + n < cLine; omega) rp rq)
    rw [flag (by simp [r.length]) (by simp [r2.length])] at this
    exact this X.prog X.w
  · have z := rc X pins σ s A v u k I hu rv ru
    cases rv
    cases ru
    by_cases e0 : a = c
    · subst e0
      rw [hab rfl]
      exact SeqAt.EqAt.same _
    · exact SeqAt.EqAt.of_refs e0 z
/-- two dicts: as many keys, and each of the first at the second -/
def hitsV (f : V → V → Bool) (ks ls : List (Key × V)) : Bool := ks.all fun p => match valV ls p.1 with | some y => f p.2 y | none => false
theorem hits_G {A : Around} {s : Shared} {f : V → V → Bool} {ls : List (Key × V)} {vb : List (Key × Value)} (rb : KV ls vb) {ks : List (Key × V)} {va : List (Key × Value)} (ra : KV ks va) :
    (∀ p ∈ ks, ∀ z, valV ls p.1 = some z → ∀ v u, RelV p.2 v → RelV z u → SeqAt.EqAt A s v u (f p.2 z)) → PySem.W.KeqHits A s vb va (hitsV f ks ls) := by
  unfold KV at ra
  induction ra with
  | nil => intro _; exact .nil
  | @cons p q ps qs h t ih =>
    intro hp
    obtain ⟨h1, h2⟩ := h
    obtain ⟨k, v⟩ := q
    have h1' : p.1 = k := h1
    have ih := ih fun p' hm => hp p' (List.mem_cons_of_mem _ hm)
    unfold hitsV
    rw [List.all_cons]
    cases e : valV ls p.1 with
    | none =>
      have rr : RelO none (valueAt vb p.1) := by rw [← e]; exact rb.val p.1
      have hn : valueAt vb p.1 = none := by
        cases hv : valueAt vb p.1 with
        | none => rfl
        | some w => rw [hv] at rr; cases rr
      rw [h1'] at hn
      simp only [Bool.false_and]
      exact .miss hn
    | some z =>
      have rr : RelO (some z) (valueAt vb p.1) := by rw [← e]; exact rb.val p.1
      obtain ⟨y, hy, ry⟩ := rr.some_of
      rw [h1'] at hy
      exact .hit hy (hp p List.mem_cons_self z e v y h2 ry) ih
theorem eg_dict {a c : Addr} {ks ls : List (Key × V)} {f : V → V → Bool} (ha : H a = some (.dK ks)) (hc : H c = some (.dK ls)) (he : ∀ p ∈ ks, ∀ z, valV ls p.1 = some z → EqOk K H n p.2 z (f p.2 z)) :
    RcOk K H (n + 1) (.ref a) (.ref c) (decide (ks.length = ls.length) && hitsV f ks ls) ∧ NeOk K H (n + 1) (.ref a) (.ref c) (decide (ks.length = ls.length) && hitsV f ks ls) := by
  refine ⟨fun X pins σ s A v u k I hu rv ru E Q q => ?_, fun X pins σ s A v u k I hu rv ru E Q q => ?_⟩
  · cases rv
    cases ru
    obtain ⟨_, ya, va, ra, da⟩ := (show ObjOk X.prog X.w H s.heap a (.dK ks) from I.hok a _ ha)
    obtain ⟨_, yb, vb, rb, db⟩ := (show ObjOk X.prog X.w H s.heap c (.dK ls) from I.hok c _ hc)
    refine PySem.W.keq_eq (knd := mixKind X.prog X.w) (r := hitsV f ks ls) ya yb da db (by omega) (fun _ => hits_G rb ra fun p hp z hz v u rv ru => he p hp z hz X pins σ s A.in1 v u k I (by show A.units + 1 + n < cLine; omega) rv ru) ?_
    rw [← ra.length, ← rb.length]
    exact q
  · cases rv
    cases ru
    obtain ⟨_, ya, va, ra, da⟩ := (show ObjOk X.prog X.w H s.heap a (.dK ks) from I.hok a _ ha)
    obtain ⟨_, yb, vb, rb, db⟩ := (show ObjOk X.prog X.w H s.heap c (.dK ls) from I.hok c _ hc)
    refine PySem.W.keq_ne (knd := mixKind X.prog X.w) (r := hitsV f ks ls) ya yb da db (by omega) (fun _ => hits_G rb ra fun p hp z hz v u rv ru => he p hp z hz X pins σ s A.in1 v u k I (by show A.units + 1 + n < cLine; omega) rv ru) ?_
    rw [← ra.length, ← rb.length]
    exact q
def toV : Value → V
  | .none => .non
  | .bool b => .bl b
  | .int i _ => .int i
  | .str z _ => .str z
  | .bytes b _ => .byt b
  | .float b _ => .flt b
  | .ref a => .ref a
  | .type n => .ty n
  | _ => .non
theorem toV_of {x : V} {u : Value} (h : L2.RelV x u) : toV u = x := by cases x <;> first | (cases h; rfl) | (obtain ⟨t, rfl⟩ := h; rfl)
theorem relV_one {x y : V} {u : Value} (h : L2.RelV x u) (k : L2.RelV y u) : x = y := (toV_of h).symm.trans (toV_of k)
/-- x == y, x != y, by their parts -/
def rEqG (K : Frag) : R2 := fun x y H Q => ∃ n b, n ≤ 60 ∧ RcOk K H n x y b ∧ Q (.bl b) H
def rNeG (K : Frag) : R2 := fun x y H Q => ∃ n b, n ≤ 60 ∧ NeOk K H n x y b ∧ Q (.bl (!b)) H
theorem eqGK {X : Cx} (hK : X.K = K) (hu : X.A.units + 64 < cLine) : OpR X (compareOp .Eq) (rEqG K) := by
  intro pins s σ H x y v u Q I rx ry h
  obtain ⟨n, b, hn, h, q⟩ := h
  exact h X pins σ s X.A v u hK I (by omega) rx ry _ _ ⟨.bl b, H, I, rfl, q⟩
theorem neGK {X : Cx} (hK : X.K = K) (hu : X.A.units + 64 < cLine) : OpR X (compareOp .NotEq) (rNeG K) := by
  intro pins s σ H x y v u Q I rx ry h
  obtain ⟨n, b, hn, h, q⟩ := h
  exact h X pins σ s X.A v u hK I (by omega) rx ry _ _ ⟨.bl (!b), H, I, rfl, q⟩
/-- x in ys, a list or a tuple: f tells which item equals x -/
def rInG (K : Frag) (neg : Bool) : R2 := fun x y H Q => ∃ p ys n f, y = .ref p ∧ (SqL K H p ys ∨ SqT K H p ys) ∧ n ≤ 60 ∧ (∀ z ∈ ys, EqOk K H n z x (f z)) ∧ Q (.bl (if neg then !ys.any f else ys.any f)) H
def eU (_ : List V) (f : V → Bool) (u : Value) : Bool := f (toV u)
theorem eU_of {ys : List V} {f : V → Bool} {z : V} {u : Value} (hz : z ∈ ys) (r : L2.RelV z u) : eU ys f u = f z := by
  unfold eU
  rw [toV_of r]
theorem any_eU {f : V → Bool} {ys0 : List V} : ∀ {ys : List V} {us : List Value}, Vals ys us → (∀ z ∈ ys, z ∈ ys0) → us.any (eU ys0 f) = ys.any f
  | _, _, .nil, _ => rfl
  | y :: ys, u :: us, .cons r t, h => by
    rw [List.any_cons, List.any_cons, eU_of (h y List.mem_cons_self) r, any_eU t fun z hz => h z (List.mem_cons_of_mem _ hz)]
theorem vals_mem : ∀ {ys : List V} {us : List Value}, Vals ys us → ∀ u ∈ us, ∃ z ∈ ys, RelV z u
  | _, _, .nil, u, h => by cases h
  | y :: ys, u :: us, .cons r t, u', h => by
    rcases List.mem_cons.mp h with rfl | h
    · exact ⟨y, List.mem_cons_self, r⟩
    · obtain ⟨z, hz, q⟩ := vals_mem t u' h
      exact ⟨z, List.mem_cons_of_mem _ hz, q⟩
theorem inGK {X : Cx} (hK : X.K = K) (hu : X.A.units + 64 < cLine) : OpR X (compareOp .In) (rInG K false) := by
  intro pins s σ H x y v u Q I rx ry h
  subst hK
  obtain ⟨p, ys, n, f, rfl, hq, hn, he, q⟩ := h
  cases ry
  rcases hq with hq | hq
  · obtain ⟨its, r, pl, hz⟩ := I.list hq
    refine SeqAt.in_listAt (eU ys f) pl.isList (fun w hw => ?_) ⟨.bl _, H, I, rfl, ?_⟩
    · obtain ⟨z, hz, rz⟩ := vals_mem r w (by simpa using hw)
      rw [eU_of hz rz]
      exact he z hz X pins σ s X.A.in1 _ _ rfl I (by show X.A.units + 1 + n < cLine; omega) rz rx
    · rw [show its.toArray.any (eU ys f) = its.any (eU ys f) by simp, any_eU r fun _ h => h]
      exact q
  · obtain ⟨its, r, pl, hz⟩ := I.tuple hq
    refine SeqAt.in_tupleAt (eU ys f) pl (fun w hw => ?_) ⟨.bl _, H, I, rfl, ?_⟩
    · obtain ⟨z, hz, rz⟩ := vals_mem r w (by simpa using hw)
      rw [eU_of hz rz]
      exact he z hz X pins σ s X.A.in1 _ _ rfl I (by show X.A.units + 1 + n < cLine; omega) rz rx
    · rw [show its.toArray.any (eU ys f) = its.any (eU ys f) by simp, any_eU r fun _ h => h]
      exact q
theorem notInGK {X : Cx} (hK : X.K = K) (hu : X.A.units + 64 < cLine) : OpR X (compareOp .NotIn) (rInG K true) := by
  intro pins s σ H x y v u Q I rx ry h
  subst hK
  obtain ⟨p, ys, n, f, rfl, hq, hn, he, q⟩ := h
  cases ry
  rcases hq with hq | hq
  · obtain ⟨its, r, pl, hz⟩ := I.list hq
    refine SeqAt.notIn_listAt (eU ys f) pl.isList (fun w hw => ?_) ⟨.bl _, H, I, rfl, ?_⟩
    · obtain ⟨z, hz, rz⟩ := vals_mem r w (by simpa using hw)
      rw [eU_of hz rz]
      exact he z hz X pins σ s X.A.in1 _ _ rfl I (by show X.A.units + 1 + n < cLine; omega) rz rx
    · rw [show its.toArray.any (eU ys f) = its.any (eU ys f) by simp, any_eU r fun _ h => h]
      exact q
  · obtain ⟨its, r, pl, hz⟩ := I.tuple hq
    refine SeqAt.notIn_tupleAt (eU ys f) pl (fun w hw => ?_) ⟨.bl _, H, I, rfl, ?_⟩
    · obtain ⟨z, hz, rz⟩ := vals_mem r w (by simpa using hw)
      rw [eU_of hz rz]
      exact he z hz X pins σ s X.A.in1 _ _ rfl I (by show X.A.units + 1 + n < cLine; omega) rz rx
    · rw [show its.toArray.any (eU ys f) = its.any (eU ys f) by simp, any_eU r fun _ h => h]
      exact q
end
end S
namespace S
open PySem PySem.Spec PyProof.Rows L2
/-! ### a list or a tuple that stands still, walked -/
section
variable {X : Cx} {K : Frag}
abbrev SqX (K : Frag) (H : Hp) (a : Addr) (xs : List V) : Prop := SqL K H a xs ∨ SqT K H a xs
theorem SqX.same {H H' : Hp} {a : Addr} {xs : List V} (h : SqX K H a xs) (s : Same H H') : SqX K H' a xs := by
  rcases h with (h | h) | (h | h)
  · rcases h with h | ⟨o, h⟩
    · exact .inl (.inl (.inl (s _ _ h)))
    · exact .inl (.inl (.inr ⟨o, s _ _ h⟩))
  · exact .inl (.inr h)
  · rcases h with h | ⟨o, h⟩
    · exact .inr (.inl (.inl (s _ _ h)))
    · exact .inr (.inl (.inr ⟨o, s _ _ h⟩))
  · exact .inr (.inr h)
theorem sqL_same {H H' : Hp} {a : Addr} {xs : List V} (h : SqL K H a xs) (s : Same H H') : SqL K H' a xs := by
  rcases h with (h | ⟨o, h⟩) | h
  · exact .inl (.inl (s _ _ h))
  · exact .inl (.inr ⟨o, s _ _ h⟩)
  · exact .inr h
theorem sqT_same {H H' : Hp} {a : Addr} {xs : List V} (h : SqT K H a xs) (s : Same H H') : SqT K H' a xs := by
  rcases h with (h | ⟨o, h⟩) | h
  · exact .inl (.inl (s _ _ h))
  · exact .inl (.inr ⟨o, s _ _ h⟩)
  · exact .inr h
def iSeq (K : Frag) (tl : TE) : TI := fun σ H R => tl σ H fun x H1 => ∃ a xs, x = .ref a ∧ SqX K H1 a xs ∧ ∀ J, Walk J xs.length (fun H => Same H1 H) (YAt xs) → R J H1
theorem pi_seqK {tg l : Expr} {tl : TE} (hK : X.K = K) (hl : PE X l tl) : PI X tg l (iSeq K tl) := by
  subst hK
  refine ⟨fun pins s σ H R I h => ?_⟩
  refine thn (hl.run pins s σ H _ I h) fun v s1 ⟨x, H1, I1, r1, q1⟩ => ?_
  obtain ⟨a, xs, e, hq, q⟩ := q1
  subst e
  cases r1
  have fp : ∀ b ∈ [s1.heap.objs.size], FpOk X pins H1 b := fun b hb => by
    have e : b = s1.heap.objs.size := by simpa using hb
    subst e
    exact I1.fpOk (Nat.le_refl _) (I1.hok.fresh (Nat.le_refl _))
  rcases hq with hq | hq
  · obtain ⟨its, rv, p, hz⟩ := I1.list hq
    refine wpAny_pyIter_list p.isList ?_
    exact ⟨s1.heap.objs.size, [s1.heap.objs.size], _, Itl X.K a, H1, rfl, I1.kept (t' := s1.toks) fun b o e => Heap.get?_push_of_some _ e, turn_list a _, ⟨_, Heap.get?_push_size _ rfl, rfl, rfl⟩, fp, q _ (walk_list.mono (fun H s => sqL_same hq s) fun _ _ _ _ _ _ y => y)⟩
  · obtain ⟨its, rv, p, hz⟩ := I1.tuple hq
    refine wpAny_pyIter_tuple (show s1.heap.IsTuple a its.toArray from p) ?_
    exact ⟨s1.heap.objs.size, [s1.heap.objs.size], _, Itt X.K a, H1, rfl, I1.kept (t' := s1.toks) fun b o e => Heap.get?_push_of_some _ e, turn_tuple a _, ⟨_, Heap.get?_push_size _ rfl, rfl, rfl⟩, fp, q _ (walk_tup.mono (fun H s => sqT_same hq s) fun _ _ _ _ _ _ y => y)⟩
theorem slSeqK (hK : X.K = K) : SlR X (fun x lo hi H Q => rSlL K x lo hi H Q ∨ rSlT K x lo hi H Q) := hK ▸ sl_list.or sl_tup
/-- a for over what stands still: one turn reads the item at its place -/
theorem for_seq {J : It} {xs : List V} {H0 : Hp} (w : Walk J xs.length (fun H => Same H0 H) (YAt xs)) {g : TG} {tb : TS} {D : Ends} {σ : L2.St} {H : Hp} (Pv : Nat → L2.St → Hp → Prop) (h0 : Pv 0 σ H) (hG : ∀ i σ H, i ≤ xs.length → Pv i σ H → Same H0 H)
    (hs : ∀ i x σ H, xs[i]? = some x → Pv i σ H → g x σ H fun σ2 H2 => tb { D with nx := Pv (i + 1), ct := Pv (i + 1), bk := D.nx } σ2 H2) (hd : ∀ σ H, Pv xs.length σ H → D.nx σ H) :
    ∃ W : Nat → Nat → L2.St → Hp → Prop, (∃ m, W 0 m σ H) ∧ ∀ i m σ H, W i m σ H →
      (J.stop i H ∧ D.nx σ H) ∨ (J.go i H ∧ ∃ N : L2.St → Hp → Prop, (∀ σ' H', N σ' H' → ∃ m', m' < m ∧ W (i + 1) m' σ' H') ∧ ∀ x H', J.yld i H x H' → g x σ H' fun σ2 H2 => tb { D with nx := N, ct := N, bk := D.nx } σ2 H2) :=
  for_it w Pv h0 hG (fun i x σ H H' _ p y => by obtain ⟨rfl, e⟩ := y; exact hs i x σ _ e p) hd
theorem lc_seq {J : It} {xs : List V} {H0 : Hp} (w : Walk J xs.length (fun H => Same H0 H) (YAt xs)) {g : TG} {tt : TT} {te : TE} {vs : List Nat} {σ : L2.St} {H1 : Hp} {D : Addr} {Qd : Hp → Prop} (Pv : Nat → Hp → Prop) (h0 : Pv 0 (upd H1 D (.lst []))) (hG : ∀ i H, i ≤ xs.length → Pv i H → Same H0 H)
    (hs : ∀ i x H, xs[i]? = some x → Pv i H → g x (wipe σ vs) H fun σ2 H2 => wipe σ2 vs = wipe σ vs ∧ tt σ2 H2 fun b H3 =>
      if b = true then te σ2 H3 fun y H4 => ∃ acc, H4 D = some (.lst acc) ∧ acc.length < sizeLine ∧ Pv (i + 1) (upd H4 D (.lst (acc ++ [y]))) else Pv (i + 1) H3) (hd : ∀ H, Pv xs.length H → Qd H) :
    ∃ W : Nat → Nat → Hp → Prop, (∃ m, W 0 m (upd H1 D (.lst []))) ∧ ∀ i m H, W i m H →
      (J.stop i H ∧ Qd H) ∨ (J.go i H ∧ ∃ Nx : Hp → Prop, (∀ H', Nx H' → ∃ m', m' < m ∧ W (i + 1) m' H') ∧ ∀ x H', J.yld i H x H' → g x (wipe σ vs) H' fun σ2 H2 => wipe σ2 vs = wipe σ vs ∧ tt σ2 H2 fun b H3 =>
        if b = true then te σ2 H3 fun y H4 => ∃ acc, H4 D = some (.lst acc) ∧ acc.length < sizeLine ∧ Nx (upd H4 D (.lst (acc ++ [y]))) else Nx H3) :=
  lc_it w Pv h0 hG (fun i x H H' _ p y => by obtain ⟨rfl, e⟩ := y; exact hs i x _ e p) hd
theorem dc_it {J : It} {n : Nat} {G : Hp → Prop} {Y : Nat → Hp → V → Hp → Prop} (w : Walk J n G Y) {g : TG} {tt : TT} {tk tv : TE} {vs : List Nat} {σ : L2.St} {H1 : Hp} {D : Addr} {Qd : Hp → Prop} (Pv : Nat → Hp → Prop) (h0 : Pv 0 (upd H1 D (.dK []))) (hG : ∀ i H, i ≤ n → Pv i H → G H)
    (hs : ∀ i x H H', i < n → Pv i H → Y i H x H' → g x (wipe σ vs) H' fun σ2 H2 => wipe σ2 vs = wipe σ vs ∧ tt σ2 H2 fun b H3 =>
      if b = true then tk σ2 H3 fun y H4 => tv σ2 H4 fun z H5 => ∃ kvs k, y = kV k ∧ H5 D = some (.dK kvs) ∧ kvs.length < sizeLine ∧ Pv (i + 1) (upd H5 D (.dK (putK kvs k z))) else Pv (i + 1) H3) (hd : ∀ H, Pv n H → Qd H) :
    ∃ W : Nat → Nat → Hp → Prop, (∃ m, W 0 m (upd H1 D (.dK []))) ∧ ∀ i m H, W i m H →
      (J.stop i H ∧ Qd H) ∨ (J.go i H ∧ ∃ Nx : Hp → Prop, (∀ H', Nx H' → ∃ m', m' < m ∧ W (i + 1) m' H') ∧ ∀ x H', J.yld i H x H' → g x (wipe σ vs) H' fun σ2 H2 => wipe σ2 vs = wipe σ vs ∧ tt σ2 H2 fun b H3 =>
        if b = true then tk σ2 H3 fun y H4 => tv σ2 H4 fun z H5 => ∃ kvs k, y = kV k ∧ H5 D = some (.dK kvs) ∧ kvs.length < sizeLine ∧ Nx (upd H5 D (.dK (putK kvs k z))) else Nx H3) := by
  refine ⟨fun i m H => m = n - i ∧ i ≤ n ∧ Pv i H, ⟨n, by simp, Nat.zero_le _, h0⟩, ?_⟩
  rintro i m H ⟨rfl, hi, p⟩
  have q := hG i H hi p
  by_cases hlt : i < n
  · exact .inr ⟨w.goes i H hlt q, Pv (i + 1), fun H' p' => ⟨n - (i + 1), by omega, rfl, hlt, p'⟩, fun x H' y => hs i x H H' hlt p (w.yields i H x H' hlt q y)⟩
  · have e : i = n := by omega
    subst e
    exact .inl ⟨w.stops H q, hd H p⟩
end
/-! ### o[i], x in o, len(o), by own defs of a plain class -/
section
variable {X : Cx} {n : Nat} {C g : Addr} {sp : Sp} {E : L2.St → XK}
theorem run_in1 {pins : List (Addr × Obj)} {σ : L2.St} {H : Hp} {s : Shared} {Q : VK} {us : List Value} {vs : List V} (F : FnR X.prog X.w X.K X.mg X.base (L2.CX X.prog X.w) n g sp) (hr : Room n X.A.in1) (I : Inv X pins σ H s) (hx : PassesAt (L2.CX X.prog X.w) X σ (E σ)) (r : Vals vs us) (h : sp vs H Q (E σ)) :
    codeAny (model X.prog X.w) X.A.in1 (.call (.ref g) ⟨us, []⟩) (fun r s' => match r with | .ok (.ret v) => EP X pins σ Q v s' | .ok _ => False | .error e => X.xe e s') s := by
  refine codeAny_mono (F X.A.in1 X.stack s H us vs Q (E σ) hr I.env0.in1 r h) fun r s' hq => ?_
  cases r with
  | error e => exact hx pins H s e s' I hq
  | ok fl =>
    cases fl with
    | ret u => exact I.after hq
    | next => exact False.elim hq
    | brk => exact False.elim hq
    | cont => exact False.elim hq
theorem run_at0 {pins : List (Addr × Obj)} {σ : L2.St} {H : Hp} {s : Shared} {Q : VK} {us : List Value} {vs : List V} (F : FnR X.prog X.w X.K X.mg X.base (L2.CX X.prog X.w) n g sp) (hr : Room n X.A) (I : Inv X pins σ H s) (hx : PassesAt (L2.CX X.prog X.w) X σ (E σ)) (r : Vals vs us) (h : sp vs H Q (E σ)) :
    codeAny (model X.prog X.w) X.A (.call (.ref g) ⟨us, []⟩) (fun r s' => match r with | .ok (.ret v) => EP X pins σ Q v s' | .ok _ => False | .error e => X.xe e s') s := by
  refine codeAny_mono (F X.A X.stack s H us vs Q (E σ) hr I.env0 r h) fun r s' hq => ?_
  cases r with
  | error e => exact hx pins H s e s' I hq
  | ok fl =>
    cases fl with
    | ret u => exact I.after hq
    | next => exact False.elim hq
    | brk => exact False.elim hq
    | cont => exact False.elim hq
def tIxO (C : Addr) (sp : Sp) (E : L2.St → XK) (ta tb : TE) : TE := fun σ H Q => ta σ H fun x H1 => tb σ H1 fun y H2 => ∃ a dx fs, x = .ref a ∧ H2 a = some (.ins C dx fs) ∧ sp [.ref a, y] H2 Q (E σ)
theorem pe_ixO {a b : Expr} {ta tb : TE} {pos : Pos} (hs : PySem.W.findIn X.K (.ref C) "__getitem__" = some (some (.ref g))) (hf : PySem.W.fnIn X.K g = true) (hfn : PySem.W.isFn X.K (.ref g) = true)
    (F : FnR X.prog X.w X.K X.mg X.base (L2.CX X.prog X.w) n g sp) (hr : Room (n + 1) X.A) (hx : ∀ σ, PassesAt (L2.CX X.prog X.w) X σ (E σ)) (ha : PE X a ta) (hb : PE X b tb)
    (hsl : ∀ v i, subscripted b true v i = runValue (.builtin "lifetime.subscript" ⟨[v, i], []⟩) := by intro _ _; with_unfolding_all rfl) : PE X (.Subscript a b pos) (tIxO C sp E ta tb) := by
  refine ⟨fun pins s σ H Q I h => ?_⟩
  refine Subscript_ (binT ha hb I h fun v u s2 x y H2 I2 rx ry q => ?_)
  obtain ⟨p, dx, fs, rfl, ep, q⟩ := q
  cases (show v = Value.ref p from rx)
  obtain ⟨mA, O, _⟩ := ins_get I2.hok ep
  obtain ⟨od, J, _⟩ := O.look
  obtain ⟨m, hF⟩ := I2.fr
  refine PySem.W.sub_K hF I2.ok.mod.kin J hs hf hfn ?_ (hsl _ _)
  exact wpAny_call (run_in1 (us := [.ref p, u]) (vs := [.ref p, y]) F hr.in1 I2 (hx σ) (.cons rfl (.cons ry .nil)) q)
/-- x in o: the own def answers with a bool -/
def rInC (C : Addr) (sp : Sp) (neg : Bool) : R2 := fun x y H Q => ∃ a dx fs, y = .ref a ∧ H a = some (.ins C dx fs) ∧ sp [.ref a, x] H (fun z H2 => ∃ r, z = .bl r ∧ Q (.bl (if neg then !r else r)) H2) E0
theorem op_inC (hs : PySem.W.findIn X.K (.ref C) "__contains__" = some (some (.ref g))) (hfn : PySem.W.isFn X.K (.ref g) = true) (F : FnR X.prog X.w X.K X.mg X.base (L2.CX X.prog X.w) n g sp) (hr : Room n X.A) : OpR X (compareOp .In) (rInC C sp false) := by
  intro pins s σ H x y v u Q I rx ry h
  obtain ⟨a, dx, fs, rfl, ea, q⟩ := h
  cases (show u = Value.ref a from ry)
  obtain ⟨mA, O, _⟩ := ins_get I.hok ea
  obtain ⟨od, J, _⟩ := O.look
  obtain ⟨m, hF⟩ := I.fr
  refine PySem.W.in_K hF I.ok.mod.kin J hs hfn ?_
  refine wpAny_mono (wpAny_call (run_at0 (E := fun _ => E0) (us := [.ref a, v]) (vs := [.ref a, x]) F hr I (pas0 σ) (.cons rfl (.cons rx .nil)) q)) (fun w s' z => ?_) fun _ _ x => x
  obtain ⟨z2, H2, I2, rz, r, rfl, qz⟩ := z
  cases (show w = Value.bool r from rz)
  exact wpAny_truthy_bool ⟨.bl r, H2, I2, rfl, qz⟩
theorem op_notInC (hs : PySem.W.findIn X.K (.ref C) "__contains__" = some (some (.ref g))) (hfn : PySem.W.isFn X.K (.ref g) = true) (F : FnR X.prog X.w X.K X.mg X.base (L2.CX X.prog X.w) n g sp) (hr : Room n X.A) : OpR X (compareOp .NotIn) (rInC C sp true) := by
  intro pins s σ H x y v u Q I rx ry h
  obtain ⟨a, dx, fs, rfl, ea, q⟩ := h
  cases (show u = Value.ref a from ry)
  obtain ⟨mA, O, _⟩ := ins_get I.hok ea
  obtain ⟨od, J, _⟩ := O.look
  obtain ⟨m, hF⟩ := I.fr
  refine PySem.W.notIn_K hF I.ok.mod.kin J hs hfn ?_
  refine wpAny_mono (wpAny_call (run_at0 (E := fun _ => E0) (us := [.ref a, v]) (vs := [.ref a, x]) F hr I (pas0 σ) (.cons rfl (.cons rx .nil)) q)) (fun w s' z => ?_) fun _ _ x => x
  obtain ⟨z2, H2, I2, rz, r, rfl, qz⟩ := z
  cases (show w = Value.bool r from rz)
  exact wpAny_truthy_bool ⟨.bl (!r), H2, I2, rfl, qz⟩
def rLenO (C : Addr) (sp : Sp) : List V → Hp → VK → Prop := fun xs H Q => ∃ a dx fs, xs = [.ref a] ∧ H a = some (.ins C dx fs) ∧ sp [.ref a] H (fun z H2 => ∃ i : Int, z = .int i ∧ 0 ≤ i ∧ i < 2 ^ 63 ∧ Q (.int i) H2) E0
theorem call_lenO (hs : PySem.W.findIn X.K (.ref C) "__len__" = some (some (.ref g))) (hfn : PySem.W.isFn X.K (.ref g) = true) (F : FnR X.prog X.w X.K X.mg X.base (L2.CX X.prog X.w) n g sp) (hr : Room (n + 1) X.A) : CallR X (.builtin "len") (rLenO C sp) := by
  intro pins s σ H xs us Q I r h
  obtain ⟨a, dx, fs, rfl, ea, q⟩ := h
  cases r with
  | cons r1 r2 =>
    cases r2
    cases r1
    obtain ⟨mA, O, _⟩ := ins_get I.hok ea
    obtain ⟨od, J, _⟩ := O.look
    obtain ⟨m, hF⟩ := I.fr
    refine PySem.W.len_K hF I.ok.mod.kin J hs hfn ?_
    refine wpAny_mono (wpAny_call (run_in1 (E := fun _ => E0) (us := [.ref a]) (vs := [.ref a]) F hr.in1 I (pas0 σ) (.cons rfl .nil) q)) (fun w s' z => ?_) fun _ _ x => x
    obtain ⟨z2, H2, I2, rz, i, rfl, l0, l1, qz⟩ := z
    obtain ⟨t, rfl⟩ := (show ∃ t, w = Value.int i t from rz)
    exact ⟨⟨l0, l1⟩, .int i, H2, I2.tok _, ⟨_, rfl⟩, qz⟩
end
end S
namespace S
open PySem PySem.Spec PyProof.Rows L2
section
variable {X : Cx} {K : Frag}
theorem yesT {σ : L2.St} {H : Hp} {R : Bool → Hp → Prop} (h : R true H) : tYes σ H R := h
theorem listOfK (hK : X.K = K) : CallR X (.type "list") (fun xs H Q => ∃ p ys, xs = [.ref p] ∧ (SqL K H p ys ∨ SqT K H p ys) ∧ ∀ l, H l = none → Q (.ref l) (upd H l (.lst ys))) := hK ▸ call_list_of
theorem tupOfK (hK : X.K = K) : CallR X (.type "tuple") (fun xs H Q => ∃ p ys, xs = [.ref p] ∧ ((SqL K H p ys ∧ ∀ l, H l = none → Q (.ref l) (upd H l (.tup ys))) ∨ (SqT K H p ys ∧ Q (.ref p) H))) := hK ▸ call_tuple_of
/-! readings of a list or tuple that stands -/
theorem ixX {H : Hp} {a : Addr} {xs : List V} {v : V} {i : Int} {Q : VK} (h : SqX K H a xs) (e : atI xs i = some v) (q : Q v H) : rIx K (.ref a) (.int i) H Q := by
  rcases h with h | h
  · exact .inl ⟨a, _, _, _, rfl, rfl, h, e, q⟩
  · exact .inr (.inl ⟨a, _, _, _, rfl, rfl, h, e, q⟩)
theorem lenVX {H : Hp} {a : Addr} {xs : List V} (h : SqX K H a xs) : LenV K (.ref a) H xs.length := by
  rcases h with h | h
  · exact .inl ⟨_, h, rfl⟩
  · exact .inr ⟨_, h, rfl⟩
theorem sIx_nat {n d i : Nat} (h : i ≤ n) : HT.sIx n d (some (i : Int)) = i := by
  simp only [HT.sIx]
  split <;> omega
theorem cut_take (xs : List V) {i : Nat} (h : i ≤ xs.length) : cutV xs none (some (i : Int)) = xs.take i := by
  unfold cutV
  have e1 : HT.sIx xs.length 0 none = 0 := rfl
  have e2 : HT.sIx xs.length xs.length (some (i : Int)) = i := sIx_nat h
  rw [e1, e2]
  simp
theorem cut_drop (xs : List V) {i : Nat} (h : i ≤ xs.length) : cutV xs (some (i : Int)) none = xs.drop i := by
  unfold cutV
  have e1 : HT.sIx xs.length xs.length none = xs.length := rfl
  have e2 : HT.sIx xs.length 0 (some (i : Int)) = i := sIx_nat h
  rw [e1, e2]
  rw [List.take_of_length_le (by rw [List.length_drop]; exact Nat.le_refl _)]
theorem sl_takeX {H : Hp} {a : Addr} {xs : List V} {i : Nat} {Q : VK} (h : SqX K H a xs) (hi : i < xs.length) (q : ∀ p H', H p = none → Same H H' → SqX K H' p (xs.take i) → Q (.ref p) H') : rSlL K (.ref a) none (some (i : Int)) H Q ∨ rSlT K (.ref a) none (some (i : Int)) H Q := by
  rcases h with h | h
  · refine .inl ⟨a, xs, rfl, h, fun p hp => q p _ hp (Same.new hp) (.inl (.inl (.inl ?_)))⟩
    rw [cut_take xs (Nat.le_of_lt hi), upd_same]
  · refine .inr ⟨a, xs, rfl, h, ?_, fun p hp => q p _ hp (Same.new hp) (.inr (.inl (.inl ?_)))⟩
    · rintro ⟨_, e⟩
      have e2 : HT.sIx xs.length xs.length (some (i : Int)) = i := sIx_nat (Nat.le_of_lt hi)
      omega
    · rw [cut_take xs (Nat.le_of_lt hi), upd_same]
/-! flat things -/
theorem eg_str {H : Hp} {n : Nat} {a b : Str} : EqG K H n (.str a) (.str b) (decide (a = b)) := by
  have h := eg_dat (K := K) (H := H) (.str a) (.str b) rfl rfl
  refine (h.to ?_).up (by simp [PyData.depth])
  simp only [PyData.eqv]
  rw [Bool.eq_iff_iff]
  simp
theorem eg_int {H : Hp} {n : Nat} {a b : Int} : EqG K H n (.int a) (.int b) (decide (a = b)) := by
  have h := eg_dat (K := K) (H := H) (.int a) (.int b) rfl rfl
  refine (h.to ?_).up (by simp [PyData.depth])
  simp only [PyData.eqv]
  rw [Bool.eq_iff_iff]
  simp
theorem eg_bl {H : Hp} {n : Nat} {a b : Bool} : EqG K H n (.bl a) (.bl b) (decide (a = b)) := by
  have h := eg_dat (K := K) (H := H) (.bl a) (.bl b) rfl rfl
  refine (h.to ?_).up (by simp [PyData.depth])
  simp only [PyData.eqv]
  rw [Bool.eq_iff_iff]
  simp
/-- texts, pair by pair -/
theorem pairs_str {ws zs : List Str} : pairs (fun i => decide (ws[i]? = zs[i]?)) (ws.map V.str) (zs.map V.str) = decide (ws = zs) := by
  unfold pairs
  rw [List.length_map, List.length_map, Bool.eq_iff_iff]
  simp only [Bool.and_eq_true, decide_eq_true_eq, List.all_eq_true, List.mem_range]
  constructor
  · rintro ⟨hl, h⟩
    refine List.ext_getElem? fun i => ?_
    by_cases c : i < ws.length
    · exact h i c
    · rw [List.getElem?_eq_none (by omega), List.getElem?_eq_none (by omega)]
  · rintro rfl
    exact ⟨rfl, fun _ _ => rfl⟩
theorem str_pair {H : Hp} {n : Nat} {ws zs : List Str} (i : Nat) (p q : V) (hp : (ws.map V.str)[i]? = some p) (hq : (zs.map V.str)[i]? = some q) : EqOk K H n p q (decide (ws[i]? = zs[i]?)) := by
  rw [List.getElem?_map] at hp hq
  obtain ⟨a, ha, rfl⟩ := Option.map_eq_some_iff.mp hp
  obtain ⟨b, hb, rfl⟩ := Option.map_eq_some_iff.mp hq
  rw [ha, hb]
  refine eg_str.at_.to ?_
  simp
/-- two tuples of texts, two lists of texts -/
theorem eg_tups {H : Hp} {n : Nat} {a c : Addr} {ws zs : List Str} (ha : SqT K H a (ws.map V.str)) (hc : SqT K H c (zs.map V.str)) (hab : a = c → ws = zs) : EqG K H (n + 1) (.ref a) (.ref c) (decide (ws = zs)) :=
  (eg_tup ha hc str_pair fun e => by rw [pairs_str]; exact decide_eq_true (hab e)).to pairs_str
theorem eg_lsts {H : Hp} {n : Nat} {a c : Addr} {ws zs : List Str} (ha : SqL K H a (ws.map V.str)) (hc : SqL K H c (zs.map V.str)) (hab : a = c → ws = zs) : EqG K H (n + 1) (.ref a) (.ref c) (decide (ws = zs)) :=
  (eg_list ha hc str_pair fun e => by rw [pairs_str]; exact decide_eq_true (hab e)).to pairs_str
theorem mapS_inj {ws zs : List Str} (h : ws.map V.str = zs.map V.str) : ws = zs := (List.map_inj_right (fun _ _ e => by injection e)).mp h
theorem eg_flat {H : Hp} {n : Nat} {x y : V} (hx : flatV x = true) (hy : flatV y = true) : EqOk K H n x y (eqV x y) := fun X pins σ s A v u _ I hu rv ru => eqAt_V rv ru hx hy
end
end S
namespace S
open PySem PySem.Spec PyProof.Rows L2
section
variable {X : Cx} {K : Frag}
theorem slTwK (hK : X.K = K) : SlR X (rSlA K) := hK ▸ sl_tupA
theorem catTK (hK : X.K = K) : OpR X (binaryOp .Add) (rCatA K) := hK ▸ op_catA
theorem sl_Tt {H : Hp} {a : Addr} {xs : List V} {lo hi : Option Int} {Q : VK} (h : H a = some (.tup xs)) (q : ∀ p H', Same H H' → H' p = some (.tup (cutV xs lo hi)) → Q (.ref p) H') : rSlA K (.ref a) lo hi H Q := by
  refine ⟨a, xs, rfl, .inl (.inl h), fun e => q a H (fun _ _ z => z) ?_, fun _ p hp => q p _ (Same.new hp) upd_same⟩
  rw [h]
  unfold cutV
  rw [e.1, e.2]
  simp
theorem cat_Tt {H : Hp} {a b : Addr} {xs ys : List V} {Q : VK} (h : H a = some (.tup xs)) (h' : H b = some (.tup ys)) (hl : xs.length + ys.length ≤ 1000) (q : ∀ p H', Same H H' → H' p = some (.tup (xs ++ ys)) → Q (.ref p) H') : rCatA K (.ref a) (.ref b) H Q := by
  refine ⟨a, b, xs, ys, rfl, rfl, .inl (.inl h), .inl (.inl h'), Nat.le_trans hl (by decide), fun e => q b H (fun _ _ z => z) ?_, fun _ e => q a H (fun _ _ z => z) ?_, fun _ _ p hp => q p _ (Same.new hp) upd_same⟩
  · rw [h', e]; rfl
  · rw [h, e, List.append_nil]
end
end S
namespace S
open PySem PySem.Spec PyProof.Rows L2
/-! ### several except clauses, each with a name or with none -/
/-- an error of the body has come to the clauses -/
structure Lnd (X : Cx) (pins : List (Addr × Obj)) (σ : L2.St) (H : Hp) (a : Addr) (cls : Value) (d : Option Addr) (B : Heap) (t s : Shared) : Prop where
  inv : Inv X pins σ H t
  nb : ∀ b o, t.heap.get? b = some o → b ∉ frs X.stack → B.get? b = some o
  up : t.heap.UpToSlots s.heap
  fl : HandSPX.FlyingZ B (X.env :: X.outer) a (Zc cls d) s.heap
  na : H a = none
  os : s.os = t.os
  ag : AllBare s.gens
section
variable {X : Cx} {pins : List (Addr × Obj)} {σ : L2.St} {H : Hp} {a : Addr} {cls : Value} {d : Option Addr} {B : Heap} {t s : Shared}
theorem Lnd.here (l : Lnd X pins σ H a cls d B t s) : Inv X pins σ H s := by
  exact l.inv.landed l.nb l.fl.1 l.up l.os l.ag
theorem Lnd.lay (hs : X.stack = X.env :: X.outer) (hf : X.env.frame = some X.env.locals) (l : Lnd X pins σ H a cls d B t s) :
    ∃ o, s.heap.get? a = some o ∧ Zc cls d o ∧ (∃ vs, o.data = .fields vs) ∧ Inv (X.suite a ((a, o) :: (X.pn ++ pins))) [] σ H s := by
  obtain ⟨o, vs, e1, e2, e3⟩ := l.fl.there
  have out : a ∉ frs (X.env :: X.outer) := fun m => by
    obtain ⟨_, o2, e4, no⟩ := l.fl.2.2.1.mem m
    rw [e1] at e4
    cases e4
    exact no _ e3
  have n1 : a ≠ X.env.locals := fun z => out (List.mem_filterMap.mpr ⟨X.env, List.mem_cons_self, by rw [hf, z]⟩)
  have n2 : a ∉ X.fs := fun m => by
    obtain ⟨v, hv, z⟩ := List.mem_filterMap.mp m
    exact out (List.mem_filterMap.mpr ⟨v, List.mem_cons_of_mem _ hv, z⟩)
  exact ⟨o, e1, e2, ⟨vs, e3⟩, l.here.suite e1 e3 l.na n1 n2⟩
theorem Lnd.again {M : Model} {A : Around} {E : Value → Shared → Prop} {Q : Unit → Shared → Prop} (l : Lnd X pins σ H a cls d B t s)
    (q : ∀ h', Lnd X pins σ H a cls d B t { s with heap := h' } → Q () { s with heap := h' }) : wpAny M A (setFlight (.ref a) none) Q E s :=
  HandSPX.lands_againZ l.fl fun h' f u => q h' ⟨l.inv, l.nb, l.up.trans u, f, l.na, l.os, l.ag⟩
theorem Lnd.pass {W : WX} {D : Ends} (hs : X.stack = X.env :: X.outer) (hf : X.env.frame = some X.env.locals) (tk : Takes X W) (l : Lnd X pins σ H a cls d B t s) (w : W cls d σ H) :
    wpAny (model X.prog X.w) X.A (handleBy (.ref a) X.env []) (SP X pins D) X.xe s := by
  refine wpAny_handleBy_nil ?_
  obtain ⟨_, _, _, _, vs, T, _, _, g1, _, g2, g3, _⟩ := id l.fl
  unfold PySem.passOn
  refine wpAny_bind (wpAny_field g1 g2 g3 ?_)
  rw [if_neg (by simp : ¬ ((Value.ref T == Value.none) = true))]
  have last : wpAny (model X.prog X.w) X.A (setFlight (.ref a) X.env.frame) (fun _ s4 => wpAny (model X.prog X.w) X.A (throw (.ref a) : Sem Flow) (SP X pins D) X.xe s4) X.xe s := by
    rw [hf]
    exact HandSPX.setFlight_upZ l.fl fun h4 g u => wpAny_throw (tk _ _ ⟨a, B, t, pins, σ, H, cls, d, rfl, l.inv, l.nb, l.up.trans u, .inr (.inr (by rw [hs]; exact g)), l.na, l.os, l.ag, w⟩)
  first
    | exact wpAny_bind last
    | exact wpAny_bind (wpAny_pure (wpAny_bind last))
end
/-- a clause: its class, the slot of its name, its suite -/
structure Cl where
  c : Value
  i : Option Nat
  ts : Addr → Value → Option Addr → TS
/-- what the clauses wish of an error of the body -/
def wCl (K : Frag) (W : WX) (D : Ends) : List Cl → WX
  | [] => W
  | ⟨c, some i, ts⟩ :: r => fun cls d σ H => ∃ b, PySem.W.exmOne K cls c = some b ∧
      (b = true → ∀ a, H a = none → ts a cls d { nx := fun τ J => D.nx (τ.set i none) J, rt := D.rt, bk := fun τ J => D.bk (τ.set i none) J, ct := fun τ J => D.ct (τ.set i none) J } (σ.set i (some (.ref a))) H) ∧ (b = false → wCl K W D r cls d σ H)
  | ⟨c, none, ts⟩ :: r => fun cls d σ H => ∃ b, PySem.W.exmOne K cls c = some b ∧ (b = true → ∀ a, H a = none → ts a cls d D σ H) ∧ (b = false → wCl K W D r cls d σ H)
inductive ClOk (X : Cx) : List ExceptHandler → List Cl → Prop
  | nil : ClOk X [] []
  | as_ {x n : Str} {c : Value} {i : Nat} {ts : Addr → Value → Option Addr → TS} {b : Stmt} {bs : List Stmt} {np p : Pos} {hds : List ExceptHandler} {l : List Cl} (hN : X.N.Nodup) (hi : X.N[i]? = some n) (hl : X.env.kindOf n = some .local) (hc : Names X x c)
      (hsu : ∀ (a : Addr) (oe : Obj) (cls : Value) (d : Option Addr) (pn : List (Addr × Obj)), Zc cls d oe → (∃ vs, oe.data = .fields vs) → PSs (X.suite a ((a, oe) :: pn)) (b :: bs) (ts a cls d)) (r : ClOk X hds l) :
      ClOk X (.ExceptHandler (some (.Name x np)) (some n) (b :: bs) p :: hds) (⟨c, some i, ts⟩ :: l)
  | only {x : Str} {c : Value} {ts : Addr → Value → Option Addr → TS} {b : Stmt} {bs : List Stmt} {np p : Pos} {hds : List ExceptHandler} {l : List Cl} (hc : Names X x c)
      (hsu : ∀ (a : Addr) (oe : Obj) (cls : Value) (d : Option Addr) (pn : List (Addr × Obj)), Zc cls d oe → (∃ vs, oe.data = .fields vs) → PSs (X.suite a ((a, oe) :: pn)) (b :: bs) (ts a cls d)) (r : ClOk X hds l) :
      ClOk X (.ExceptHandler (some (.Name x np)) none (b :: bs) p :: hds) (⟨c, none, ts⟩ :: l)
section
variable {X : Cx} {pins : List (Addr × Obj)} {σ : L2.St} {H : Hp} {a : Addr} {cls : Value} {d : Option Addr} {B : Heap} {t s : Shared}
/-- the class that a clause names is looked at -/
theorem Lnd.name {x : Str} {np : Pos} {c : Value} {Q : Value → Shared → Prop} {E : Value → Shared → Prop} (hs : X.stack = X.env :: X.outer) (hf : X.env.frame = some X.env.locals) (l : Lnd X pins σ H a cls d B t s) (hc : Names X x c) (q : Q c s) :
    wpAny (model X.prog X.w) (X.A.mark (some (.ref a))) (eval (.Name x np) X.env) Q E s := by
  obtain ⟨o, e1, e2, _, I⟩ := l.lay hs hf
  obtain ⟨g1, g2, g3 | ⟨g3, g4, g5⟩⟩ := hc
  · exact ld_glob (X := X.suite a ((a, o) :: (X.pn ++ pins))) I g1 g3 q g2
  · exact ld_blt (X := X.suite a ((a, o) :: (X.pn ++ pins))) I g1 g3 g4 q g5 g2
theorem Lnd.asks {A : Around} {c : Value} {b : Bool} {Q : Bool → Shared → Prop} {E : Value → Shared → Prop} (hs : X.stack = X.env :: X.outer) (hf : X.env.frame = some X.env.locals) (l : Lnd X pins σ H a cls d B t s) (e : PySem.W.exmOne X.K cls c = some b) (q : Q b s) :
    wpAny (model X.prog X.w) A (excMatches (.ref a) c) Q E s := by
  obtain ⟨o, e1, e2, _, I⟩ := l.lay hs hf
  have ty : PySem.W.Looks (model X.prog X.w) s.heap (typeOf (.ref a)) cls := fun A Q E s' k z => wpAny_typeOf_ref (k _ _ e1) (by rw [e2.1]; exact z)
  exact (PySem.W.exm_one (M := model X.prog X.w) l.here.kIn ty e).here q
theorem Lnd.by_ {W : WX} {D : Ends} (hs : X.stack = X.env :: X.outer) (hf : X.env.frame = some X.env.locals) (tk : Takes X W) :
    ∀ {hds : List ExceptHandler} {l : List Cl}, ClOk X hds l → ∀ {s : Shared}, Lnd X pins σ H a cls d B t s → wCl X.K W D l cls d σ H → wpAny (model X.prog X.w) X.A (handleBy (.ref a) X.env hds) (SP X pins D) X.xe s := by
  intro hds l hk
  induction hk with
  | nil => exact fun L w => L.pass hs hf tk w
  | as_ hN hi hl hc hsu r ih =>
    intro s L w
    obtain ⟨b, e, yes, no⟩ := w
    refine wpAny_handleBy_cons (codeAny_handlers_test (L.name hs hf hc (L.asks hs hf e ?_))) (by intro q; cases q)
    cases b with
    | false => exact ih L (no rfl)
    | true =>
      refine codeAny_handlers_suite_as (L.again fun h' L' => ?_)
      obtain ⟨o, _, hz, hv, I⟩ := L'.lay hs hf
      refine store_ok (X := X.suite a ((a, o) :: (X.pn ++ pins))) (v := .ref a) I hN hi (.inl hl) rfl (fun s5 I5 => ?_) (.inr hl)
      refine wpAny_mono ((hsu a o cls d _ hz hv).run [] s5 _ H _ I5 (yes rfl a L.na)) (fun f s6 z => ?_) fun _ _ z => False.elim z
      match f, z with
      | .next, ⟨τ, J, I6, k⟩ => exact gone_ok (I6.unsuite L.inv.ok) hN hi hl fun s7 I7 => ⟨_, _, I7, k⟩
      | .brk, ⟨τ, J, I6, k⟩ => exact gone_ok (I6.unsuite L.inv.ok) hN hi hl fun s7 I7 => ⟨_, _, I7, k⟩
      | .cont, ⟨τ, J, I6, k⟩ => exact gone_ok (I6.unsuite L.inv.ok) hN hi hl fun s7 I7 => ⟨_, _, I7, k⟩
      | .ret u, ⟨v, τ, J, I6, rv, k⟩ => exact gone_ok (I6.unsuite L.inv.ok) hN hi hl fun s7 I7 => ⟨_, _, _, I7, rv, k⟩
  | only hc hsu r ih =>
    intro s L w
    obtain ⟨b, e, yes, no⟩ := w
    refine wpAny_handleBy_cons (codeAny_handlers_test (L.name hs hf hc (L.asks hs hf e ?_))) (by intro q; cases q)
    cases b with
    | false => exact ih L (no rfl)
    | true =>
      refine codeAny_handlers_suite (L.again fun h' L' => ?_)
      obtain ⟨o, _, hz, hv, I⟩ := L'.lay hs hf
      refine wpAny_mono ((hsu a o cls d _ hz hv).run [] _ _ H _ I (yes rfl a L.na)) (fun f s6 z => ?_) fun _ _ z => False.elim z
      match f, z with
      | .next, ⟨τ, J, I6, k⟩ => exact ⟨_, _, I6.unsuite L.inv.ok, k⟩
      | .brk, ⟨τ, J, I6, k⟩ => exact ⟨_, _, I6.unsuite L.inv.ok, k⟩
      | .cont, ⟨τ, J, I6, k⟩ => exact ⟨_, _, I6.unsuite L.inv.ok, k⟩
      | .ret u, ⟨v, τ, J, I6, rv, k⟩ => exact ⟨_, _, _, I6.unsuite L.inv.ok, rv, k⟩
theorem ps_try_cl {W : WX} {body : List Stmt} {h0 : ExceptHandler} {hds : List ExceptHandler} {l : List Cl} {tb : WX → TS} {pos : Pos} (hs : X.stack = X.env :: X.outer) (hf : X.env.frame = some X.env.locals) (tk : Takes X W)
    (hb : ∀ (W' : WX) (pn : List (Addr × Obj)) (xe : Value → Shared → Prop), Takes (X.tr pn xe) W' → PassesOwn (model X.prog X.w) X.A X.env xe → PSs (X.tr pn xe) body (tb W'))
    (hh : ClOk X (h0 :: hds) l) : PS X (.Try body (h0 :: hds) [] [] pos) (fun D σ H => tb (wCl X.K W D l) D σ H) := by
  refine ⟨fun pins s σ H D I h => wpAny_Try_except ?_⟩
  have fr : X.A.frames = some (X.env :: X.outer) := by rw [I.ok.frames, hs]
  refine wpAny_mono ((hb (wCl X.K W D l) (X.pn ++ pins) (fun e s1 => wpAny (model X.prog X.w) X.A (noteFrame e X.env) (fun _ s2 => wpAny (model X.prog X.w) X.A (setFlight e none) (fun _ s3 =>
    wpAny (model X.prog X.w) X.A (handleBy e X.env (h0 :: hds)) (SP X pins D) X.xe s3) X.xe s2) X.xe s1) (fun u s' xx => ?_) PassesOwn.looking).run [] s σ H D (I.toTry _) h) (fun f s1 z => ?_) fun _ _ z => z
  · obtain ⟨a, B, t, pins2, τ, J, cls, d, rfl, I2, nb, up, sky, na, os, ag, w⟩ := xx
    refine Sky.land Zc.steady fr hf (by rw [← hs]; exact sky) fun h3 f3 u3 => ?_
    exact Lnd.by_ (a := a) (cls := cls) (d := d) (B := B) (t := t) hs hf tk hh ⟨I2.ofTry I.ok, nb, up.trans u3, f3, na, os, ag⟩ w
  · match f, z with
    | .next, ⟨τ, J, I2, k⟩ => exact wpAny_execs_nil ⟨τ, J, I2.ofTry I.ok, k⟩
    | .brk, ⟨τ, J, I2, k⟩ => exact ⟨τ, J, I2.ofTry I.ok, k⟩
    | .cont, ⟨τ, J, I2, k⟩ => exact ⟨τ, J, I2.ofTry I.ok, k⟩
    | .ret u, ⟨v, τ, J, I2, rv, k⟩ => exact ⟨v, τ, J, I2.ofTry I.ok, rv, k⟩
end
end S
namespace S
open PySem PySem.Spec PyProof.Rows L2
/-! ### a dict beside a thing of another kind: not equal -/
section
open PySem.SeqAt
variable {prog : Program} {w : World} {A : Around} {E : Value → Shared → Prop} {s : Shared}
/-- a dict stands at d -/
def DkO (s : Shared) (d : Addr) : Prop := ∃ es ep, s.heap.get? d = some ⟨.type "dict", none, .dict es ep, #[]⟩
theorem DkO.ty {d : Addr} (h : DkO s d) : s.TypeIs (.ref d) "dict" := by
  obtain ⟨es, ep, e⟩ := h
  exact ⟨_, e, rfl⟩
theorem dict_no {d : Addr} {y : Value} {T : String} {Q : Value → Shared → Prop} (hd : s.TypeIs (.ref d) "dict") (hy : s.TypeIs y T) (hs : isSubtype (.type T) (.type "dict") = pure false) (q : Q .notImplemented s)
    {name : Str} (sl : Slot "dict" name "dict.__eq__") : wpAny (model prog w) A (call (.builtin "dict.__eq__") [.ref d, y]) Q E s := by
  refine wpAny_call_entry sl hd PySem.F.entry_dict_eq ?_ (PySem.F.args_dict_eq_2 _ _)
  show wpAny _ _ (Builtin.Dict.dictSlotArgs "__eq__" ⟨[.ref d, y], []⟩ >>= _) _ _ s
  refine wpAny_bind ?_
  unfold Builtin.Dict.dictSlotArgs
  refine wpAny_bind (wpAny_notOrdered_dict hd ?_)
  show wpAny _ _ (pure (Value.ref d, y)) _ _ s
  refine wpAny_pure (wpAny_bind (wpAny_isInstance (T := T) hy hs ?_))
  simp only [Bool.not_false, if_true]
  exact wpAny_bind (wpAny_rule (wpAny_pure ⟨_, rfl, q⟩))
theorem no_int (i : Int) (u : Tok) {d : Addr} {es : Array DictEntry} {ep : Nat} : Meets (Builtin.«int.__eq__» ⟨[.int i u, .ref d], []⟩) (fun _ R s => s.heap.get? d = some ⟨.type "dict", none, .dict es ep, #[]⟩ ∧ R (.ok (.ret .notImplemented)) s) :=
  .of_wp fun prog w A R s ⟨hl, h⟩ => by obtain ⟨hp, g, dd, tk, os⟩ := s; wp_walk using wpAny_loadPart' hl, wpAny_load hl; exact ⟨_, rfl, h⟩
theorem no_bool (b : Bool) {d : Addr} {es : Array DictEntry} {ep : Nat} : Meets (Builtin.«int.__eq__» ⟨[.bool b, .ref d], []⟩) (fun _ R s => s.heap.get? d = some ⟨.type "dict", none, .dict es ep, #[]⟩ ∧ R (.ok (.ret .notImplemented)) s) :=
  .of_wp fun prog w A R s ⟨hl, h⟩ => by obtain ⟨hp, g, dd, tk, os⟩ := s; wp_walk using wpAny_loadPart' hl, wpAny_load hl; exact ⟨_, rfl, h⟩
theorem no_str (z : Str) (u : Tok) {d : Addr} {es : Array DictEntry} {ep : Nat} : Meets (Builtin.«str.__eq__» ⟨[.str z u, .ref d], []⟩) (fun _ R s => s.heap.get? d = some ⟨.type "dict", none, .dict es ep, #[]⟩ ∧ R (.ok (.ret .notImplemented)) s) :=
  .of_wp fun prog w A R s ⟨hl, h⟩ => by obtain ⟨hp, g, dd, tk, os⟩ := s; wp_walk using wpAny_loadPart' hl, wpAny_load hl; exact ⟨_, rfl, h⟩
theorem no_list {l : Addr} {d : Addr} {es : Array DictEntry} {ep : Nat} : Meets (Builtin.«list.__eq__» ⟨[.ref l, .ref d], []⟩) (fun _ R s => s.heap.get? d = some ⟨.type "dict", none, .dict es ep, #[]⟩ ∧ R (.ok (.ret .notImplemented)) s) :=
  .of_wp fun prog w A R s ⟨hl, h⟩ => by obtain ⟨hp, g, dd, tk, os⟩ := s; have f1 := PySem.F.sub_dict_list; wp_walk using wpAny_loadPart' hl, wpAny_load hl; exact ⟨_, rfl, h⟩
theorem no_tuple {l : Addr} {d : Addr} {es : Array DictEntry} {ep : Nat} : Meets (Builtin.«tuple.__eq__» ⟨[.ref l, .ref d], []⟩) (fun _ R s => s.heap.get? d = some ⟨.type "dict", none, .dict es ep, #[]⟩ ∧ R (.ok (.ret .notImplemented)) s) :=
  .of_wp fun prog w A R s ⟨hl, h⟩ => by obtain ⟨hp, g, dd, tk, os⟩ := s; have f1 := PySem.F.sub_dict_tuple; wp_walk using wpAny_loadPart' hl, wpAny_load hl; exact ⟨_, rfl, h⟩
/-- no dict, and its == leaves dicts alone -/
structure NoD (s : Shared) (v : Value) (T id : String) : Prop where
  ty : s.TypeIs v T
  n1 : (Value.type T != Value.type "dict") = true
  n2 : (Value.type "dict" != Value.type T) = true
  s1 : isSubtype (.type T) (.type "dict") = pure false
  s2 : isSubtype (.type "dict") (.type T) = pure false
  sl : Slot T (cmpInfo .Eq).2.1 id
  sr : Slot T (cmpInfo .Eq).2.2 id
  is_ : ∀ d, (∃ l, v = .ref l) ∨ (isSame (.ref d) v = pure false ∧ isSame v (.ref d) = pure false)
  no : ∀ (prog : Program) (w : World) (A : Around) (E : Value → Shared → Prop) (Q : Value → Shared → Prop) (d : Addr) (name : Str), Slot T name id → DkO s d → Q .notImplemented s → wpAny (model prog w) A (call (.builtin id) [v, .ref d]) Q E s
theorem noD_non : NoD s .none "NoneType" "NoneType.__eq__" := ⟨rfl, by decide, by decide, PySem.F.sub_NoneType_dict, PySem.F.sub_dict_NoneType, PySem.F.slot_NoneType_eq, PySem.F.slot_NoneType_eq_refl, (fun _ => .inr ⟨rfl, rfl⟩),
  fun prog w A E Q d name sl _ q => call_gives sl rfl PySem.F.entry_NoneType_eq (PySem.F.args_NoneType_eq_2 _ _) (NoneType___eq___none_ref_0 d) q⟩
theorem noD_bool (b : Bool) : NoD s (.bool b) "bool" "int.__eq__" := ⟨rfl, by decide, by decide, PySem.F.sub_bool_dict, PySem.F.sub_dict_bool, PySem.F.slot_bool_eq, PySem.F.slot_bool_eq_refl, (fun _ => .inr ⟨rfl, rfl⟩),
  fun prog w A E Q d name sl ⟨es, ep, e⟩ q => call_meets sl rfl PySem.F.entry_int_eq (PySem.F.args_int_eq_2 _ _) (no_bool b) ⟨e, q⟩⟩
theorem noD_int (i : Int) (u : Tok) : NoD s (.int i u) "int" "int.__eq__" := ⟨rfl, by decide, by decide, PySem.F.sub_int_dict, PySem.F.sub_dict_int, PySem.F.slot_int_eq, PySem.F.slot_int_eq_refl, (fun _ => .inr ⟨rfl, rfl⟩),
  fun prog w A E Q d name sl ⟨es, ep, e⟩ q => call_meets sl rfl PySem.F.entry_int_eq (PySem.F.args_int_eq_2 _ _) (no_int i u) ⟨e, q⟩⟩
theorem noD_str (z : Str) (u : Tok) : NoD s (.str z u) "str" "str.__eq__" := ⟨rfl, by decide, by decide, PySem.F.sub_str_dict, PySem.F.sub_dict_str, PySem.F.slot_str_eq, PySem.F.slot_str_eq_refl, (fun _ => .inr ⟨rfl, rfl⟩),
  fun prog w A E Q d name sl ⟨es, ep, e⟩ q => call_meets sl rfl PySem.F.entry_str_eq (PySem.F.args_str_eq_2 _ _) (no_str z u) ⟨e, q⟩⟩
theorem noD_list {l : Addr} (h : s.TypeIs (.ref l) "list") : NoD s (.ref l) "list" "list.__eq__" := ⟨h, by decide, by decide, PySem.F.sub_list_dict, PySem.F.sub_dict_list, PySem.F.slot_list_eq, PySem.F.slot_list_eq_refl, (fun _ => .inl ⟨_, rfl⟩),
  fun prog w A E Q d name sl ⟨es, ep, e⟩ q => call_meets sl h PySem.F.entry_list_eq (PySem.F.args_list_eq_2 _ _) no_list ⟨e, q⟩⟩
theorem noD_tuple {l : Addr} (h : s.TypeIs (.ref l) "tuple") : NoD s (.ref l) "tuple" "tuple.__eq__" := ⟨h, by decide, by decide, PySem.F.sub_tuple_dict, PySem.F.sub_dict_tuple, PySem.F.slot_tuple_eq, PySem.F.slot_tuple_eq_refl, (fun _ => .inl ⟨_, rfl⟩),
  fun prog w A E Q d name sl ⟨es, ep, e⟩ q => call_meets sl h PySem.F.entry_tuple_eq (PySem.F.args_tuple_eq_2 _ _) no_tuple ⟨e, q⟩⟩
/-- no thing of another kind is the dict itself -/
theorem notD {v : Value} {T id : String} {d : Addr} {R : Bool → Shared → Prop} (h : NoD s v T id) (hd : DkO s d) (r : R false s) : wpAny (model prog w) A (isSame (.ref d) v) R E s ∧ wpAny (model prog w) A (isSame v (.ref d)) R E s := by
  obtain ⟨es, ep, e⟩ := hd
  rcases h.is_ d with ⟨l, rfl⟩ | ⟨i1, i2⟩
  · obtain ⟨o, ho, hc⟩ := h.ty
    have ne : d ≠ l := fun z => by
      subst z
      rw [e] at ho
      cases ho
      have := h.n1
      rw [← hc] at this
      simp at this
    constructor
    · show wpAny _ A (if (d == l) = true then pure true else _) R E s
      rw [if_neg (by simpa using ne)]
      refine wpAny_bind (wpAny_load e (wpAny_bind (wpAny_load ho ?_)))
      split
      · rename_i h1 _ _ _; injection h1 with z; exact absurd z (by decide)
      · exact wpAny_pure r
    · show wpAny _ A (if (l == d) = true then pure true else _) R E s
      rw [if_neg (by simpa using ne.symm)]
      refine wpAny_bind (wpAny_load ho (wpAny_bind (wpAny_load e ?_)))
      split
      · rename_i _ h1 _ _; injection h1 with z; exact absurd z (by decide)
      · exact wpAny_pure r
  · exact ⟨wpAny_of_eq i1 r, wpAny_of_eq i2 r⟩
theorem rcD1 {v : Value} {T id : String} {d : Addr} (h : NoD s v T id) (hd : DkO s d) (hu : A.units < cLine) : RcAt A s (.ref d) v false := fun prog w E Q q =>
  rc_eq_decline_or (k := false) hd.ty h.ty h.n2 h.s1 PySem.F.slot_dict_eq h.sr (fun _ z => dict_no hd.ty h.ty h.s1 z PySem.F.slot_dict_eq) (fun _ z => h.no prog w A E _ d _ h.sr hd z) (fun _ z => (notD h hd z).1) (.inr hu) q
theorem rcD2 {v : Value} {T id : String} {d : Addr} (h : NoD s v T id) (hd : DkO s d) (hu : A.units < cLine) : RcAt A s v (.ref d) false := fun prog w E Q q =>
  rc_eq_decline_or (k := false) h.ty hd.ty h.n1 h.s2 h.sl PySem.F.slot_dict_eq_refl (fun _ z => h.no prog w A E _ d _ h.sl hd z) (fun _ z => dict_no hd.ty h.ty h.s1 z PySem.F.slot_dict_eq_refl) (fun _ z => (notD h hd z).2) (.inr hu) q
theorem neD {v : Value} {T id : String} {d : Addr} (h : NoD s v T id) (hd : DkO s d) : v ≠ .ref d := fun z => by
  subst z
  obtain ⟨o, ho, hc⟩ := h.ty
  obtain ⟨es, ep, e⟩ := hd
  rw [e] at ho
  cases ho
  have := h.n1
  rw [← hc] at this
  simp at this
theorem eqD1 {v : Value} {T id : String} {d : Addr} (h : NoD s v T id) (hd : DkO s d) (hu : A.units < cLine) : EqAt A s (.ref d) v false := fun prog w E Q q => by
  unfold eqBool
  refine wpAny_holding (wpAny_ite_split (fun hab => absurd (eq_of_beq hab).symm (neD h hd)) fun _ => ?_)
  exact wpAny_bind (rcD1 h hd hu prog w E _ (wpAny_truthy_bool q))
theorem eqD2 {v : Value} {T id : String} {d : Addr} (h : NoD s v T id) (hd : DkO s d) (hu : A.units < cLine) : EqAt A s v (.ref d) false := fun prog w E Q q => by
  unfold eqBool
  refine wpAny_holding (wpAny_ite_split (fun hab => absurd (eq_of_beq hab) (neD h hd)) fun _ => ?_)
  cases v <;> exact wpAny_bind (rcD2 h hd hu prog w E _ (wpAny_truthy_bool q))
end
end S
namespace S
open PySem PySem.Spec PyProof.Rows L2
/-! ### plain data, or the empty dict -/
inductive Mx (K : Frag) (H : Hp) : V → PyData → Prop where
  | dat {x : V} {d : PyData} (h : Dp K H x d) (p : d.plain = true) (l : d.depth ≤ 20) : Mx K H x d
  | dk {a : Addr} (h : H a = some (.dK [])) : Mx K H (.ref a) (.dict [])
def mixEq : PyData → PyData → Bool
  | .dict _, .dict _ => true
  | .dict _, _ => false
  | _, .dict _ => false
  | d, e => PyData.eqv d e
section
variable {X : Cx} {K : Frag} {pins : List (Addr × Obj)} {σ : L2.St} {H : Hp} {s : Shared} {a b : Addr} {x y : V} {d e : PyData}
theorem dkO_of {ks : List (Key × V)} (I : Inv X pins σ H s) (h : H a = some (.dK ks)) : DkO s a := by
  obtain ⟨_, _, va, _, o, es, ep, e1, ⟨e2, e3, e4⟩, e5, _⟩ := (show ObjOk X.prog X.w H s.heap a (.dK ks) from I.hok a _ h)
  obtain ⟨c, dd, dt, sl⟩ := o
  simp only at e2 e3 e4 e5
  subst e2 e3 e4 e5
  exact ⟨es, ep, e1⟩
theorem dk0_any (I : Inv X pins σ H s) (h : H a = some (.dK [])) (P : Program) (w : World) : s.heap.DictOf (mixKind P w) a ([] : List (Key × Value)) ∧ (a == sysModules) = false := by
  obtain ⟨_, ya, va, ra, o, es, ep, e1, e2, e3, e4, e5, e6⟩ := (show ObjOk X.prog X.w H s.heap a (.dK []) from I.hok a _ h)
  have hv : va = [] := by
    have := ra.length
    exact List.length_eq_zero_iff.mp this.symm
  subst hv
  generalize hl : es.toList = l at e5
  cases e5
  refine ⟨⟨o, es, ep, e1, e2, e3, fun q hq => ?_, by rw [hl]; exact .nil, List.nodup_nil⟩, ya⟩
  have : q ∈ es.toList := by simpa using hq
  rw [hl] at this
  cases this
theorem noD_of (I : Inv X pins σ H s) (h : Dp X.K H x d) {v : Value} (r : RelV x v) : ∃ T id, NoD s v T id := by
  cases h with
  | non => cases r; exact ⟨_, _, noD_non⟩
  | bl b => cases r; exact ⟨_, _, noD_bool b⟩
  | int i => obtain ⟨t, rfl⟩ := r; exact ⟨_, _, noD_int i t⟩
  | str z => obtain ⟨t, rfl⟩ := r; exact ⟨_, _, noD_str z t⟩
  | lst hl _ =>
    cases r
    obtain ⟨its, _, pl, _⟩ := I.list hl
    obtain ⟨o, e1, e2, _⟩ := pl.isList
    exact ⟨_, _, noD_list ⟨o, e1, e2⟩⟩
  | tup hl _ =>
    cases r
    obtain ⟨its, _, pl, _⟩ := I.tuple hl
    obtain ⟨o, e1, e2, _⟩ := pl
    exact ⟨_, _, noD_tuple ⟨o, e1, e2⟩⟩
theorem mix_plain (hd : d.plain = true) (he : e.plain = true) : mixEq d e = PyData.eqv d e := by
  cases d <;> cases e <;> first | rfl | cases hd | cases he
theorem mix_dL (he : e.plain = true) : mixEq (.dict []) e = false := by
  cases e <;> first | rfl | cases he
theorem mix_dR (he : d.plain = true) : mixEq d (.dict []) = false := by
  cases d <;> first | rfl | cases he
theorem Mx.eq (hx : Mx K H x d) (hy : Mx K H y e) : EqOk K H 30 x y (mixEq d e) := by
  cases hx with
  | dat h1 p1 l1 =>
    cases hy with
    | dat h2 p2 l2 =>
      rw [mix_plain p1 p2]
      exact (eg_dat h1 h2 p1 p2).at_.up (by omega)
    | dk h2 =>
      rw [mix_dR p1]
      intro X pins σ s A v u k I hu rv ru
      subst k
      cases ru
      obtain ⟨T, id, n⟩ := noD_of I h1 rv
      exact eqD2 n (dkO_of I h2) (by omega)
  | dk h1 =>
    cases hy with
    | dat h2 p2 l2 =>
      rw [mix_dL p2]
      intro X pins σ s A v u k I hu rv ru
      subst k
      cases rv
      obtain ⟨T, id, n⟩ := noD_of I h2 ru
      exact eqD1 n (dkO_of I h1) (by omega)
    | dk h2 =>
      rename_i a b
      intro X pins σ s A v u k I hu rv ru
      subst k
      cases rv
      cases ru
      show SeqAt.EqAt A s _ _ true
      by_cases e0 : a = b
      · subst e0
        exact SeqAt.EqAt.same _
      · refine SeqAt.EqAt.of_refs e0 fun prog w E Q q => ?_
        obtain ⟨d1, y1⟩ := dk0_any I h1 prog w
        obtain ⟨d2, y2⟩ := dk0_any I h2 prog w
        exact PySem.W.keq_eq (knd := mixKind prog w) (r := true) y1 y2 d1 d2 (by omega) (fun _ => .nil) q
theorem dp_same {H' : Hp} (s : Same H H') : ∀ {x : V} {d : PyData}, Dp K H x d → Dp K H' x d := by
  intro x d h
  refine Dp.rec (motive_1 := fun x d _ => Dp K H' x d) (motive_2 := fun xs ds _ => DpAll K H' xs ds) ?_ ?_ ?_ ?_ ?_ ?_ ?_ ?_ h
  · exact .non
  · exact fun b => .bl b
  · exact fun i => .int i
  · exact fun z => .str z
  · exact fun h _ ih => .lst (sqL_same h s) ih
  · exact fun h _ ih => .tup (sqT_same h s) ih
  · exact .nil
  · exact fun _ _ a b => .cons a b
theorem Mx.same {H' : Hp} (h : Mx K H x d) (s : Same H H') : Mx K H' x d := by
  cases h with
  | dat h p l => exact .dat (dp_same s h) p l
  | dk h => exact .dk (s _ _ h)
open Classical in
/-- the data that stands there -/
noncomputable def rdM (K : Frag) (H : Hp) (x : V) : PyData := if h : ∃ d, Mx K H x d then h.choose else .none
theorem rdM_of (h : ∃ d, Mx K H x d) : Mx K H x (rdM K H x) := by
  unfold rdM
  rw [dif_pos h]
  exact h.choose_spec
end
end S
namespace S
open PySem PySem.Spec PyProof.Rows L2
/-! ### [f(x) for x in xs if c(x)] over what stands -/
section
variable {J : It} {xs : List V} {H0 : Hp} {D : Addr} {tt : TT} {te : TE} {vs : List Nat} {σ : L2.St} {Qd : Hp → Prop} {i : Nat}
theorem lc_fm (wk : Walk J xs.length (fun H => Same H0 H) (YAt xs)) (c : V → Bool) (f : V → V) (hD : H0 D = none) (ln : xs.length ≤ 1000) (w0 : ∀ x, wipe ((wipe σ vs).set i (some x)) vs = wipe σ vs)
    (tst : ∀ (x : V) (H : Hp) (B : Bool → Hp → Prop), x ∈ xs → Same H0 H → (∀ H', Same H H' → B (c x) H') → tt ((wipe σ vs).set i (some x)) H B)
    (el : ∀ (x : V) (H : Hp) (Z : V → Hp → Prop), x ∈ xs → Same H0 H → (∀ H', Same H H' → Z (f x) H') → te ((wipe σ vs).set i (some x)) H Z)
    (q : ∀ H, Same H0 H → H D = some (.lst ((xs.filter c).map f)) → Qd H) :
    ∃ W : Nat → Nat → Hp → Prop, (∃ m, W 0 m (upd H0 D (.lst []))) ∧ ∀ k m H, W k m H →
      (J.stop k H ∧ Qd H) ∨ (J.go k H ∧ ∃ Nx : Hp → Prop, (∀ H', Nx H' → ∃ m', m' < m ∧ W (k + 1) m' H') ∧ ∀ x H', J.yld k H x H' → gName i x (wipe σ vs) H' fun σ2 H2 => wipe σ2 vs = wipe σ vs ∧ tt σ2 H2 fun b H3 =>
        if b = true then te σ2 H3 fun y H4 => ∃ acc, H4 D = some (.lst acc) ∧ acc.length < sizeLine ∧ Nx (upd H4 D (.lst (acc ++ [y]))) else Nx H3) := by
  refine lc_seq wk (fun k J => Same H0 J ∧ J D = some (.lst (((xs.take k).filter c).map f))) ⟨Same.new hD, upd_same⟩ (fun k J _ h => h.1) ?_ ?_
  · rintro k x J hx ⟨sJ, eD⟩
    have mx := List.mem_of_getElem? hx
    refine ⟨w0 x, tst x J _ mx sJ fun J2 s2 => ?_⟩
    have et : xs.take (k + 1) = xs.take k ++ [x] := by rw [List.take_add_one, hx]; rfl
    cases e : c x with
    | true =>
      refine iteT (el x J2 _ mx (sJ.trans s2) fun J3 s3 => ⟨_, (s2.trans s3) _ _ eD, ?_, Same.upd ((sJ.trans s2).trans s3) hD, ?_⟩)
      · rw [List.length_map]
        have h1 := List.length_filter_le c (xs.take k)
        rw [List.length_take] at h1
        exact Nat.lt_of_le_of_lt (show ((xs.take k).filter c).length ≤ 1000 by omega) (by decide)
      · rw [upd_same, et, List.filter_append, List.map_append]
        simp [e]
    | false =>
      refine iteF ⟨sJ.trans s2, ?_⟩
      rw [et, List.filter_append, List.map_append]
      simp [e]
      simpa using s2 _ _ eD
  · rintro J ⟨sJ, eD⟩
    rw [List.take_length] at eD
    exact q J sJ eD
theorem lc_map (wk : Walk J xs.length (fun H => Same H0 H) (YAt xs)) (f : V → V) (hD : H0 D = none) (ln : xs.length ≤ 1000) (w0 : ∀ x, wipe ((wipe σ vs).set i (some x)) vs = wipe σ vs)
    (el : ∀ (x : V) (H : Hp) (Z : V → Hp → Prop), x ∈ xs → Same H0 H → (∀ H', Same H H' → Z (f x) H') → te ((wipe σ vs).set i (some x)) H Z)
    (q : ∀ H, Same H0 H → H D = some (.lst (xs.map f)) → Qd H) :
    ∃ W : Nat → Nat → Hp → Prop, (∃ m, W 0 m (upd H0 D (.lst []))) ∧ ∀ k m H, W k m H →
      (J.stop k H ∧ Qd H) ∨ (J.go k H ∧ ∃ Nx : Hp → Prop, (∀ H', Nx H' → ∃ m', m' < m ∧ W (k + 1) m' H') ∧ ∀ x H', J.yld k H x H' → gName i x (wipe σ vs) H' fun σ2 H2 => wipe σ2 vs = wipe σ vs ∧ tYes σ2 H2 fun b H3 =>
        if b = true then te σ2 H3 fun y H4 => ∃ acc, H4 D = some (.lst acc) ∧ acc.length < sizeLine ∧ Nx (upd H4 D (.lst (acc ++ [y]))) else Nx H3) :=
  lc_fm wk (fun _ => true) f hD ln w0 (fun _ _ _ _ _ b => yesT (b _ fun _ _ z => z)) el fun H s e => q H s (by rw [List.filter_eq_self.mpr (fun _ _ => rfl)] at e; exact e)
/-- the same from rows of data: the values are a ↦ v a -/
theorem lc_mapA {α : Type} {as : List α} {v : α → V} (wk : Walk J (as.map v).length (fun H => Same H0 H) (YAt (as.map v))) (f : α → V) (hf : ∀ a ∈ as, ∀ b ∈ as, v a = v b → f a = f b) (hD : H0 D = none) (ln : as.length ≤ 1000) (w0 : ∀ x, wipe ((wipe σ vs).set i (some x)) vs = wipe σ vs)
    (el : ∀ (a : α) (H : Hp) (Z : V → Hp → Prop), a ∈ as → Same H0 H → (∀ H', Same H H' → Z (f a) H') → te ((wipe σ vs).set i (some (v a))) H Z)
    (q : ∀ H, Same H0 H → H D = some (.lst (as.map f)) → Qd H) :
    ∃ W : Nat → Nat → Hp → Prop, (∃ m, W 0 m (upd H0 D (.lst []))) ∧ ∀ k m H, W k m H →
      (J.stop k H ∧ Qd H) ∨ (J.go k H ∧ ∃ Nx : Hp → Prop, (∀ H', Nx H' → ∃ m', m' < m ∧ W (k + 1) m' H') ∧ ∀ x H', J.yld k H x H' → gName i x (wipe σ vs) H' fun σ2 H2 => wipe σ2 vs = wipe σ vs ∧ tYes σ2 H2 fun b H3 =>
        if b = true then te σ2 H3 fun y H4 => ∃ acc, H4 D = some (.lst acc) ∧ acc.length < sizeLine ∧ Nx (upd H4 D (.lst (acc ++ [y]))) else Nx H3) := by
  classical
  let F : V → V := fun x => if h : ∃ a ∈ as, v a = x then f h.choose else .non
  have hF : ∀ a ∈ as, F (v a) = f a := fun a ha => by
    have h : ∃ b ∈ as, v b = v a := ⟨a, ha, rfl⟩
    show (if h : ∃ b ∈ as, v b = v a then f h.choose else .non) = f a
    rw [dif_pos h]
    exact hf _ h.choose_spec.1 _ ha h.choose_spec.2
  refine lc_map wk F hD (by rw [List.length_map]; exact ln) w0 (fun x H Z hx s z => ?_) fun H s e => q H s ?_
  · obtain ⟨a, ha, rfl⟩ := List.mem_map.mp hx
    rw [hF a ha] at z
    exact el a H Z ha s z
  · rw [List.map_map] at e
    rw [e]
    congr 2
    exact List.map_congr_left fun a ha => hF a ha
end
/-- two tuples of like items -/
theorem tup_ne {K : Frag} {H : Hp} {n : Nat} {o t : Addr} {xs : List V} (h1 : H o = some (.tup xs)) (h2 : H t = some (.tup xs)) (hx : ∀ z ∈ xs, EqOk K H n z z true) : EqG K H (n + 1) (.ref o) (.ref t) true :=
  (eg_tup (e := fun _ => true) (.inl (.inl h1)) (.inl (.inl h2)) (fun i p q hp hq => by rw [hp] at hq; cases hq; exact hx p (List.mem_of_getElem? hp)) (fun _ => by simp [pairs])).to (by simp [pairs])
theorem mix_refl {K : Frag} {H : Hp} {x : V} {d : PyData} (h : Mx K H x d) : mixEq d d = true := by
  cases h with
  | dat h p l => rw [mix_plain p p]; exact SeqAt.eqv_refl_plain d p
  | dk h => rfl
end S
namespace S
open PySem PySem.Spec PyProof.Rows L2
def Sp6 (f : V → V → V → V → V → V → Hp → VK → XK → Prop) : Sp := fun vs H Q E => ∃ x y z u v w, vs = [x, y, z, u, v, w] ∧ f x y z u v w H Q E
theorem splen6 {vs : List V} {H : Hp} {Q : VK} {E : XK} {f} (h : Sp6 f vs H Q E) : vs.length = 6 := by obtain ⟨_, _, _, _, _, _, rfl, _⟩ := h; rfl
/-! ### x < y of like data -/
def rLtD (K : Frag) : R2 := fun x y H Q => ∃ d e, Dp K H x d ∧ Dp K H y e ∧ PySem.W.alike d e = true ∧ d ≠ .none ∧ d.depth ≤ 20 ∧ Q (.bl (PySem.W.dataLt d e)) H
theorem ltDK {X : Cx} {K : Frag} (hK : X.K = K) (hu : X.A.units + 64 < cLine) : OpR X (compareOp .Lt) (rLtD K) := by
  intro pins s σ H x y v u Q I rx ry h
  subst hK
  obtain ⟨d, e, hd, he, al, nn, dp, q⟩ := h
  obtain ⟨as, r1⟩ := Dp.reads I d x v hd rx
  obtain ⟨bs, r2⟩ := Dp.reads I e y u he ry
  exact PySem.W.rcLt_alike d e X.A s v u as bs r1 r2 al nn (by omega) X.prog X.w _ _ ⟨.bl _, H, I, rfl, q⟩
/-! ### a or b, a and b of bools, as values -/
theorem orQ {c d : Bool} {Q : V → Hp → Prop} {H : Hp} {B : Prop} (q : Q (.bl (c || d)) H) (hB : Q (.bl d) H → B) : if c = true then Q (.bl true) H else B := by
  cases c with
  | true => exact q
  | false => exact hB q
theorem andQ {c d : Bool} {Q : V → Hp → Prop} {H : Hp} {B : Prop} (q : Q (.bl (c && d)) H) (hB : Q (.bl d) H → B) : if c = true then B else Q (.bl false) H := by
  cases c with
  | true => exact hB q
  | false => exact q
/-! ### the sort by steps from the end -/
section
variable {α β : Type}
def ltAt (lt : α → α → Bool) (x : α) (out : List α) (k : Nat) : Bool := match out[k]? with
  | some y => lt x y
  | none => false
/-- x goes down from k past what is above it -/
def posR (lt : α → α → Bool) (x : α) (out : List α) : Nat → Nat
  | 0 => 0
  | k + 1 => if ltAt lt x out k then posR lt x out k else k + 1
def insR (lt : α → α → Bool) (out : List α) (x : α) : List α := out.take (posR lt x out out.length) ++ [x] ++ out.drop (posR lt x out out.length)
def sortR (lt : α → α → Bool) (l : List α) : List α := l.foldl (insR lt) []
theorem posR_le (lt : α → α → Bool) (x : α) (out : List α) : ∀ k, posR lt x out k ≤ k
  | 0 => Nat.le_refl _
  | k + 1 => by
    unfold posR
    split
    · exact Nat.le_succ_of_le (posR_le lt x out k)
    · exact Nat.le_refl _
theorem insR_perm (lt : α → α → Bool) (out : List α) (x : α) : (insR lt out x).Perm (x :: out) := by
  unfold insR
  have h1 : (out.take (posR lt x out out.length) ++ [x] ++ out.drop (posR lt x out out.length)).Perm ([x] ++ out.take (posR lt x out out.length) ++ out.drop (posR lt x out out.length)) := List.Perm.append_right _ List.perm_append_comm
  refine h1.trans ?_
  rw [List.append_assoc, List.take_append_drop]
  exact List.Perm.refl _
theorem foldR_perm (lt : α → α → Bool) : ∀ (l out : List α), (l.foldl (insR lt) out).Perm (l ++ out)
  | [], out => List.Perm.refl _
  | x :: l, out => by
    rw [List.foldl_cons]
    refine (foldR_perm lt l _).trans ?_
    refine (List.Perm.append_left l (insR_perm lt out x)).trans ?_
    exact List.perm_middle
theorem sortR_perm (lt : α → α → Bool) (l : List α) : (sortR lt l).Perm l := by
  have := foldR_perm lt l []
  rwa [List.append_nil] at this
theorem posR_congr {lt lt' : α → α → Bool} {x : α} {out : List α} (h : ∀ y ∈ out, lt x y = lt' x y) : ∀ k, posR lt x out k = posR lt' x out k
  | 0 => rfl
  | k + 1 => by
    unfold posR
    have e : ltAt lt x out k = ltAt lt' x out k := by
      unfold ltAt
      cases hk : out[k]? with
      | none => rfl
      | some y => exact h y (List.mem_of_getElem? hk)
    rw [e, posR_congr h k]
theorem foldR_congr {lt lt' : α → α → Bool} : ∀ {l out : List α}, (∀ x ∈ l, ∀ y ∈ out, lt x y = lt' x y) → l.Pairwise (fun y x => lt x y = lt' x y) → l.foldl (insR lt) out = l.foldl (insR lt') out
  | [], _, _, _ => rfl
  | x :: l, out, h, p => by
    have e : insR lt out x = insR lt' out x := by
      unfold insR
      rw [posR_congr (h x List.mem_cons_self)]
    rw [List.foldl_cons, List.foldl_cons, e]
    have hp := List.pairwise_cons.mp p
    refine foldR_congr (fun z hz y hy => ?_) hp.2
    rcases List.mem_cons.mp ((insR_perm lt' out x).mem_iff.mp hy) with rfl | hy
    · exact hp.1 z hz
    · exact h z (List.mem_cons_of_mem _ hz) y hy
theorem sortR_congr {lt lt' : α → α → Bool} {l : List α} (p : l.Pairwise (fun y x => lt x y = lt' x y)) : sortR lt l = sortR lt' l := foldR_congr (fun _ _ _ h => by cases h) p
theorem posR_map {lt : α → α → Bool} {lt' : β → β → Bool} {f : α → β} (h : ∀ x y, lt x y = lt' (f x) (f y)) (x : α) (out : List α) : ∀ k, posR lt x out k = posR lt' (f x) (out.map f) k
  | 0 => rfl
  | k + 1 => by
    unfold posR
    have e : ltAt lt x out k = ltAt lt' (f x) (out.map f) k := by
      unfold ltAt
      rw [List.getElem?_map]
      cases out[k]? with
      | none => rfl
      | some y => exact h x y
    rw [e, posR_map h x out k]
theorem insR_map {lt : α → α → Bool} {lt' : β → β → Bool} {f : α → β} (h : ∀ x y, lt x y = lt' (f x) (f y)) (x : α) (out : List α) : (insR lt out x).map f = insR lt' (out.map f) (f x) := by
  unfold insR
  rw [List.map_append, List.map_append, List.map_take, List.map_drop, posR_map h, List.length_map]
  rfl
theorem foldR_map {lt : α → α → Bool} {lt' : β → β → Bool} {f : α → β} (h : ∀ x y, lt x y = lt' (f x) (f y)) : ∀ (l out : List α), (l.foldl (insR lt) out).map f = (l.map f).foldl (insR lt') (out.map f)
  | [], _ => rfl
  | x :: l, out => by
    rw [List.foldl_cons, List.map_cons, List.foldl_cons, foldR_map h l, insR_map h]
theorem sortR_map {lt : α → α → Bool} {lt' : β → β → Bool} {f : α → β} (h : ∀ x y, lt x y = lt' (f x) (f y)) (l : List α) : (sortR lt l).map f = sortR lt' (l.map f) := foldR_map h l []
theorem sortR_take {lt : α → α → Bool} {l : List α} {i : Nat} {x : α} (h : l[i]? = some x) : sortR lt (l.take (i + 1)) = insR lt (sortR lt (l.take i)) x := by
  unfold sortR
  rw [List.take_add_one, h, List.foldl_append]
  rfl
end
end S
namespace S
open PySem PySem.Spec PyProof.Rows L2
section
variable {X : Cx} {K : Frag}
theorem ps_fldaugK {o value : Expr} {f : Str} {tpos pos : Pos} {ta tv : TE} {op : Operator} {rd : V → V → Hp → VK → Prop} (hK : X.K = K) (ha : PE X o ta) (hv : PE X value tv) (hop : InOp X op rd) : PS X (.AugAssign (.Attribute o f tpos) op value pos) (sFldAug K ta tv rd f) := hK ▸ ps_fldaug ha hv hop
theorem pi_enumK {e : Expr} {ta : TA} {p pos tpos : Pos} {elts : List Expr} {kk : Nat} (hK : X.K = K) (hg : Gl X "enumerate") (hm : X.mg "enumerate" = none) (ha : PA X [e] ta) (hs : starEach [e] X.env = [(false, eval e X.env)] := by rfl) :
    PI X (.Tuple elts kk tpos) (.Call (.Name "enumerate" p) [e] [] pos) (iEnum K ta) := hK ▸ pi_enum hg hm ha hs
end
end S
namespace S
open PySem PySem.Spec PyProof.Rows L2
/-! list(d.values()) -/
def rListVals : V → Hp → VK → Prop := fun x H Q => ∃ (d : Addr) (kvs : List (Key × V)), x = .ref d ∧ H d = some (.dK kvs) ∧ ∀ p, H p = none → Q (.ref p) (upd H p (.lst (kvs.map Prod.snd)))
theorem LiIx.paired_get {α β : Type} {F : α → β → Prop} : ∀ {xs : List α} {ys : List β}, Paired F xs ys → ∀ {i : Nat} {x : α}, xs[i]? = some x → ∃ y, ys[i]? = some y ∧ F x y
  | _, _, .nil, i, x, h => by cases h
  | _, _, .cons r t, 0, x, h => by
    have e := Option.some.inj h
    subst e
    exact ⟨_, rfl, r⟩
  | _, _, .cons r t, i + 1, x, h => LiIx.paired_get t h
def tListVals (te : TE) : TE := fun σ H Q => te σ H fun x H1 => rListVals x H1 Q
theorem pe_listVals {X : Cx} {e : Expr} {te : TE} {p apos cpos pos : Pos} (hc : X.calm = true) (hg : Gl X "list") (hm : X.mg "list" = none) (he : PE X e te) (hbase : attributeBase e "values" X.env (eval e X.env) = eval e X.env := by rfl) (hline : (apos.endLine == cpos.line) = true := by rfl)
    (hs : starEach [.Call (.Attribute e "values" apos) [] [] cpos] X.env = (false, eval (.Call (.Attribute e "values" apos) [] [] cpos) X.env) :: starEach [] X.env := by rfl) :
    PE X (.Call (.Name "list" p) [.Call (.Attribute e "values" apos) [] [] cpos] [] pos) (tListVals te) := by
  refine ⟨fun pins s σ H Q I hq => ?_⟩
  refine wpAny_Call_Name_kw (ld_blt I hg hm boot_list ?_)
  refine PyProof.Rows.callWith_type1 ?_ hs rfl
  rw [hs]
  show wpAny _ _ (spliced ((false, eval (.Call (.Attribute e "values" apos) [] [] cpos) X.env) :: backTo pos (starEach [] X.env))) _ _ s
  refine Calls.spliced_cons ?_
  refine wpAny_Call_method (T := "dict") (id := "dict.values") hbase rfl hline F.plainAttrs_dict F.slot_dict_values F.type_dict_values (thn (he.run pins s σ H _ I hq) fun u s1 ⟨x, H1, I1, rx, d, kvs, ex, hd, q⟩ => ?_)
  subst ex
  obtain rfl : u = Value.ref d := rx
  obtain ⟨hz, hs0, vs, kv, hdo⟩ := I1.hok d _ hd
  obtain ⟨ep, hat⟩ := hdo.dictAt
  have lk : kvs.length = vs.length := Paired.length kv
  have I2 : Inv X pins σ H1 { s1 with heap := s1.heap.push { cls := .type "dict_values", data := .fields #[.ref d] } } := I1.kept (t' := s1.toks) fun b ob q => Heap.get?_push_of_some _ q
  refine ⟨hdo.typeIs, hdo.mapOf.noDict, ?_⟩
  show wpAny _ _ (callWith cpos (.builtin "dict.values") [.ref d] [] []) _ X.xe s1
  refine method_meetsIn F.slot_dict_values F.entry_dict_values rfl (PySem.evalArgs_none ⟨rfl, hdo.typeIs, F.args_dict_values_1 _, _, meets_dict_values (mixKind X.prog X.w) d hs0, ⟨vs, hdo⟩, ?_⟩)
  refine Calls.spliced_nil ?_
  refine PySem.W.kdl_call (PySem.W.kdl_values (knd := mixKind X.prog X.w) (kvs := vs) (ep := ep)) (I1.ok.hd hc) ⟨⟨_, Heap.get?_push_size _ rfl, rfl, rfl⟩, hat.push _⟩ (by rw [← lk]; exact hz) fun h' tk acc' c' hkeep hS hacc => ?_
  refine ⟨.ref _, upd H1 _ (.lst (kvs.map Prod.snd)), I2.laid hkeep (Nat.le_refl _) (show ObjOk X.prog X.w _ _ _ (.lst (kvs.map Prod.snd)) from ⟨?_, acc'.toList, c', ?_, ?_⟩), rfl, q _ (I2.hok.fresh (Nat.le_refl _))⟩
  · rw [List.length_map]; exact hz
  · have el : acc'.toList.length = acc'.size := by simp
    refine vals_of_at (by rw [List.length_map, el, hacc.1, lk]) fun j x w h1 h2 => ?_
    obtain ⟨k, hky⟩ := hacc.2 j w (by rw [← Array.getElem?_toList]; exact h2)
    rw [List.getElem?_map] at h1
    obtain ⟨pk, hpk, rfl⟩ := Option.map_eq_some_iff.mp h1
    obtain ⟨qv, g1, g2, g3⟩ := LiIx.paired_get kv hpk
    rw [hky] at g1
    cases g1
    exact g3
  · rw [Array.toArray_toList]; exact hS
/-! [f a for x in xs if c a], from rows of data -/
section
variable {J : It} {H0 : Hp} {D : Addr} {tt : TT} {te : TE} {vs : List Nat} {σ : L2.St} {Qd : Hp → Prop} {i : Nat}
theorem lc_fmA {α : Type} {as : List α} {v : α → V} (wk : Walk J (as.map v).length (fun H => Same H0 H) (YAt (as.map v))) (c : α → Bool) (f : α → V) (hf : ∀ a ∈ as, ∀ b ∈ as, v a = v b → c a = c b ∧ f a = f b) (hD : H0 D = none) (ln : as.length ≤ 1000) (w0 : ∀ x, wipe ((wipe σ vs).set i (some x)) vs = wipe σ vs)
    (tst : ∀ (a : α) (H : Hp) (B : Bool → Hp → Prop), a ∈ as → Same H0 H → (∀ H', Same H H' → B (c a) H') → tt ((wipe σ vs).set i (some (v a))) H B)
    (el : ∀ (a : α) (H : Hp) (Z : V → Hp → Prop), a ∈ as → Same H0 H → (∀ H', Same H H' → Z (f a) H') → te ((wipe σ vs).set i (some (v a))) H Z)
    (q : ∀ H, Same H0 H → H D = some (.lst ((as.filter c).map f)) → Qd H) :
    ∃ W : Nat → Nat → Hp → Prop, (∃ m, W 0 m (upd H0 D (.lst []))) ∧ ∀ k m H, W k m H →
      (J.stop k H ∧ Qd H) ∨ (J.go k H ∧ ∃ Nx : Hp → Prop, (∀ H', Nx H' → ∃ m', m' < m ∧ W (k + 1) m' H') ∧ ∀ x H', J.yld k H x H' → gName i x (wipe σ vs) H' fun σ2 H2 => wipe σ2 vs = wipe σ vs ∧ tt σ2 H2 fun b H3 =>
        if b = true then te σ2 H3 fun y H4 => ∃ acc, H4 D = some (.lst acc) ∧ acc.length < sizeLine ∧ Nx (upd H4 D (.lst (acc ++ [y]))) else Nx H3) := by
  classical
  let F : V → V := fun x => if h : ∃ a ∈ as, v a = x then f h.choose else .non
  let C : V → Bool := fun x => if h : ∃ a ∈ as, v a = x then c h.choose else false
  have hF : ∀ a ∈ as, F (v a) = f a := fun a ha => by
    have h : ∃ b ∈ as, v b = v a := ⟨a, ha, rfl⟩
    show (if h : ∃ b ∈ as, v b = v a then f h.choose else .non) = f a
    rw [dif_pos h]
    exact (hf _ h.choose_spec.1 _ ha h.choose_spec.2).2
  have hC : ∀ a ∈ as, C (v a) = c a := fun a ha => by
    have h : ∃ b ∈ as, v b = v a := ⟨a, ha, rfl⟩
    show (if h : ∃ b ∈ as, v b = v a then c h.choose else false) = c a
    rw [dif_pos h]
    exact (hf _ h.choose_spec.1 _ ha h.choose_spec.2).1
  refine lc_fm wk C F hD (by rw [List.length_map]; exact ln) w0 (fun x H Z hx s z => ?_) (fun x H Z hx s z => ?_) fun H s e => q H s ?_
  · obtain ⟨a, ha, rfl⟩ := List.mem_map.mp hx
    rw [hC a ha] at z
    exact tst a H Z ha s z
  · obtain ⟨a, ha, rfl⟩ := List.mem_map.mp hx
    rw [hF a ha] at z
    exact el a H Z ha s z
  · rw [e, List.filter_map, List.map_map]
    congr 2
    have e1 : as.filter (C ∘ v) = as.filter c := List.filter_congr fun a ha => hC a ha
    rw [e1]
    exact List.map_congr_left fun a ha => hF a ((List.mem_filter.mp ha).1)
end
end S
namespace S
open PySem PySem.Spec PyProof.Rows L2
/-! ### enumerate over a list or a tuple that stands -/
section
open PySem.Calls
set_option maxHeartbeats 1000000 in
theorem meets_enum1 {v : Value} {o : Obj} {H : Heap → Prop} (B : Begins v o H) :
    Meets (Builtin.«enumerate.__new__» ⟨[.type "enumerate", v], []⟩) (fun _ R s => H s.heap ∧
      R (.ok (.ret (.ref (s.heap.push o).objs.size))) { s with heap := (s.heap.push o).push { cls := .type "enumerate", data := .fields #[.none, .bool false, .ref s.heap.objs.size, rawInt 0, .none, .none] } }) :=
  .of_wp fun prog w A R s h => by
    obtain ⟨hp, g, d, tk, os⟩ := s; obtain ⟨h1, h⟩ := h
    have hsub := sub_enumerate
    have q1 : ∀ {A' : Around} {E : Value → Shared → Prop} {Q : Value → Shared → Prop}, Q (.ref hp.objs.size) ⟨hp.push o, g, d, tk, os⟩ → wpAny (model prog w) A' (pyIter v) Q E ⟨hp, g, d, tk, os⟩ :=
      fun q => B.iter prog w _ _ ⟨hp, g, d, tk, os⟩ _ h1 q
    wp_walk using q1
    refine wpAny_stack_any fun st => wpAny_pure ?_
    split
    · rename_i c _ _ _ _ _
      cases (c == Value.type "enumerate")
      · wp_walk using q1
        exact ⟨_, rfl, h⟩
      · wp_walk using q1
        exact ⟨_, rfl, h⟩
    · wp_walk using q1
      exact ⟨_, rfl, h⟩
theorem enum_begins1 {prog : Program} {w : World} {A : Around} {E : Value → Shared → Prop} {s : Shared} {v : Value} {o : Obj} {H : Heap → Prop} {Q : Value → Shared → Prop} (B : Begins v o H) (h1 : H s.heap)
    (h : ∀ h', IsEnum h' (s.heap.objs.size + 1) s.heap.objs.size 0 .none → h'.get? s.heap.objs.size = some o → h'.objs.size = s.heap.objs.size + 2 →
      (∀ b o, s.heap.get? b = some o → h'.get? b = some o) → Q (.ref (s.heap.objs.size + 1)) { s with heap := h' }) :
    wpAny (model prog w) A (call (.type "enumerate") [v]) Q E s := by
  refine callType_new F.called_enumerate (by decide) (F.typeCall_enumerate_1 _) (F.newCall_enumerate_1 _) (fun obj => F.args_object_init_2 obj _) F.entry_enumerate_new (meets_enum1 B) ⟨h1, ?_⟩
  have hz : (s.heap.push o).objs.size = s.heap.objs.size + 1 := Heap.size_push ..
  show _ ∧ _
  rw [hz]
  have he : IsEnum ((s.heap.push o).push { cls := .type "enumerate", data := .fields #[.none, .bool false, .ref s.heap.objs.size, rawInt 0, .none, .none] }) (s.heap.objs.size + 1) s.heap.objs.size 0 .none := by
    have := Heap.get?_push_size (s.heap.push o) (o := { cls := .type "enumerate", data := .fields #[.none, .bool false, .ref s.heap.objs.size, rawInt 0, .none, .none] }) rfl
    rw [hz] at this; exact this
  exact ⟨⟨_, he, rfl⟩, h _ he (Heap.get?_push_of_some _ (Heap.get?_push_size _ B.free)) (by rw [Heap.size_push, hz]) fun b o x => Heap.get?_push_of_some _ (Heap.get?_push_of_some _ x)⟩
end
section
variable {K : Frag}
/-- a list (false) or a tuple (true) -/
def SqB (K : Frag) (b : Bool) (H : Hp) (a : Addr) (xs : List V) : Prop := if b then SqT K H a xs else SqL K H a xs
/-- the items as they stand at each turn, each in a new pair with its number from c on -/
def IteC (K : Frag) (b : Bool) (a : Addr) (c : Int) : It :=
  ⟨fun i H => ∃ (xs : List V) (x : V), SqB K b H a xs ∧ xs[i]? = some x, fun i H v H' => ∃ T x, v = .ref T ∧ H T = none ∧ H' = upd H T (.tup [.int (c + (i : Nat)), x]) ∧ ∀ xs, SqB K b H a xs → xs[i]? = some x, fun i H => ∃ xs : List V, SqB K b H a xs ∧ xs.length = i⟩
def srcAt (b : Bool) (it a : Addr) (i : Nat) (h : Heap) : Prop := if b then h.IsTupleIter it a i else h.IsListIter it a i
def srcOf (b : Bool) (a : Addr) (items : Array Value) (h : Heap) : Prop := if b then h.IsTuple a items else h.IsList a items
theorem src_draws {prog : Program} {w : World} {A : Around} (b : Bool) (hh : A.handled = none) (it a : Addr) (hne : a ≠ it) (items : Array Value) :
    Draws prog w A it [it, a] items.size (fun i v => items[i]? = some v) (fun i h => srcAt b it a i h ∧ srcOf b a items h) := by
  cases b with
  | true => exact Draws.tuple hh it a hne items
  | false => exact Draws.list hh it a hne items
theorem src_inv {X : Cx} {pins : List (Addr × Obj)} {σ : L2.St} {H : Hp} {s : Shared} {b : Bool} {a : Addr} {xs : List V} (I : Inv X pins σ H s) (h : SqB X.K b H a xs) : ∃ its, Vals xs its ∧ srcOf b a its.toArray s.heap := by
  cases b with
  | true =>
    obtain ⟨its, rv, p, hz⟩ := I.tuple h
    exact ⟨its, rv, p⟩
  | false =>
    obtain ⟨its, rv, p, hz⟩ := I.list h
    exact ⟨its, rv, p.isList⟩
theorem srcAt.at {b : Bool} {it a : Addr} {i : Nat} {h h' : Heap} (x : srcAt b it a i h) (k : ∀ o, h.get? it = some o → h'.get? it = some o) : srcAt b it a i h' := by
  cases b with
  | true => exact Heap.IsTupleIter.at x k
  | false => exact Heap.IsListIter.at x k
theorem srcAt.obj {b : Bool} {it a : Addr} {i : Nat} {h : Heap} (x : srcAt b it a i h) : ∃ o, h.get? it = some o ∧ ∀ v, o.data ≠ .cell v := by
  cases b with
  | true =>
    obtain ⟨o, ho, hc, hd⟩ := x
    exact ⟨o, ho, fun v q => by rw [hd] at q; cases q⟩
  | false =>
    obtain ⟨o, ho, hc, hd⟩ := x
    exact ⟨o, ho, fun v q => by rw [hd] at q; cases q⟩
theorem sqB_inj {X : Cx} {pins : List (Addr × Obj)} {σ : L2.St} {H : Hp} {s : Shared} {b : Bool} {a : Addr} {xs ys : List V} (I : Inv X pins σ H s) (h : SqB X.K b H a xs) (h' : SqB X.K b H a ys) : xs = ys := by
  cases b with
  | true => exact I.tuple_inj h h'
  | false => exact I.list_inj h h'
theorem turn_enumC {P : Program} {w : World} {elts : List Expr} {kk : Nat} {tpos : Pos} (b : Bool) (a e it : Addr) (c : Int) :
    Turn P w K (.Tuple elts kk tpos) (IteC K b a c) [e, it] e (fun i h => (∃ old, IsEnum h e it (c + (i : Nat)) old) ∧ srcAt b it a i h ∧ e ≠ it ∧ a ≠ it ∧ e ≠ a) where
  mem := by simp
  obj := fun i h st b' hb => by
    obtain ⟨⟨old, he⟩, hs, _⟩ := st
    have e' : b' = e ∨ b' = it := by simpa using hb
    rcases e' with z | z
    · rw [z]; exact ⟨_, he, fun v q => nomatch q⟩
    · rw [z]; exact hs.obj
  keep := fun i h h' st k => let ⟨⟨old, he⟩, hi, hne⟩ := st; ⟨⟨old, k e (by simp) _ he⟩, hi.at fun o q => k it (by simp) o q, hne⟩
  item := by
    intro X hP hw hK hc i pins s σ H E I hf st hg
    subst hP hw hK
    obtain ⟨⟨old, he⟩, hit, hne, hai, hea⟩ := st
    obtain ⟨xs, x, hq, hx⟩ := hg
    obtain ⟨its, rv, p⟩ := src_inv I hq
    obtain ⟨u, hu, ru⟩ := rv.get hx
    have hel : e < s.heap.objs.size := Heap.lt_size he
    have hil : it < s.heap.objs.size := by obtain ⟨_, q, _⟩ := hit.obj; exact Heap.lt_size q
    have hlt : i < its.toArray.size := by simpa using (List.getElem?_eq_some_iff.mp hu).1
    refine wpAny_pyNext_enum_itemC (src_draws (A := X.A.in1) b (show X.A.in1.handled = none from I.ok.hd hc) it a hai its.toArray) he ⟨hit, p⟩ hlt hne (by simp [hne, hea]) fun u' h' tk hPu ho hst' hT hsz hk => ?_
    have eu : u' = u := by
      have h1 : its[i]? = some u' := by simpa using hPu
      rw [hu] at h1
      injection h1 with h1
      exact h1.symm
    subst eu
    refine ⟨_, rfl, wpAny_letOwnedTupleGo_enum (s := { s with heap := h', toks := tk + 1 }) ho fun h'' he' sb => ?_⟩
    have hT2 : h''.get? s.heap.objs.size = some { cls := .type "tuple", data := .seq #[.int (c + (i : Nat)) tk, u'] } := (sb.2 _ (Nat.ne_of_gt hel)).trans hT
    have new : ObjOk X.prog X.w (upd H s.heap.objs.size (.tup [.int (c + (i : Nat)), x])) h'' s.heap.objs.size (.tup [.int (c + (i : Nat)), x]) :=
      ⟨by show 2 ≤ sizeLine; decide, [.int (c + (i : Nat)) tk, u'], .cons ⟨_, rfl⟩ (.cons ru .nil), ⟨_, hT2, rfl, _, rfl⟩⟩
    have I1 : Inv X pins σ (upd H s.heap.objs.size (.tup [.int (c + (i : Nat)), x])) { s with heap := h'', toks := tk + 1 } :=
      I.turnedNew (ch := [e, it]) (fun b ob hb q => (sb.2 b (fun z => hb (by simp [z]))).trans (hk b ob (fun z => hb (by simp [z])) (fun z => hb (by simp [z])) q)) hf (Nat.le_refl _) new
    refine ⟨.ref s.heap.objs.size, _, I1, rfl, ⟨_, x, rfl, I.hok.fresh (Nat.le_refl _), rfl, fun ys hy => by rw [sqB_inj I hy hq]; exact hx⟩, ⟨⟨u', ?_⟩, hst'.1.at fun o q => (sb.2 it (Ne.symm hne)).trans q, hne, hai, hea⟩, fun b hb => ?_⟩
    · have e1 : c + ((i + 1 : Nat) : Int) = c + (i : Nat) + 1 := by omega
      rw [e1]; exact he'
    · have hb' : b < s.heap.objs.size := by
        have e' : b = e ∨ b = it := by simpa using hb
        rcases e' with z | z
        · rw [z]; exact hel
        · rw [z]; exact hil
      rw [upd_ne (Nat.ne_of_lt hb')]
      exact (hf b hb).1
  done := by
    intro X hP hw hK hc i pins s σ H E I hf st hg
    subst hP hw hK
    obtain ⟨⟨old, he⟩, hit, hne, hai, hea⟩ := st
    obtain ⟨xs, hq, hx⟩ := hg
    obtain ⟨its, rv, p⟩ := src_inv I hq
    obtain ⟨f0, f1, f2, f3, f4, f5⟩ := hf it (by simp)
    have hl := rv.length
    have ei : its.toArray.size = i := by simp; omega
    exact wpAny_pyNext_enum_endD (src_draws (A := X.A.in1) b (show X.A.in1.handled = none from I.ok.hd hc) it a hai its.toArray) he (by rw [ei]; exact ⟨hit, p⟩) fun h' eb => ⟨rfl, I.turned (t' := s.toks) (fun b o hb q => eb b o hb q) f0 f1 f3 f4 f5⟩
  self := fun A i s Q E st h => let ⟨⟨_, he⟩, _⟩ := st; wpAny_pyIter_enum he h
/-- at turn i: a new pair of c + i and the item -/
def YEn (c : Int) (xs : List V) : Nat → Hp → V → Hp → Prop := fun i H v H' => ∃ T x, v = .ref T ∧ H T = none ∧ H' = upd H T (.tup [.int (c + (i : Nat)), x]) ∧ xs[i]? = some x
def iEnX (K : Frag) (c : Int) (ta : TA) : TI := fun σ H R => ta σ H fun vs H1 => ∃ a xs, vs = [.ref a] ∧ (SqL K H1 a xs ∨ SqT K H1 a xs) ∧ ∀ J, Walk J xs.length (fun H => Same H1 H) (YEn c xs) → R J H1
theorem sqB_same {b : Bool} {H H' : Hp} {a : Addr} {xs : List V} (h : SqB K b H a xs) (s : Same H H') : SqB K b H' a xs := by
  cases b with
  | true => exact sqT_same h s
  | false => exact sqL_same h s
theorem walk_enumC {b : Bool} {a : Addr} {xs : List V} {c : Int} {H1 : Hp} (h : SqB K b H1 a xs) : Walk (IteC K b a c) xs.length (fun H => Same H1 H) (YEn c xs) :=
  ⟨fun i H hi s => ⟨xs, xs[i], sqB_same h s, List.getElem?_eq_getElem hi⟩, fun H s => ⟨xs, sqB_same h s, rfl⟩, fun i H v H' hi s y => let ⟨T, x, h1, h2, h3, h4⟩ := y; ⟨T, x, h1, h2, h3, h4 xs (sqB_same h s)⟩⟩
theorem pi_enumX {X : Cx} {e : Expr} {ta : TA} {p pos tpos : Pos} {elts : List Expr} {kk : Nat} (hK : X.K = K) (hg : Gl X "enumerate") (hm : X.mg "enumerate" = none) (ha : PA X [e] ta) (hs : starEach [e] X.env = [(false, eval e X.env)] := by rfl) :
    PI X (.Tuple elts kk tpos) (.Call (.Name "enumerate" p) [e] [] pos) (iEnX K 0 ta) := by
  subst hK
  refine ⟨fun pins s σ H R I h => ?_⟩
  refine Call_ (ld_blt I hg hm boot_enumerate (PyProof.Rows.callWith_type1 (thn (ha.run pos pins s σ H _ I h) fun us s1 ⟨vs, H1, I1, r1, q1⟩ => ?_) hs rfl))
  obtain ⟨a, xs, ex, hq, q⟩ := q1
  subst ex
  cases r1 with
  | cons r rr =>
    cases rr
    cases r
    have fin : ∀ (b : Bool) (h' : Heap), SqB X.K b H1 a xs → IsEnum h' (s1.heap.objs.size + 1) s1.heap.objs.size 0 .none → srcAt b s1.heap.objs.size a 0 h' → a < s1.heap.objs.size → (∀ b o, s1.heap.get? b = some o → h'.get? b = some o) → PIE X pins σ (.Tuple elts kk tpos) R (.ref (s1.heap.objs.size + 1)) { s1 with heap := h' } := fun b h' hB he hit hlt hk => by
      have I2 : Inv X pins σ H1 { s1 with heap := h' } := I1.kept (t' := s1.toks) hk
      refine ⟨s1.heap.objs.size + 1, [s1.heap.objs.size + 1, s1.heap.objs.size], _, IteC X.K b a 0, H1, rfl, I2, turn_enumC b a (s1.heap.objs.size + 1) s1.heap.objs.size 0, ⟨⟨.none, he⟩, hit, Nat.succ_ne_self _, Nat.ne_of_lt hlt, Nat.ne_of_gt (Nat.lt_succ_of_lt hlt)⟩, fun b hb => ?_, q _ (walk_enumC hB)⟩
      have e' : b = s1.heap.objs.size + 1 ∨ b = s1.heap.objs.size := by simpa using hb
      have hle : s1.heap.objs.size ≤ b := by
        rcases e' with z | z
        · rw [z]; exact Nat.le_add_right _ _
        · rw [z]; exact Nat.le_refl _
      exact I1.fpOk hle (I1.hok.fresh hle)
    rcases hq with hq | hq
    · obtain ⟨its, rv, p', hz⟩ := I1.list hq
      have hL := p'.isList
      refine enum_begins1 (begins_list a its.toArray) hL fun h' he hit hsz hk => wpAny_pyIter_enum he (fin false h' hq he ⟨_, hit, rfl, rfl⟩ (by obtain ⟨_, z, _⟩ := hL; exact Heap.lt_size z) hk)
    · obtain ⟨its, rv, p', hz⟩ := I1.tuple hq
      refine enum_begins1 (begins_tuple a its.toArray) p' fun h' he hit hsz hk => wpAny_pyIter_enum he (fin true h' hq he ⟨_, hit, rfl, rfl⟩ (by obtain ⟨_, z, _⟩ := p'; exact Heap.lt_size z) hk)
/-- a for over enumerate(..) of what stands -/
theorem for_enX {J : It} {xs : List V} {c : Int} {H0 : Hp} (w : Walk J xs.length (fun H => Same H0 H) (YEn c xs)) {g : TG} {tb : TS} {D : Ends} {σ : L2.St} {H : Hp} (Pv : Nat → L2.St → Hp → Prop) (h0 : Pv 0 σ H) (hG : ∀ i σ H, i ≤ xs.length → Pv i σ H → Same H0 H)
    (hs : ∀ i x σ H T, xs[i]? = some x → Pv i σ H → H T = none → g (.ref T) σ (upd H T (.tup [.int (c + (i : Nat)), x])) fun σ2 H2 => tb { D with nx := Pv (i + 1), ct := Pv (i + 1), bk := D.nx } σ2 H2) (hd : ∀ σ H, Pv xs.length σ H → D.nx σ H) :
    ∃ W : Nat → Nat → L2.St → Hp → Prop, (∃ m, W 0 m σ H) ∧ ∀ i m σ H, W i m σ H →
      (J.stop i H ∧ D.nx σ H) ∨ (J.go i H ∧ ∃ N : L2.St → Hp → Prop, (∀ σ' H', N σ' H' → ∃ m', m' < m ∧ W (i + 1) m' σ' H') ∧ ∀ x H', J.yld i H x H' → g x σ H' fun σ2 H2 => tb { D with nx := N, ct := N, bk := D.nx } σ2 H2) :=
  for_it w Pv h0 hG (fun i x σ H H' _ p y => by
    obtain ⟨T, v, rfl, h2, rfl, e⟩ := y
    exact hs i v σ H T e p h2) hd
end
end S
namespace S
open PySem PySem.Spec PyProof.Rows L2
/-! f(e, ..), f an instance of a plain class with its own __call__ -/
def tCallX (C : Addr) (sp : Sp) (E : L2.St → XK) (tf : TE) (t : TA) : TE := fun σ H Q => tf σ H fun y H1 => ∃ a, y = V.ref a ∧ t σ H1 fun vs H2 => (∃ dx fs, H2 a = some (.ins C dx fs)) ∧ sp (V.ref a :: vs) H2 Q (E σ)
theorem pe_callX {X : Cx} {fe e : Expr} {es : List Expr} {pos : Pos} {C g : Addr} {k : Nat} {sp : Sp} {E : L2.St → XK} {tf : TE} {t : TA} (hf : PE X fe tf) (c : StX.CallO X.K C g) (F : FnR X.prog X.w X.K X.mg X.base (L2.CX X.prog X.w) k g sp) (hr : Room k X.A) (hx : ∀ σ, PassesAt (L2.CX X.prog X.w) X σ (E σ)) (ha : PA X (e :: es) t)
    (ht : eval (.Call fe (e :: es) [] pos) X.env = (do callWith pos (← eval fe X.env) [] (backTo pos (starEach (e :: es) X.env)) (backToKw pos (keywordEach [] X.env))) := by rfl)
    (he : starEach (e :: es) X.env = (false, eval e X.env) :: starEach es X.env := by rfl) (hpl : (backTo pos (starEach es X.env)).any (·.1) = false := by rfl) : PE X (.Call fe (e :: es) [] pos) (tCallX C sp E tf t) := by
  refine ⟨fun pins s σ H Q I h => ?_⟩
  refine Call_ (thn (hf.run pins s σ H _ I h) fun u s1 ⟨y, H1, I1, ry, a, ey, q⟩ => ?_) ht
  subst ey
  obtain rfl : u = Value.ref a := ry
  refine StX.callO_with (thn (ha.run pos pins s1 σ H1 _ I1 q) fun us s2 ⟨vs, H2, I2, r, hi, q2⟩ => ?_) he hpl
  obtain ⟨ox, od, J, hd⟩ := StX.insC_at (X := X) I2 (.inr hi)
  exact ⟨⟨C, ox, od, J, hd⟩, wpAny_call (PySem.W.kco_code I2.kIn J hd c.at_ c.fn c.fi (run_at0 (us := .ref a :: us) (vs := .ref a :: vs) F hr I2 (hx σ) (.cons rfl r) q2))⟩
end S
namespace S
open PySem PySem.Spec PyProof.Rows L2
/-! ### enumerate(x, start=k) over a list or a tuple; the walk asks only that it stands -/
section
open PySem.Calls
variable {K : Frag}
def iEnS (K : Frag) (ta tk : TA) : TI := fun σ H R => ta σ H fun vs H1 => tk σ H1 fun zs H2 => ∃ (a : Addr) (xs : List V) (b : Bool) (c : Int), vs = [.ref a] ∧ zs = [.int c] ∧ 0 ≤ c ∧ c < 2 ^ 62 ∧ SqB K b H2 a xs ∧ ∀ J, Walk J xs.length (fun H => SqB K b H a xs) (YEn c xs) → R J H2
theorem walk_enumS {b : Bool} {a : Addr} {xs : List V} {c : Int} : Walk (IteC K b a c) xs.length (fun H => SqB K b H a xs) (YEn c xs) :=
  ⟨fun i H hi s => ⟨xs, xs[i], s, List.getElem?_eq_getElem hi⟩, fun H s => ⟨xs, s, rfl⟩, fun i H v H' hi s y => let ⟨T, x, h1, h2, h3, h4⟩ := y; ⟨T, x, h1, h2, h3, h4 xs s⟩⟩
theorem callWith_typeKw {M : Model} {A : Around} {E : Value → Shared → Prop} {s : Shared} {env : Env} {pos : Pos} {T : String} {e : Expr} {kws : List Keyword} {Q : Value → Shared → Prop}
    (h : wpAny M A (spliced (backTo pos (starEach [e] env))) (fun vs s₁ => wpAny M A (evalAll ((backToKw pos (keywordEach kws env)).map (·.2)))
      (fun kvs s₂ => wpAny M A (call (.type T) vs (((backToKw pos (keywordEach kws env)).filterMap (·.1)).zip kvs)) Q E s₂) E s₁) E s)
    (he : backTo pos (starEach [e] env) = (false, eval e env) :: backTo pos (starEach [] env) := by rfl)
    (hplain : (backTo pos (starEach [e] env)).any (·.1) = false := by rfl)
    (hall : (backToKw pos (keywordEach kws env)).all (·.1.isSome) = true := by rfl)
    (hkw : (backToKw pos (keywordEach kws env)).any (·.1.isNone) = false := by rfl) :
    wpAny M A (callWith pos (.type T) [] (backTo pos (starEach [e] env)) (backToKw pos (keywordEach kws env))) Q E s := by
  unfold callWith
  refine wpAny_bind (wpAny_holding (wpAny_mono (Q := fun a s₁ => wpAny M A (call (.type T) ([] ++ a.pos) a.kw) Q E s₁) ?_ (fun a s₁ h₁ => wpAny_bind (wpAny_standAt ?_)) fun _ _ x => x))
  · rw [he] at h ⊢
    exact evalArgs_kwB hall h
  · simp only [hplain, hkw, Bool.or_false]
    refine wpAny_bind (wpAny_pure ?_)
    exact wpAny_bind (wpAny_mono h₁ (fun r s₂ hr => wpAny_bind (wpAny_holding (wpAny_point (wpAny_pure hr)))) fun _ _ x => x)
theorem pi_enumS {X : Cx} {e e2 : Expr} {ta tk : TA} {p pos tpos kpos : Pos} {elts : List Expr} {kk : Nat} (hK : X.K = K) (hg : Gl X "enumerate") (hm : X.mg "enumerate" = none) (ha : PA X [e] ta) (hk : PK X [⟨some "start", e2, kpos⟩] tk)
    (he : backTo pos (starEach [e] X.env) = (false, eval e X.env) :: backTo pos (starEach [] X.env) := by rfl) (hpl : (backTo pos (starEach [e] X.env)).any (·.1) = false := by rfl) :
    PI X (.Tuple elts kk tpos) (.Call (.Name "enumerate" p) [e] [⟨some "start", e2, kpos⟩] pos) (iEnS K ta tk) := by
  subst hK
  refine ⟨fun pins s σ H R I h => ?_⟩
  refine wpAny_Call_Name_kw (ld_blt I hg hm boot_enumerate (callWith_typeKw (thn (ha.run pos pins s σ H _ I h) fun us s0 ⟨vs, H0, I0, r1, q0⟩ => thn (hk.run pos pins s0 σ H0 _ I0 q0) fun ws s1 ⟨zs, H1, I1, r2, q1⟩ => ?_) he hpl))
  obtain ⟨a, xs, b, c, ex, ez, c0, c1, hq, q⟩ := q1
  subst ex
  subst ez
  cases r1 with
  | cons r rr =>
    cases rr
    cases r
    cases r2 with
    | cons r' rr' =>
      cases rr'
      obtain ⟨tc, rfl⟩ := r'
      have fin : ∀ (h' : Heap), IsEnum h' (s1.heap.objs.size + 1) s1.heap.objs.size c .none → srcAt b s1.heap.objs.size a 0 h' → a < s1.heap.objs.size → (∀ b o, s1.heap.get? b = some o → h'.get? b = some o) → PIE X pins σ (.Tuple elts kk tpos) R (.ref (s1.heap.objs.size + 1)) { s1 with heap := h' } := fun h' he hit hlt hk => by
        have I2 : Inv X pins σ H1 { s1 with heap := h' } := I1.kept (t' := s1.toks) hk
        refine ⟨s1.heap.objs.size + 1, [s1.heap.objs.size + 1, s1.heap.objs.size], _, IteC X.K b a c, H1, rfl, I2, turn_enumC b a (s1.heap.objs.size + 1) s1.heap.objs.size c, ⟨⟨.none, by rw [show c + ((0 : Nat) : Int) = c by omega]; exact he⟩, hit, Nat.succ_ne_self _, Nat.ne_of_lt hlt, Nat.ne_of_gt (Nat.lt_succ_of_lt hlt)⟩, fun b hb => ?_, q _ walk_enumS⟩
        have e' : b = s1.heap.objs.size + 1 ∨ b = s1.heap.objs.size := by simpa using hb
        have hle : s1.heap.objs.size ≤ b := by
          rcases e' with z | z
          · rw [z]; exact Nat.le_add_right _ _
          · rw [z]; exact Nat.le_refl _
        exact I1.fpOk hle (I1.hok.fresh hle)
      cases b with
      | false =>
        obtain ⟨its, rv, p', hz⟩ := I1.list hq
        have hL := p'.isList
        exact enum_begins_start (begins_list a its.toArray) hL (by omega) (by omega) fun h' he hit hsz hk => wpAny_pyIter_enum he (fin h' he ⟨_, hit, rfl, rfl⟩ (by obtain ⟨_, z, _⟩ := hL; exact Heap.lt_size z) hk)
      | true =>
        obtain ⟨its, rv, p', hz⟩ := I1.tuple hq
        exact enum_begins_start (begins_tuple a its.toArray) p' (by omega) (by omega) fun h' he hit hsz hk => wpAny_pyIter_enum he (fin h' he ⟨_, hit, rfl, rfl⟩ (by obtain ⟨_, z, _⟩ := p'; exact Heap.lt_size z) hk)
/-- a for over enumerate(.., start=c) -/
theorem for_enS {J : It} {b : Bool} {a : Addr} {xs : List V} {c : Int} (w : Walk J xs.length (fun H => SqB K b H a xs) (YEn c xs)) {g : TG} {tb : TS} {D : Ends} {σ : L2.St} {H : Hp} (Pv : Nat → L2.St → Hp → Prop) (h0 : Pv 0 σ H) (hG : ∀ i σ H, i ≤ xs.length → Pv i σ H → SqB K b H a xs)
    (hs : ∀ i x σ H T, xs[i]? = some x → Pv i σ H → H T = none → g (.ref T) σ (upd H T (.tup [.int (c + (i : Nat)), x])) fun σ2 H2 => tb { D with nx := Pv (i + 1), ct := Pv (i + 1), bk := D.nx } σ2 H2) (hd : ∀ σ H, Pv xs.length σ H → D.nx σ H) :
    ∃ W : Nat → Nat → L2.St → Hp → Prop, (∃ m, W 0 m σ H) ∧ ∀ i m σ H, W i m σ H →
      (J.stop i H ∧ D.nx σ H) ∨ (J.go i H ∧ ∃ N : L2.St → Hp → Prop, (∀ σ' H', N σ' H' → ∃ m', m' < m ∧ W (i + 1) m' σ' H') ∧ ∀ x H', J.yld i H x H' → g x σ H' fun σ2 H2 => tb { D with nx := N, ct := N, bk := D.nx } σ2 H2) :=
  for_it w Pv h0 hG (fun i x σ H H' _ p y => by
    obtain ⟨T, v, rfl, h2, rfl, e⟩ := y
    exact hs i v σ H T e p h2) hd
end
end S
namespace S
open PySem PySem.Spec PyProof.Rows L2
section
variable {X : Cx} {K : Frag}
/-- l[::-1] -/
theorem pe_revK (hK : X.K = K) {e : Expr} {te : TE} {k : Nat} {p1 p2 p3 pos : Pos} (he : PE X e te) : PE X (.Subscript e (.Slice none none (some (.UnaryOp .USub (.Constant (.int 1) k p1) p2)) p3) pos) (tRevL K te) := hK ▸ pe_revL he
end
end S
namespace S
open PySem PySem.Spec PyProof.Rows L2
/-! text * number; d.copy() -/
section
variable {X : Cx}
def repS (z : Str) (k : Nat) : Str := ⟨(List.replicate k z.cps).foldl (· ++ ·) #[]⟩
theorem rep_size (c : Array Nat) : ∀ (k : Nat) (acc : Array Nat), ((List.replicate k c).foldl (· ++ ·) acc).size = acc.size + c.size * k
  | 0, acc => by simp
  | k + 1, acc => by
    rw [List.replicate_succ, List.foldl_cons, rep_size c k, Array.size_append, Nat.mul_succ]
    omega
theorem repS_len (z : Str) (k : Nat) : (repS z k).length = z.length * k := by
  show ((List.replicate k z.cps).foldl (· ++ ·) #[]).size = z.cps.size * k
  rw [rep_size]
  simp
theorem tooLong_no {n : Nat} (h : n ≤ 1000) : Builtin.Str.tooLong n = false := by
  unfold Builtin.Str.tooLong
  exact decide_eq_false (by have : (1000 : Nat) ≤ sizeLine := by decide
                            omega)
theorem op_rep_str : OpR X (binaryOp .Mult) (fun x y H Q => ∃ (z : Str) (k : Int), x = .str z ∧ y = .int k ∧ 2 ≤ k ∧ 1 ≤ z.length ∧ z.length * k.toNat ≤ 1000 ∧ Q (.str (repS z k.toNat)) H) := by
  intro pins s σ H x y v u Q I rx ry h
  obtain ⟨z, k, rfl, rfl, k2, z1, zk, q⟩ := h
  obtain ⟨t, rfl⟩ := rx
  obtain ⟨t', rfl⟩ := ry
  have kk : k.toNat ≤ 1000 := Nat.le_trans (Nat.le_mul_of_pos_left _ z1) zk
  have zi : (z.length : Int) * k ≤ 1000 := by
    have : ((z.length * k.toNat : Nat) : Int) ≤ 1000 := by omega
    rw [Int.natCast_mul, Int.toNat_of_nonneg (by omega)] at this
    exact this
  refine P.mul_str (by simp; omega) (fun _ _ => ?_) (fun _ _ => ?_) ?_
  · have : (z.length : Int) ≤ (2 ^ 63 - 1) / k := by
      rw [Int.le_ediv_iff_mul_le (by omega)]
      omega
    omega
  · exact tooLong_no zk
  · rw [if_neg (by omega), if_neg (by simp; omega)]
    exact ⟨Nat.le_trans (show (repS z k.toNat).length ≤ 1000 by rw [repS_len]; exact zk) (by decide), ⟨.str (repS z k.toNat), H, I.tok _, ⟨_, rfl⟩, q⟩⟩
def rDCopy : V → List V → Hp → VK → Prop := fun x xs H Q => ∃ a kvs, x = .ref a ∧ xs = [] ∧ H a = some (.dK kvs) ∧ ∀ p, H p = none → Q (.ref p) (upd H p (.dK kvs))
theorem mt_dcopy : MtR X "dict.copy" rDCopy := by
  intro pins s σ H x vs v us Q I rx rv h
  obtain ⟨a, kvs, rfl, rfl, hH, q⟩ := h
  cases rx
  have hus := rv.zero
  subst hus
  obtain ⟨z, hd, vs, rel, dd⟩ := dk_rd I.hok (.inl hH)
  refine call_meetsIn PySem.F.slot_dict_copy dd.typeIs PySem.F.entry_dict_copy (PySem.F.args_dict_copy_1 _) (meets_dict_copy (mixKind X.prog X.w) a hd) ⟨vs, dd, by rw [← rel.length]; exact z, fun h' dd' _ hs => ?_⟩
  refine ⟨.ref _, upd H s.heap.objs.size (.dK kvs), ?_, rfl, q _ (I.hok.fresh (Nat.le_refl _))⟩
  exact I.laid (a := s.heap.objs.size) (o := .dK kvs) (t' := s.toks) (fun b q hq => hs b q hq) (Nat.le_refl _) (dk_new z (beq_eq_false_iff_ne.mpr (Ne.symm (Nat.ne_of_lt I.big))) rel dd')
end
end S
namespace S
open PySem PySem.Spec PyProof.Rows L2
/-! ### dicts whose keys are tuples of ints, bools, texts and None -/
/-- a plain item of a key -/
def flV : V → Bool
  | .non => true
  | .bl _ => true
  | .int _ => true
  | .str _ => true
  | _ => false
def nkV : V → NestedKey
  | .bl b => .num (if b = true then 1 else 0)
  | .int i => .num i
  | .str x => .text x
  | _ => .none
def nkL (xs : List V) : NestedKey := .tup (xs.map nkV)
abbrev DxE := List V × Addr × V
def DxR (p : DxE) (q : NestedKey × Addr × Value) : Prop := q.1 = nkL p.1 ∧ q.2.1 = p.2.1 ∧ RelV p.2.2 q.2.2
/-- the dict at d: its keys, where their tuples stand, its values -/
def DXo (P : Program) (w : World) (kvs : List DxE) (d : Addr) : HO := .ext fun h => kvs.length ≤ sizeLine ∧ (d == sysModules) = false ∧ ∃ xs : List (NestedKey × Addr × Value), Paired DxR kvs xs ∧
  ∃ o es ep, h.get? d = some o ∧ o.ExactDict ∧ o.data = .dict es ep ∧ es.toList = xs.map (entryOfKey (nestedKind P w)) ∧ (xs.map (·.1)).Nodup
def KeysAt (H : Hp) (kvs : List DxE) : Prop := ∀ e ∈ kvs, (∀ v ∈ e.1, flV v = true) ∧ H e.2.1 = some (.tup e.1)
theorem KeysAt.same {H H' : Hp} {kvs : List DxE} (h : KeysAt H kvs) (s : Same H H') : KeysAt H' kvs := fun e he => ⟨(h e he).1, s _ _ (h e he).2⟩
def dxGet (kvs : List DxE) (k : List V) : Option V := (kvs.find? fun e => decide (nkL e.1 = nkL k)).map (·.2.2)
def dxPut (kvs : List DxE) (k : List V) (b : Addr) (v : V) : List DxE := if (dxGet kvs k).isSome then kvs.map fun e => if nkL e.1 = nkL k then (e.1, e.2.1, v) else e else kvs ++ [(k, b, v)]
section
variable {P : Program} {w : World} {H : Hp} {h : Heap} {d b : Addr} {kvs : List DxE}
theorem nk_all : ∀ {xs : List V} {us : List Value}, Vals xs us → (∀ v ∈ xs, flV v = true) → NestedAll h (xs.map nkV) us := by
  intro xs us r
  induction r with
  | nil => intro _; exact .nil
  | @cons x u xs us hx _ ih =>
    intro f
    refine .cons ?_ (ih fun v hv => f v (List.mem_cons_of_mem _ hv))
    have f1 := f x List.mem_cons_self
    cases x with
    | non => cases hx; exact .none
    | bl c => cases hx; exact .bool rfl
    | int i => obtain ⟨t, rfl⟩ := hx; exact .int i t
    | str z => obtain ⟨t, rfl⟩ := hx; exact .text z t
    | _ => cases f1
theorem nk_depth (xs : List V) : (nkL xs).depth ≤ 8 := by
  have h1 : ∀ x : V, (nkV x).depth ≤ 7 := fun x => by cases x <;> exact Nat.zero_le _
  have h2 : ∀ xs : List V, NestedKey.depthAll (xs.map nkV) ≤ 7 := by
    intro xs
    induction xs with
    | nil => exact Nat.zero_le _
    | cons x xs ih =>
      rw [List.map_cons]
      unfold NestedKey.depthAll
      exact Nat.max_le.mpr ⟨h1 x, ih⟩
  unfold nkL NestedKey.depth
  have := h2 xs
  omega
theorem nk_is (ok : HOk P w H h) {xs : List V} (e : H b = some (.tup xs)) (f : ∀ v ∈ xs, flV v = true) : (nestedKind P w).is h (nkL xs) b := by
  obtain ⟨_, its, r, o, h1, h2, n, h3⟩ := (show ObjOk P w H h b (.tup xs) from ok b _ e)
  exact ⟨.tup h1 h2 h3 (by simpa using nk_all r f), nk_depth xs⟩
theorem dx_of (ok : HOk P w H h) (e : Rd H d (DXo P w kvs d)) (t : KeysAt H kvs) : kvs.length ≤ sizeLine ∧ (d == sysModules) = false ∧ ∃ xs, Paired DxR kvs xs ∧ h.DictOfH (nestedKind P w) d xs := by
  obtain ⟨⟨z, y, xs, r, o, es, ep, h1, h2, h3, h4, h5⟩, _⟩ := (show ObjOk P w H h d (DXo P w kvs d) from rd_of ok e)
  refine ⟨z, y, xs, r, o, es, ep, h1, h2, h3, h4, fun x hx => ?_, h5⟩
  have all : ∀ {l : List DxE} {m : List (NestedKey × Addr × Value)}, Paired DxR l m → KeysAt H l → ∀ x ∈ m, (nestedKind P w).is h x.1 x.2.1 := by
    intro l m q
    induction q with
    | nil => intro _ x hx; exact nomatch hx
    | @cons p q ps qs hq t ih =>
      intro k x hx
      rcases List.mem_cons.mp hx with e | hx
      · subst e
        obtain ⟨k1, k2⟩ := k p List.mem_cons_self
        rw [hq.1, hq.2.1]
        exact nk_is ok k2 k1
      · exact ih (fun e he => k e (List.mem_cons_of_mem _ he)) x hx
  exact all r t x hx
theorem dx_val {xs : List (NestedKey × Addr × Value)} (r : Paired DxR kvs xs) (k : List V) : RelO (dxGet kvs k) ((atKey xs (nkL k)).map (·.2)) := by
  unfold dxGet atKey
  induction r with
  | nil => exact True.intro
  | @cons p q ps qs hq t ih =>
    rw [List.find?_cons, List.find?_cons, hq.1]
    by_cases c : nkL p.1 = nkL k
    · rw [decide_eq_true c]
      exact hq.2.2
    · rw [decide_eq_false c]
      exact ih
theorem dx_none {xs : List (NestedKey × Addr × Value)} (r : Paired DxR kvs xs) (k : List V) : (dxGet kvs k).isSome = (atKey xs (nkL k)).isSome := by
  have := (dx_val r k).isSome_eq
  rw [Option.isSome_map] at this
  exact this
theorem dxPut_len (kvs : List DxE) (k : List V) (b : Addr) (v : V) : (dxPut kvs k b v).length ≤ kvs.length + 1 := by
  unfold dxPut
  split
  · rw [List.length_map]; omega
  · rw [List.length_append]; exact Nat.le_refl _
theorem dx_put {xs : List (NestedKey × Addr × Value)} (r : Paired DxR kvs xs) (k : List V) (b : Addr) {v : V} {u : Value} (rv : RelV v u) : Paired DxR (dxPut kvs k b v) (storedH xs (nkL k) b u) := by
  have e := dx_none r k
  unfold dxPut storedH
  rw [e]
  by_cases q : (atKey xs (nkL k)).isSome = true
  · rw [if_pos q, if_pos q]
    clear e q
    induction r with
    | nil => exact .nil
    | @cons p q ps qs hq t ih =>
      refine .cons ?_ ih
      show DxR (if nkL p.1 = nkL k then (p.1, p.2.1, v) else p) (putAt (nkL k) u q)
      unfold putAt
      by_cases c : nkL p.1 = nkL k
      · rw [if_pos c, if_pos (hq.1.trans c)]
        exact ⟨hq.1, hq.2.1, rv⟩
      · rw [if_neg c, if_neg (fun z => c (hq.1.symm.trans z))]
        exact hq
  · rw [if_neg q, if_neg q]
    exact Paired.snoc r ⟨rfl, rfl, rv⟩
theorem dx_new {xs : List (NestedKey × Addr × Value)} (z : kvs.length ≤ sizeLine) (y : (d == sysModules) = false) (r : Paired DxR kvs xs) (m : h.DictOfH (nestedKind P w) d xs) : ObjOk P w H h d (DXo P w kvs d) := by
  obtain ⟨o, es, ep, h1, h2, h3, h4, _, h5⟩ := m
  refine ⟨⟨z, y, xs, r, o, es, ep, h1, h2, h3, h4, h5⟩, ⟨o, h1⟩, fun g1 g2 p k => ?_⟩
  obtain ⟨z, y, xs, r, o, es, ep, h1, h2⟩ := p
  exact ⟨z, y, xs, r, o, es, ep, k o h1, h2⟩
theorem dx_empty (h : Heap) (hb : sysModules < h.objs.size) : ObjOk P w H (h.push { cls := .type "dict", data := .dict #[] }) h.objs.size (DXo P w [] h.objs.size) :=
  dx_new (Nat.zero_le _) (beq_eq_false_iff_ne.mpr (Ne.symm (Nat.ne_of_lt hb))) .nil (Heap.DictOfH.new h)
end
/-! the rules -/
/-- {}: a dict of this kind -/
def tDNewX (P : Program) (w : World) : TE := fun _ H Q => ∀ p, H p = none → Q (.ref p) (upd H p (DXo P w [] p))
/-- the tuple at b is the key ks -/
def KeyAt (H : Hp) (b : Addr) (ks : List V) : Prop := H b = some (.tup ks) ∧ ∀ v ∈ ks, flV v = true
def rInX (P : Program) (w : World) (neg : Bool) : V → V → Hp → VK → Prop := fun x y H Q => ∃ (b d : Addr) (ks : List V) (kvs : List DxE), x = .ref b ∧ KeyAt H b ks ∧ y = .ref d ∧ Rd H d (DXo P w kvs d) ∧ KeysAt H kvs ∧
  Q (.bl (if neg then !(dxGet kvs ks).isSome else (dxGet kvs ks).isSome)) H
def tDGetX (P : Program) (w : World) (td ty : TE) : TE := fun σ H Q => td σ H fun x H1 => ty σ H1 fun y H2 => ∃ (b d : Addr) (ks : List V) (kvs : List DxE) (v : V), x = .ref d ∧ Rd H2 d (DXo P w kvs d) ∧ KeysAt H2 kvs ∧ y = .ref b ∧ KeyAt H2 b ks ∧ dxGet kvs ks = some v ∧ Q v H2
def sDPutX (P : Program) (w : World) (td ty tv : TE) : TS := fun D σ H => tv σ H fun v H1 => td σ H1 fun x H2 => ty σ H2 fun y H3 => ∃ (b d : Addr) (ks : List V) (kvs : List DxE), x = .ref d ∧ H3 d = some (DXo P w kvs d) ∧ KeysAt H3 kvs ∧ y = .ref b ∧ KeyAt H3 b ks ∧ kvs.length < sizeLine ∧
  D.nx σ (upd H3 d (DXo P w (dxPut kvs ks b v) d))
section
variable {X : Cx} {pos : Pos}
theorem room8 {A : Around} (hu : A.units + 64 < cLine) {P : Program} {w : World} : (nestedKind P w).room A.in1 := by
  show A.units + 1 + 8 < cLine
  omega
theorem pe_dnewX : PE X (.Dict [] [] pos) (tDNewX X.prog X.w) := ⟨fun pins s σ H Q I h =>
  wpAny_Dict_empty ⟨.ref s.heap.objs.size, _, I.laid (a := s.heap.objs.size) (o := DXo X.prog X.w [] s.heap.objs.size) (t' := s.toks) (fun _ _ q => Heap.get?_push_of_some _ q) (Nat.le_refl _) (dx_empty s.heap I.big), rfl, h _ (I.hok.fresh (Nat.le_refl _))⟩⟩
theorem or_inX (hu : X.A.units + 64 < cLine) : OpR X (compareOp .In) (rInX X.prog X.w false) := by
  intro pins s σ H x y v u Q I rx ry h
  obtain ⟨b, d, ks, kvs, rfl, kb, rfl, hd, ka, q⟩ := h
  cases rx
  cases ry
  obtain ⟨z, hs, xs, r, m⟩ := dx_of I.hok hd ka
  refine wpAny_in_heap (room8 hu) (nk_is I.hok kb.1 kb.2) hs m ⟨.bl (dxGet kvs ks).isSome, H, I.tok _, ?_, q⟩
  show Value.bool _ = Value.bool _
  rw [dx_none r]
theorem or_notInX (hu : X.A.units + 64 < cLine) : OpR X (compareOp .NotIn) (rInX X.prog X.w true) := by
  intro pins s σ H x y v u Q I rx ry h
  obtain ⟨b, d, ks, kvs, rfl, kb, rfl, hd, ka, q⟩ := h
  cases rx
  cases ry
  obtain ⟨z, hs, xs, r, m⟩ := dx_of I.hok hd ka
  refine wpAny_notIn_heap (room8 hu) (nk_is I.hok kb.1 kb.2) hs m ⟨.bl (!(dxGet kvs ks).isSome), H, I.tok _, ?_, q⟩
  show Value.bool _ = Value.bool _
  rw [dx_none r]
theorem pe_dgetX {o i : Expr} {td ty : TE} (hu : X.A.units + 64 < cLine) (ho : PE X o td) (hi : PE X i ty) (hs : NoSl i) : PE X (.Subscript o i pos) (tDGetX X.prog X.w td ty) := by
  refine ⟨fun pins s σ H Q I h => ?_⟩
  refine subD_of PySem.F.slot_dict_getitem.lookup hs (thn (ho.run pins s σ H _ I h) fun u s1 ⟨x, H1, I1, rx, q1⟩ => thn (hi.run pins s1 σ H1 _ I1 q1) fun iv s2 ⟨y, H2, I2, ry, b, d, ks, kvs, v, ex, hd, ka, ey, kb, g, q2⟩ => ?_)
  subst ex ey
  obtain rfl : u = Value.ref d := rx
  obtain rfl : iv = Value.ref b := ry
  obtain ⟨z, hs, xs, r, m⟩ := dx_of I2.hok hd ka
  obtain ⟨w', hw, rw'⟩ := RelO.some_of (v := v) (o := (atKey xs (nkL ks)).map (·.2)) (by rw [← g]; exact dx_val r ks)
  obtain ⟨p, hp, hp2⟩ := Option.map_eq_some_iff.mp hw
  refine ⟨m.typeIs, wpAny_getItem_heap (room8 hu) (nk_is I2.hok kb.1 kb.2) m hp ?_⟩
  rw [hp2]
  exact ⟨v, H2, I2.tok _, rw', q2⟩
theorem ps_dputX {o i value : Expr} {pos' : Pos} {td ty tv : TE} (hu : X.A.units + 64 < cLine) (ho : PE X o td) (hi : PE X i ty) (hv : PE X value tv) (hs : swapsWith value (some (.Subscript o i pos')) pos.line X.env = pure false) :
    PS X (.Assign [.Subscript o i pos'] value pos) (sDPutX X.prog X.w td ty tv) := by
  refine ⟨fun pins s σ H D I h => ?_⟩
  refine wpAny_Assign_Subscript (thn (hv.run pins s σ H _ I h) fun r s1 ⟨v, H1, I1, rv, q1⟩ => thn (ho.run pins s1 σ H1 _ I1 q1) fun u s2 ⟨x, H2, I2, rx, q2⟩ => thn (hi.run pins s2 σ H2 _ I2 q2) fun iv s3 ⟨y, H3, I3, ry, b, d, ks, kvs, ex, hd, ka, ey, kb, hl, q3⟩ => ?_) hs
  subst ex ey
  obtain rfl : u = Value.ref d := rx
  obtain rfl : iv = Value.ref b := ry
  obtain ⟨z, hsm, xs, rr, m⟩ := dx_of I3.hok (.inl hd) ka
  have hz : xs.length ≤ sizeLine := by rw [← Paired.length rr]; exact z
  have hl2 : (dxPut kvs ks b v).length ≤ sizeLine := by have := dxPut_len kvs ks b v; omega
  refine wpAny_setItem_heap (hsz := hz) (room8 hu) (nk_is I3.hok kb.1 kb.2) m fun h' m' hsb => ⟨σ, _, ?_, q3⟩
  have he : ∃ q, h'.get? d = some q := let ⟨q, _, _, hq, _⟩ := m'; ⟨q, hq⟩
  exact d_write I3 (by rw [hd]; exact True.intro) hsb he (dx_new hl2 hsm (dx_put rr ks b rv) m')
/-- len(d) -/
theorem len_body_raw {A : Around} {E : Value → Shared → Prop} {s : Shared} {d : Addr} {es : Array DictEntry} {ep : Nat} {Q : Value → Shared → Prop} {prog : Program} {w : World} (hd : (d == sysModules) = false) (hm : s.heap.DictRaw d es ep) (hfit : (es.size : Int) < 2 ^ 63)
    (h : Q (.int es.size (s.toks + 1)) { s with toks := s.toks + 1 + 1 }) : wpAny (model prog w) A (Builtin.«len» ⟨[.ref d], []⟩) (fun fin s' => ∃ r, fin = .done (.ret r) ∧ Q r s') E s := by
  unfold Builtin.«len»
  refine wpAny_bind (m := oneArg "len" _) (wpAny_pure ?_)
  refine wpAny_bind (m := callSpecial? (.ref d) (Str.ofString "__len__")) (wpAny_callSpecial?_slot (name := Str.ofString "__len__") hm.typeIs F.slot_dict_len
    (call_len_raw hd hm ?_))
  show wpAny _ _ _ _ _ { s with toks := s.toks + 1 }
  refine wpAny_bind (wpAny_holding (wpAny_pure ?_))
  refine wpAny_bind (wpAny_letGo ?_)
  show wpAny _ _ (if ((es.size : Nat) : Int) < 0 then _ else _) _ _ _
  rw [if_neg (by omega)]
  show wpAny _ _ (if ((es.size : Nat) : Int) ≥ 2 ^ 63 then _ else _) _ _ _
  rw [if_neg (by omega)]
  exact wpAny_bind (wpAny_mkInt (wpAny_pure ⟨_, rfl, h⟩))
def rLenX (P : Program) (w : World) : List V → Hp → VK → Prop := fun xs H Q => ∃ d kvs, xs = [V.ref d] ∧ Rd H d (DXo P w kvs d) ∧ KeysAt H kvs ∧ Q (.int kvs.length) H
theorem call_lenX : CallR X (.builtin "len") (rLenX X.prog X.w) := by
  intro pins s σ H xs us Q I r h
  obtain ⟨d, kvs, rfl, hd, ka, q⟩ := h
  obtain ⟨u, rfl, ru⟩ := r.one
  cases ru
  obtain ⟨z, hs, xs, rr, m⟩ := dx_of I.hok hd ka
  obtain ⟨es, ep, hr, hsz, _⟩ := m.raw
  have l : kvs.length = es.size := (Paired.length rr).trans hsz.symm
  refine Calls.call_function_entry kind_len plain_len entry_len (args_len1 _) (len_body_raw hs hr (by rw [← l]; rw [sizeLine_eq] at z; omega) ?_)
  exact ⟨.int kvs.length, H, I.tok _, ⟨_, by rw [l]⟩, q⟩
/-- list(d): the keys' own tuples -/
def rListX (P : Program) (w : World) : List V → Hp → VK → Prop := fun xs H Q => ∃ d kvs, xs = [V.ref d] ∧ Rd H d (DXo P w kvs d) ∧ ∀ p, H p = none → Q (.ref p) (upd H p (.lst (kvs.map fun e => V.ref e.2.1)))
theorem dx_addrs {kvs : List DxE} {xs : List (NestedKey × Addr × Value)} (r : Paired DxR kvs xs) : (xs.map fun x => x.2.1) = kvs.map fun e => e.2.1 := by
  induction r with
  | nil => rfl
  | @cons p q ps qs hq _ ih => rw [List.map_cons, List.map_cons, ih, hq.2.1]
theorem call_listX (hc : X.calm = true) : CallR X (.type "list") (rListX X.prog X.w) := by
  intro pins s σ H xs us Q I r h
  obtain ⟨d, kvs, rfl, hd, q⟩ := h
  obtain ⟨u, rfl, rx⟩ := r.one
  cases rx
  obtain ⟨⟨z, hs, ks, pr, o, es, ep, ho, hx, hdt, he, hn⟩, _⟩ := (show ObjOk X.prog X.w H s.heap d (DXo X.prog X.w kvs d) from hd.ok I.hok)
  have l1 : es.size = ks.length := size_of_entries he
  have l2 : kvs.length = ks.length := Paired.length pr
  refine PySem.W.kdl_call (kdl_raw hs hx hdt) (I.ok.hd hc) ho (by omega) fun h' tk acc' c' kp e it => ?_
  have ea : acc'.toList = ks.map fun x => Value.ref x.2.1 := by
    have hl : acc'.toList.length = ks.length := by rw [Array.length_toList, it.1]; exact l1
    apply List.ext_getElem?
    intro j
    rw [List.getElem?_map]
    cases hj : acc'.toList[j]? with
    | none =>
      have h1 := List.getElem?_eq_none_iff.mp hj
      rw [List.getElem?_eq_none (by omega)]
      all_goals rfl
    | some v =>
      obtain ⟨en, hen, hv⟩ := it.2 j v (by rw [← Array.getElem?_toList]; exact hj)
      have qe := entry_at he j
      rw [hen] at qe
      cases hb : ks[j]? with
      | none =>
        rw [hb] at qe
        exact nomatch (show some en = none from qe)
      | some b =>
        rw [hb] at qe
        have e2 : en = entryOfKey (nestedKind X.prog X.w) b := Option.some.inj qe
        rw [hv, e2]
        all_goals rfl
  have eb : acc'.toList = (ks.map fun x => x.2.1).map Value.ref := by rw [ea, List.map_map]; all_goals rfl
  have rv : Vals ((ks.map fun x => x.2.1).map V.ref) acc'.toList := by rw [eb]; exact vals_refs _
  have hz : ((ks.map fun x => x.2.1).map V.ref).length ≤ sizeLine := by rw [List.length_map, List.length_map]; omega
  have em : ((ks.map fun x => x.2.1).map V.ref) = kvs.map fun e => V.ref e.2.1 := by rw [dx_addrs pr, List.map_map]; all_goals rfl
  refine ⟨.ref s.heap.objs.size, _, I.laid (t' := tk) (o := .lst ((ks.map fun x => x.2.1).map V.ref)) kp (Nat.le_refl _) ?_, rfl, ?_⟩
  · exact ⟨hz, acc'.toList, c', rv, by rw [Array.toArray_toList]; exact e⟩
  · rw [em]
    exact q _ (I.hok.fresh (Nat.le_refl _))
/-! for k in d -/
def Itx (P : Program) (w : World) (d : Addr) (o : Obj) (kvs : List DxE) : It :=
  ⟨fun i H => H d = some (.frz o (DXo P w kvs d)) ∧ i < kvs.length, fun i H x H' => H' = H ∧ ∃ e : DxE, kvs[i]? = some e ∧ x = .ref e.2.1, fun i H => H d = some (.frz o (DXo P w kvs d)) ∧ kvs.length ≤ i⟩
theorem frzX {pins : List (Addr × Obj)} {σ : L2.St} {H : Hp} {s : Shared} {d : Addr} {o : Obj} {kvs : List DxE} (I : Inv X pins σ H s) (h : H d = some (.frz o (DXo X.prog X.w kvs d))) :
    (d == sysModules) = false ∧ s.heap.get? d = some o ∧ o.ExactDict ∧ ∃ (es : Array DictEntry) (ep : Nat), o.data = .dict es ep ∧ es.size = kvs.length ∧
      ∀ (i : Nat) (e : DxE), kvs[i]? = some e → ∃ en : DictEntry, es[i]? = some en ∧ en.key = .ref e.2.1 := by
  obtain ⟨hd, ⟨z, hs, xs, pr, o', es, ep, ho, hx, hdt, he, _⟩, _⟩ := I.hok d _ h
  rw [hd] at ho
  cases ho
  refine ⟨hs, hd, hx, es, ep, hdt, ?_, fun i e hi => ?_⟩
  · have l1 : es.size = xs.length := size_of_entries he
    have l2 : kvs.length = xs.length := Paired.length pr
    omega
  · obtain ⟨b, hb, e1, e2, _⟩ := paired_get pr hi
    have q := entry_at he i
    rw [hb] at q
    refine ⟨_, q, ?_⟩
    rw [← e2]
    rfl
theorem turn_keysX {P : Program} {w : World} {K : PySem.W.Frag} {tg : Expr} {d : Addr} {o : Obj} {es : Array DictEntry} {ep : Nat} {kvs : List DxE} (it : Addr) (hod : o.data = .dict es ep) : Turn P w K tg (Itx P w d o kvs) [it] it (fun i h => h.IsKeyIter it d i kvs.length ep) where
  mem := by simp
  obj := fun i h st b hb => by
    have e : b = it := by simpa using hb
    subst e
    obtain ⟨oi, e, c, dd⟩ := st
    exact ⟨oi, e, fun v z => by rw [dd] at z; cases z⟩
  keep := fun i h h' st k => st.at fun oi e => k it (by simp) oi e
  item := by
    intro X hP hw hK hc i pins s σ H E I hf st hg
    subst hP hw hK
    obtain ⟨hd, hi⟩ := hg
    obtain ⟨f0, f1, f2, f3, f4, f5⟩ := hf it (by simp)
    obtain ⟨hs, hgd, hx, es', ep', hdt, hsz, ent⟩ := frzX I hd
    obtain ⟨rfl, rfl⟩ := dict_ep hod hdt
    have hkv := List.getElem?_eq_getElem hi
    obtain ⟨en, hen, hkey⟩ := ent i _ hkv
    refine next_key_item st hgd hdt hsz hen fun h' st' sb => ?_
    have I1 : Inv X pins σ H { s with heap := h' } := I.turned (t' := s.toks) (fun b ob hb e => (sb.2 b hb).trans e) f0 f1 f3 f4 f5
    obtain ⟨oi, e, c, dd⟩ := id st'
    exact ⟨en.key, rfl, go_of (s := { s with heap := h' }) e c dd (by decide) ⟨.ref _, H, I1, hkey, ⟨rfl, _, hkv, rfl⟩, st', fun b hb => (hf b hb).1⟩⟩
  done := by
    intro X hP hw hK hc i pins s σ H E I hf st hg
    subst hP hw hK
    obtain ⟨hd, hi⟩ := hg
    obtain ⟨f0, f1, f2, f3, f4, f5⟩ := hf it (by simp)
    obtain ⟨hs, hgd, hx, es', ep', hdt, hsz, ent⟩ := frzX I hd
    obtain ⟨rfl, rfl⟩ := dict_ep hod hdt
    exact next_key_end (I.ok.hd hc) st hgd hdt hsz hi fun h' eb => ⟨rfl, I.turned (t' := s.toks) (fun b ob hb e => eb b ob hb e) f0 f1 f3 f4 f5⟩
  self := fun A i s Q E st h => wpAny_pyIter_keyiter st h
/-- the dict is locked (tLock, tLockE) -/
def iKeysX (P : Program) (w : World) (td : TE) : TI := fun σ H R => td σ H fun x H1 => ∃ d o kvs, x = .ref d ∧ H1 d = some (.frz o (DXo P w kvs d)) ∧ R (Itx P w d o kvs) H1
theorem pi_keysX {tg e : Expr} {td : TE} (he : PE X e td) : PI X tg e (iKeysX X.prog X.w td) := by
  refine ⟨fun pins s σ H R I h => ?_⟩
  refine thn (he.run pins s σ H _ I h) fun u s1 ⟨x, H1, I1, rx, d, o, kvs, ex, hd, q⟩ => ?_
  subst ex
  obtain rfl : u = Value.ref d := rx
  obtain ⟨hs, hgd, hx, es, ep, hdt, hsz, ent⟩ := frzX I1 hd
  refine iter_keys hs hgd hx hdt (pi_one (tk := s1.toks) I1 _ (turn_keysX _ hdt) ⟨_, Heap.get?_push_size _ rfl, rfl, ?_⟩ q)
  rw [hsz] <;> rfl
theorem walk_keysX {P : Program} {w : World} {d : Addr} {o : Obj} {kvs : List DxE} : Walk (Itx P w d o kvs) kvs.length (fun H => H d = some (.frz o (DXo P w kvs d))) (fun i H x H' => H' = H ∧ ∃ e : DxE, kvs[i]? = some e ∧ x = .ref e.2.1) :=
  ⟨fun _ _ hi q => ⟨q, hi⟩, fun _ q => ⟨q, Nat.le_refl _⟩, fun _ _ _ _ _ _ y => y⟩
end
/-! the rules, the program and the world named -/
section
variable {X : Cx} {P : Program} {w : World} {pos : Pos}
theorem pe_dnewP (hP : X.prog = P) (hw : X.w = w) : PE X (.Dict [] [] pos) (tDNewX P w) := by
  subst hP hw
  exact pe_dnewX
theorem or_inP (hP : X.prog = P) (hw : X.w = w) (hu : X.A.units + 64 < cLine) : OpR X (compareOp .In) (rInX P w false) := by
  subst hP hw
  exact or_inX hu
theorem or_notInP (hP : X.prog = P) (hw : X.w = w) (hu : X.A.units + 64 < cLine) : OpR X (compareOp .NotIn) (rInX P w true) := by
  subst hP hw
  exact or_notInX hu
theorem pe_dgetP {o i : Expr} {td ty : TE} (hP : X.prog = P) (hw : X.w = w) (hu : X.A.units + 64 < cLine) (ho : PE X o td) (hi : PE X i ty) (hs : NoSl i) : PE X (.Subscript o i pos) (tDGetX P w td ty) := by
  subst hP hw
  exact pe_dgetX hu ho hi hs
theorem ps_dputP {o i value : Expr} {pos' : Pos} {td ty tv : TE} (hP : X.prog = P) (hw : X.w = w) (hu : X.A.units + 64 < cLine) (ho : PE X o td) (hi : PE X i ty) (hv : PE X value tv) (hs : swapsWith value (some (.Subscript o i pos')) pos.line X.env = pure false) :
    PS X (.Assign [.Subscript o i pos'] value pos) (sDPutX P w td ty tv) := by
  subst hP hw
  exact ps_dputX hu ho hi hv hs
theorem call_lenP (hP : X.prog = P) (hw : X.w = w) : CallR X (.builtin "len") (rLenX P w) := by
  subst hP hw
  exact call_lenX
theorem call_listP (hP : X.prog = P) (hw : X.w = w) (hc : X.calm = true) : CallR X (.type "list") (rListX P w) := by
  subst hP hw
  exact call_listX hc
theorem pi_keysP {tg e : Expr} {td : TE} (hP : X.prog = P) (hw : X.w = w) (he : PE X e td) : PI X tg e (iKeysX P w td) := by
  subst hP hw
  exact pi_keysX he
end
end S
namespace S
open PySem PySem.Spec PyProof.Rows L2
/-! ### a dict comprehension into a dict of any kind: what the new dict is (o0), what a store does (ST) -/
structure Store (P : Program) (w : World) (A : Around) (o0 : Addr → HO) (ST : Addr → V → V → Hp → (Hp → Prop) → Prop) : Prop where
  new : ∀ (H : Hp) (h : Heap), sysModules < h.objs.size → ObjOk P w H (h.push { cls := .type "dict", data := .dict #[] }) h.objs.size (o0 h.objs.size)
  put : ∀ {X : Cx} {pins : List (Addr × Obj)} {σ : L2.St} {H : Hp} {s : Shared} {D : Addr} {y z : V} {u r : Value} {R : Hp → Prop} {Q : Unit → Shared → Prop} {E : Value → Shared → Prop}, X.prog = P → X.w = w →
    Inv X pins σ H s → RelV y u → RelV z r → ST D y z H R → (∀ s' H', Inv X pins σ H' s' → R H' → Q () s') → wpAny (model P w) A (dictSet D u r) Q E s
def tDcS (o0 : Addr → HO) (ST : Addr → V → V → Hp → (Hp → Prop) → Prop) (wi : TI) (g : TG) (tt : TT) (tk tv : TE) (vs : List Nat) : TE := fun σ H Q => wi σ H fun J H1 => ∀ D, H1 D = none → ∃ W : Nat → Nat → Hp → Prop, (∃ m, W 0 m (upd H1 D (o0 D))) ∧ ∀ i m H, W i m H →
  (J.stop i H ∧ Q (.ref D) H) ∨ (J.go i H ∧ ∃ Nx : Hp → Prop, (∀ H', Nx H' → ∃ m', m' < m ∧ W (i + 1) m' H') ∧ ∀ x H', J.yld i H x H' → g x (wipe σ vs) H' fun σ2 H2 => wipe σ2 vs = wipe σ vs ∧ tt σ2 H2 fun b H3 =>
    if b = true then tk σ2 H3 fun y H4 => tv σ2 H4 fun z H5 => ST D y z H5 Nx else Nx H3)
theorem pe_dcS {X : Cx} {kx vx tg iter : Expr} {ifs : List Expr} {scope : Scope} {own : List (Str × Nat)} {pos : Pos} {wi : TI} {g : TG} {tt : TT} {tk tv : TE} {o0 : Addr → HO} {ST : Addr → V → V → Hp → (Hp → Prop) → Prop} (B : Store X.prog X.w X.A o0 ST)
    (hc : X.calm = true) (hN : X.N.Nodup) (hi : PI X tg iter wi) (ok : BlkOk X.N X.env.scope scope own)
    (hg : ∀ (s : Shared) (H : Hp) (C : Addr) (cl : List (Str × Addr)) (fp : List Addr), PG (X.blk s H scope (compEnvC scope cl C X.env) fp) tg g)
    (ht : ∀ (s : Shared) (H : Hp) (C : Addr) (cl : List (Str × Addr)) (fp : List Addr), PTs (X.blk s H scope (compEnvC scope cl C X.env) fp) ifs tt)
    (hk : ∀ (s : Shared) (H : Hp) (C : Addr) (cl : List (Str × Addr)) (fp : List Addr), PE (X.blk s H scope (compEnvC scope cl C X.env) fp) kx tk)
    (he : ∀ (s : Shared) (H : Hp) (C : Addr) (cl : List (Str × Addr)) (fp : List Addr), PE (X.blk s H scope (compEnvC scope cl C X.env) fp) vx tv) (hs : ∀ x, foldedSetIterable iter X.env x = pure x := by intro _; rfl) :
    PE X (.DictComp kx vx [⟨tg, iter, ifs, 0⟩] scope pos) (tDcS o0 ST wi g tt tk tv (own.map (·.2))) := by
  refine ⟨fun pins s σ H Q I h => ?_⟩
  rw [arm_eval_DictComp]
  have clo : ∀ y ∈ scope.names, y.2 = .free → ∃ c, X.env.cells.lookup y.1 = some c := fun y hy e =>
    (ok.free y hy e).elim (fun k => I.ok.has _ (.inl k)) fun k => I.ok.has _ (.inr k)
  refine wpAny_comprehension_free rfl hs (closure_ok clo) ok.kind (fun y hy e => by rw [ok.uniq y hy, e]) (thn (hi.run pins s σ H _ I h) fun _ s1 hx => thn hx fun _ s2 h2 => ?_)
  obtain ⟨it, fp, tn, J, H2, rfl, I2, T, t2, f2, q⟩ := h2
  refine wpAny_newObj_type (newEnv_comp ?_)
  generalize hD : s2.heap.objs.size = D
  obtain ⟨W, ⟨m0, w0⟩, turn⟩ := q D (I2.hok.fresh (Nat.le_of_eq hD))
  -- behind the new dict
  generalize hs3 : ({ s2 with heap := s2.heap.push { cls := .type "dict", data := .dict #[] } } : Shared) = s3
  have h3 : s3.heap = s2.heap.push { cls := .type "dict", data := .dict #[] } := by rw [← hs3]
  have keep3 : ∀ b o, s2.heap.get? b = some o → s3.heap.get? b = some o := fun b o e => by rw [h3]; exact Heap.get?_push_of_some _ e
  have I3 : Inv X pins σ (upd H2 D (o0 D)) s3 := by
    subst hD hs3
    exact I2.laid (t' := s2.toks) (fun b o e => Heap.get?_push_of_some _ e) (Nat.le_refl _) (B.new _ _ I2.big)
  have f3 : ∀ b ∈ fp, FpOk X pins (upd H2 D (o0 D)) b ∧ b < s3.heap.objs.size := fun b hb => by
    obtain ⟨o, e, _⟩ := T.obj _ _ t2 b hb
    have lt := Heap.lt_size e
    exact ⟨⟨by rw [upd_ne (by rw [← hD]; exact Nat.ne_of_lt lt)]; exact (f2 b hb).1, (f2 b hb).2⟩, by rw [h3, Heap.size_push]; exact Nat.lt_succ_of_lt lt⟩
  have I4 := block_start I3 ok hN f3
  show codeAny _ _ (.compStart _ 0 (.ref it) (.ref D) (compEnvC scope (cellsFrom (s3.heap.objs.size + 1) scope.names (cloFrom X.env.cells scope.names [])) s3.heap.objs.size X.env)) _ { s3 with heap := pushCells (s3.heap.push { cls := .type "dict", data := .dict #[] }) scope.names }
  generalize hH3 : upd H2 D (o0 D) = H3 at I3 f3 I4 w0
  generalize hcl : cellsFrom (s3.heap.objs.size + 1) scope.names (cloFrom X.env.cells scope.names []) = cl at I4 ⊢
  have pg := hg s3 H3 s3.heap.objs.size cl fp
  have pt := ht s3 H3 s3.heap.objs.size cl fp
  have pk := hk s3 H3 s3.heap.objs.size cl fp
  have pe := he s3 H3 s3.heap.objs.size cl fp
  have cL : (compEnvC scope cl s3.heap.objs.size X.env).locals = s3.heap.objs.size := rfl
  have done : ∀ (s' : Shared) (m : _) (H' : Hp), Inv X pins σ H' s' → Q (.ref D) H' → s'.heap.Ns s3.heap.objs.size m → FpOk X pins H' s3.heap.objs.size → compPost (model X.prog X.w) X.A X.xe none (fun v s => ∃ x H', Inv X pins σ H' s ∧ RelV x v ∧ Q x H') (.ref D) s3.heap.objs.size (.ok .next) s' := fun s' m H' I' q' hn f => by
    obtain ⟨f0, f1, f2, f3, f4, f5⟩ := f
    exact ⟨m, hn, fun h'' sb => ⟨.ref D, H', I'.turned (t' := s'.toks) (fun b o hb e => (sb.2 b hb).trans e) f0 f1 f3 f4 f5, rfl, q'⟩⟩
  generalize compEnvC scope cl s3.heap.objs.size X.env = ce at I4 pg pt pk pe cL ⊢
  generalize hs4 : ({ s3 with heap := pushCells (s3.heap.push { cls := .type "dict", data := .dict #[] }) scope.names } : Shared) = s4 at I4 ⊢
  have t4 : tn 0 s4.heap := T.keep _ _ _ t2 fun b _ o e => by rw [← hs4]; exact pushCells_keeps _ _ _ _ (Heap.get?_push_of_some _ (keep3 b o e))
  -- the iterator's own objects, in the block
  have own_ : ∀ {σ' : L2.St} {H' : Hp} {s' : Shared}, Inv (X.blk s3 H3 scope ce fp) [] σ' H' s' → (∀ b ∈ fp, H' b = none) → ∀ b ∈ fp, FpOk (X.blk s3 H3 scope ce fp) [] H' b := fun I' hn b hb =>
    ⟨hn b hb, (I'.ok.exf b hb).1, I'.ok.exfs b hb, .inl hb, fun x c e => (I'.ok.exf b hb).2 x c e, fun p hp => absurd (show p ∈ ([] : List (Addr × Obj)) ++ [] from hp) (by simp)⟩
  let In : Nat → Shared → Prop := fun n s' => ∃ i H', Inv (X.blk s3 H3 scope ce fp) [] (wipe σ (own.map (·.2))) H' s' ∧ tn i s'.heap ∧ (∀ b ∈ fp, H' b = none) ∧ W i n H'
  have loop := compLoop_anyD (prog := X.prog) (w := X.w) (A := X.A) (R := compPost (model X.prog X.w) X.A X.xe none (fun v s => ∃ x H', Inv X pins σ H' s ∧ RelV x v ∧ Q x H') (.ref D) s3.heap.objs.size) (kx := kx) (vx := vx) (target := tg) (iter := iter) (ifs := ifs) (scope := scope) (pos := pos) (it := .ref it) (D := D) (env := ce) In ?turn m0 ⟨0, H3, I4, t4, fun b hb => (f3 b hb).1.1, w0⟩ (s := s4)
  case turn =>
    rintro n s5 ⟨i, H5, I5, t5, n5, w5⟩
    rcases turn i n H5 w5 with ⟨st, qq⟩ | ⟨go, Nx, hNx, step⟩
    · refine thnF (T.done (X.blk s3 H3 scope ce fp) rfl rfl rfl hc i [] s5 _ H5 (fun _ _ => False) I5 (own_ I5 n5) t5 st) fun _ s6 ⟨hr, I6⟩ => ?_
      subst hr
      obtain ⟨m, hn, _⟩ := I6.loc
      have free : H5 ce.locals = none := I6.free
      rw [cL] at free
      have hn' : s6.heap.Ns ce.locals m := hn
      rw [cL] at hn'
      refine done s6 m H5 (I3.call' (ch := fp) I6.os I6.base I6.hok I6.bare fun b hb => ?_) qq hn' (I3.fpOk (Nat.le_refl _) free)
      obtain ⟨_, g1, g2, g3, g4, g5⟩ := (f3 b hb).1
      exact ⟨g3, g1, g4, g5⟩
    · refine thnF (T.item (X.blk s3 H3 scope ce fp) rfl rfl rfl hc i [] s5 _ H5 (fun _ _ => False) I5 (own_ I5 n5) t5 go) fun _ s6 ⟨u, hr, h6⟩ => ?_
      subst hr
      refine thnF h6 fun _ s7 ⟨x, H7, I7, r7, y7, t7, n7⟩ => ?_
      have back : ∀ {σ8 : L2.St} {s' : Shared} {H' : Hp}, wipe σ8 (own.map (·.2)) = wipe σ (own.map (·.2)) → Inv (X.blk s3 H3 scope ce fp) ([] ++ pinsAt fp s7.heap) σ8 H' s' → Nx H' → ∃ m, m < n ∧ In m s' := fun {σ8 s' H'} hw I' nx => by
        obtain ⟨m', hm, w'⟩ := hNx H' nx
        have pin : ∀ b ∈ fp, ∀ o, s7.heap.get? b = some o → s'.heap.get? b = some o ∧ H' b = none := fun b hb o e =>
          let z := I'.pin (b, o) (List.mem_append_right _ (List.mem_append_right _ (mem_pinsAt hb e)))
          ⟨z.1, z.2.1⟩
        refine ⟨m', hm, i + 1, H', (I'.unpinned (pins := [])).weak (by rw [← hw, wipe_length]) (fun j v e => ?_), T.keep _ _ _ t7 fun b hb o e => (pin b hb o e).1, fun b hb => ?_, w'⟩
        · rw [← hw] at e
          exact (wipe_some e).1
        · obtain ⟨o, e, _⟩ := T.obj _ _ t7 b hb
          exact (pin b hb o e).2
      refine thnF (pg.run _ s7 _ H7 x u _ (I7.pinned (own_ I7 n7) (T.obj _ _ t7)) r7 (step x H7 y7)) fun _ s8 ⟨σ8, H8, I8, hw8, q8⟩ => ?_
      refine thnF (pt.run _ s8 σ8 H8 _ I8 q8) fun b s9 ⟨H9, I9, q9⟩ => ?_
      cases b with
      | false => exact back hw8 I9 q9
      | true => exact thnF (pk.run _ s9 σ8 H9 _ I9 q9) fun _ s10 ⟨yk, H10, I10, r10, q10⟩ => thnF (pe.run _ s10 σ8 H10 _ I10 q10) fun _ s11 ⟨yv, H11, I11, r11, q11⟩ => B.put (X := X.blk s3 H3 scope ce fp) rfl rfl I11 r10 r11 q11 fun s12 H12 I12 nx => back hw8 I12 nx
  exact codeAny_compStart_dict loop (T.self X.A 0 _ _ _ t4 loop)
/-- the walk of it -/
theorem dcS_it {J : It} {n : Nat} {G : Hp → Prop} {Y : Nat → Hp → V → Hp → Prop} (w : Walk J n G Y) {o0 : Addr → HO} {ST : Addr → V → V → Hp → (Hp → Prop) → Prop} {g : TG} {tt : TT} {tk tv : TE} {vs : List Nat} {σ : L2.St} {H1 : Hp} {D : Addr} {Qd : Hp → Prop}
    (Pv : Nat → Hp → Prop) (h0 : Pv 0 (upd H1 D (o0 D))) (hG : ∀ i H, i ≤ n → Pv i H → G H)
    (hs : ∀ i x H H', i < n → Pv i H → Y i H x H' → g x (wipe σ vs) H' fun σ2 H2 => wipe σ2 vs = wipe σ vs ∧ tt σ2 H2 fun b H3 =>
      if b = true then tk σ2 H3 fun y H4 => tv σ2 H4 fun z H5 => ST D y z H5 (Pv (i + 1)) else Pv (i + 1) H3) (hd : ∀ H, Pv n H → Qd H) :
    ∃ W : Nat → Nat → Hp → Prop, (∃ m, W 0 m (upd H1 D (o0 D))) ∧ ∀ i m H, W i m H →
      (J.stop i H ∧ Qd H) ∨ (J.go i H ∧ ∃ Nx : Hp → Prop, (∀ H', Nx H' → ∃ m', m' < m ∧ W (i + 1) m' H') ∧ ∀ x H', J.yld i H x H' → g x (wipe σ vs) H' fun σ2 H2 => wipe σ2 vs = wipe σ vs ∧ tt σ2 H2 fun b H3 =>
        if b = true then tk σ2 H3 fun y H4 => tv σ2 H4 fun z H5 => ST D y z H5 Nx else Nx H3) := by
  refine ⟨fun i m H => m = n - i ∧ i ≤ n ∧ Pv i H, ⟨n, by simp, Nat.zero_le _, h0⟩, ?_⟩
  rintro i m H ⟨rfl, hi, p⟩
  by_cases lt : i < n
  · exact .inr ⟨w.goes i H lt (hG i H hi p), Pv (i + 1), fun H' p' => ⟨n - (i + 1), by omega, rfl, lt, p'⟩, fun x H' y => hs i x H H' lt p (w.yields i H x H' lt (hG i H hi p) y)⟩
  · have e : i = n := by omega
    subst e
    exact .inl ⟨w.stops H (hG _ H hi p), hd H p⟩
/-- a store into a dict with tuple keys -/
def STx (P : Program) (w : World) : Addr → V → V → Hp → (Hp → Prop) → Prop := fun D y z H R => ∃ (b : Addr) (ks : List V) (kvs : List DxE), y = .ref b ∧ KeyAt H b ks ∧ H D = some (DXo P w kvs D) ∧ KeysAt H kvs ∧ kvs.length < sizeLine ∧ R (upd H D (DXo P w (dxPut kvs ks b z) D))
theorem store_x {P : Program} {w : World} {A : Around} (hu : A.units + 64 < cLine) : Store P w A (DXo P w []) (STx P w) where
  new := fun H h hb => dx_empty h hb
  put := by
    intro X pins σ H s D y z u r R Q E hP hw I ry rz h k
    subst hP hw
    obtain ⟨b, ks, kvs, rfl, kb, hd, ka, hl, q⟩ := h
    obtain rfl : u = Value.ref b := ry
    obtain ⟨zz, hsm, xs, rr, m⟩ := dx_of I.hok (.inl hd) ka
    have hz : xs.length ≤ sizeLine := by rw [← Paired.length rr]; exact zz
    have hl2 : (dxPut kvs ks b z).length ≤ sizeLine := by have := dxPut_len kvs ks b z; omega
    refine wpAny_dictSet_heap (hsz := hz) (knd := nestedKind X.prog X.w) (show A.units + 8 < cLine by omega) (nk_is I.hok kb.1 kb.2) m fun h' m' hsb => k _ _ ?_ q
    have he : ∃ q, h'.get? D = some q := let ⟨q, _, _, hq, _⟩ := m'; ⟨q, hq⟩
    exact d_write I (by rw [hd]; exact True.intro) hsb he (dx_new hl2 hsm (dx_put rr ks b rz) m')
/-! name = {..}, the name a local -/
section
variable {X : Cx}
theorem ps_setDc {i : Nat} {y : Str} {py : Pos} {kx vx tg iter : Expr} {ifs : List Expr} {scope : Scope} {own : List (Str × Nat)} {pos spos : Pos} {wi : TI} {g : TG} {tt : TT} {tk tv : TE} (hc : X.calm = true) (hN : X.N.Nodup) (hy : X.N[i]? = some y) (hyl : X.env.scope.names.lookup y = some .local)
    (hsw : swapsWith (.DictComp kx vx [⟨tg, iter, ifs, 0⟩] scope pos) (some (.Name y py)) spos.line X.env = pure true) (hi : PI X tg iter wi) (ok : BlkOk X.N X.env.scope scope own)
    (hg : ∀ (s : Shared) (H : Hp) (C : Addr) (cl : List (Str × Addr)) (fp : List Addr), PG (X.blk s H scope (compEnvC scope cl C X.env) fp) tg g) (ht : ∀ (s : Shared) (H : Hp) (C : Addr) (cl : List (Str × Addr)) (fp : List Addr), PTs (X.blk s H scope (compEnvC scope cl C X.env) fp) ifs tt)
    (hk : ∀ (s : Shared) (H : Hp) (C : Addr) (cl : List (Str × Addr)) (fp : List Addr), PE (X.blk s H scope (compEnvC scope cl C X.env) fp) kx tk)
    (he : ∀ (s : Shared) (H : Hp) (C : Addr) (cl : List (Str × Addr)) (fp : List Addr), PE (X.blk s H scope (compEnvC scope cl C X.env) fp) vx tv) (hs : ∀ x, foldedSetIterable iter X.env x = pure x := by intro _; rfl) :
    PS X (.Assign [.Name y py] (.DictComp kx vx [⟨tg, iter, ifs, 0⟩] scope pos) spos) (tAsg (tDc wi g tt tk tv (own.map (·.2))) (gName i)) := by
  refine ⟨fun pins s σ H D I h => ?_⟩
  rw [exec_Assign_Name_used _ _ _ _ hsw]
  refine wpAny_bind (wpAny_standAt (wpAny_bind ?_))
  show wpAny _ X.A (do let _ ← comprehension (.DictComp kx vx [⟨tg, iter, ifs, 0⟩] scope pos) scope X.env (firstIterPos [⟨tg, iter, ifs, 0⟩] pos) newDict false (eval iter X.env) (some (assign (.Name y py) X.env))) _ _ s
  have h : tDc wi g tt tk tv (own.map (·.2)) σ H (fun x H1 => gName i x σ H1 D.nx) := h
  refine wpAny_bind (thn (dc_core (Qf := fun _ s' => SP X pins D .next s') hc hN I hi ok hg ht hk he hs h fun L C s' m H' I' q hn f => ?_) fun _ s' hq => wpAny_pure (wpAny_pure hq))
  show wpAny _ _ (assign (.Name y py) X.env (.ref L)) _ _ _
  obtain ⟨f0, f1, f2, f3, f4, f5⟩ := f
  refine wpAny_assign_Name (store_ok2 (v := V.ref L) I' hN hy (.inl hyl) rfl (fun s2 I2 ⟨a, sb, ha⟩ => ?_) (.inr hyl))
  have haC : C ≠ a := ha.elim (fun z => by rw [z]; exact f1) fun z e => f4 y a z e.symm
  exact ⟨m, hn.sameBut sb haC, fun h3 sb3 => ⟨_, H', I2.turned (t' := s2.toks) (fun b o hb e => (sb3.2 b hb).trans e) f0 f1 f3 f4 f5, q⟩⟩
theorem sw_trueD {kx vx : Expr} {gs : List Comprehension} {scope : Scope} {pos py : Pos} {y : Str} {l : Nat} {env : Env} (hk : env.scope.kind = .function) (hy : env.scope.names.lookup y = some .local) (hl : (py.line == pos.line) = true)
    (ha : (scope.names.any fun (n, k) => n == y && (k == .local || k == .cell)) = false) : swapsWith (.DictComp kx vx gs scope pos) (some (.Name y py)) l env = pure true := by
  have ky : env.kindOf y = some .local := hy
  have hb : env.blockKind = .function := by unfold Env.blockKind; rw [hk]; rfl
  unfold swapsWith
  simp only [hb, ky, ha, Expr.pos, hl]
  rfl
end
end S
namespace S
open PySem PySem.Spec PyProof.Rows L2
/-! ### dicts whose keys are tuples, and tuples in these -/
mutual
/-- the value is the key -/
inductive NkV (H : Hp) : V → NestedKey → Prop where
  | non : NkV H .non .none
  | bl (b : Bool) : NkV H (.bl b) (.num (if b = true then 1 else 0))
  | int (i : Int) : NkV H (.int i) (.num i)
  | str (z : Str) : NkV H (.str z) (.text z)
  | tup {a : Addr} {xs : List V} {ks : List NestedKey} (h : H a = some (.tup xs)) (t : NkVs H xs ks) : NkV H (.ref a) (.tup ks)
inductive NkVs (H : Hp) : List V → List NestedKey → Prop where
  | nil : NkVs H [] []
  | cons {x : V} {xs : List V} {k : NestedKey} {ks : List NestedKey} (h : NkV H x k) (t : NkVs H xs ks) : NkVs H (x :: xs) (k :: ks)
end
theorem NkV.same {H H' : Hp} {x : V} {k : NestedKey} (h : NkV H x k) (s : Same H H') : NkV H' x k :=
  NkV.rec (motive_1 := fun x k _ => NkV H' x k) (motive_2 := fun xs ks _ => NkVs H' xs ks) .non .bl .int .str (fun h _ t => .tup (s _ _ h) t) .nil (fun _ _ h t => .cons h t) h
theorem NkV.is {P : Program} {w : World} {H : Hp} {h : Heap} (ok : HOk P w H h) {x : V} {k : NestedKey} (q : NkV H x k) : ∀ {u : Value}, RelV x u → NestedIs h k u := by
  refine NkV.rec (motive_1 := fun x k _ => ∀ {u : Value}, RelV x u → NestedIs h k u) (motive_2 := fun xs ks _ => ∀ {us : List Value}, Vals xs us → NestedAll h ks us) ?_ ?_ ?_ ?_ ?_ ?_ ?_ q
  · intro u r; cases r; exact .none
  · intro b u r; cases r; exact .bool rfl
  · intro i u r; obtain ⟨t, rfl⟩ := r; exact .int i t
  · intro z u r; obtain ⟨t, rfl⟩ := r; exact .text z t
  · intro a xs ks e _ ih u r
    cases r
    obtain ⟨_, its, r, o, h1, h2, n, h3⟩ := (show ObjOk P w H h a (.tup xs) from ok a _ e)
    exact .tup h1 h2 h3 (by simpa using ih r)
  · intro us r; cases r; exact .nil
  · intro x xs k ks _ _ ih1 ih2 us r
    cases r with
    | cons r1 r2 => exact .cons (ih1 r1) (ih2 r2)
def NKey (H : Hp) (b : Addr) (k : NestedKey) : Prop := NkV H (.ref b) k ∧ k.depth ≤ 8
theorem NKey.same {H H' : Hp} {b : Addr} {k : NestedKey} (h : NKey H b k) (s : Same H H') : NKey H' b k := ⟨h.1.same s, h.2⟩
theorem nkey_is {P : Program} {w : World} {H : Hp} {h : Heap} (ok : HOk P w H h) {b : Addr} {k : NestedKey} (q : NKey H b k) : (nestedKind P w).is h k b := ⟨q.1.is ok rfl, q.2⟩
theorem nkVs_flat {H : Hp} : ∀ {xs : List V}, (∀ v ∈ xs, flV v = true) → NkVs H xs (xs.map nkV)
  | [], _ => .nil
  | x :: xs, f => by
    refine .cons ?_ (nkVs_flat fun v hv => f v (List.mem_cons_of_mem _ hv))
    have f1 := f x List.mem_cons_self
    cases x with
    | non => exact .non
    | bl b => exact .bl b
    | int i => exact .int i
    | str z => exact .str z
    | _ => cases f1
theorem KeyAt.n {H : Hp} {b : Addr} {ks : List V} (h : KeyAt H b ks) : NKey H b (nkL ks) := ⟨.tup h.1 (nkVs_flat h.2), nk_depth ks⟩
abbrev DnE := NestedKey × Addr × V
def DnR (p : DnE) (q : NestedKey × Addr × Value) : Prop := q.1 = p.1 ∧ q.2.1 = p.2.1 ∧ RelV p.2.2 q.2.2
/-- the dict at d: its keys, where their tuples stand, its values -/
def DNo (P : Program) (w : World) (kvs : List DnE) (d : Addr) : HO := .ext fun h => kvs.length ≤ sizeLine ∧ (d == sysModules) = false ∧ ∃ xs : List (NestedKey × Addr × Value), Paired DnR kvs xs ∧
  ∃ o es ep, h.get? d = some o ∧ o.ExactDict ∧ o.data = .dict es ep ∧ es.toList = xs.map (entryOfKey (nestedKind P w)) ∧ (xs.map (·.1)).Nodup
def NKeysAt (H : Hp) (kvs : List DnE) : Prop := ∀ e ∈ kvs, NKey H e.2.1 e.1
theorem NKeysAt.same {H H' : Hp} {kvs : List DnE} (h : NKeysAt H kvs) (s : Same H H') : NKeysAt H' kvs := fun e he => (h e he).same s
def dnGet (kvs : List DnE) (k : NestedKey) : Option V := (kvs.find? fun e => decide (e.1 = k)).map (·.2.2)
def dnPut (kvs : List DnE) (k : NestedKey) (b : Addr) (v : V) : List DnE := if (dnGet kvs k).isSome then kvs.map fun e => if e.1 = k then (e.1, e.2.1, v) else e else kvs ++ [(k, b, v)]
section
variable {P : Program} {w : World} {H : Hp} {h : Heap} {d b : Addr} {kvs : List DnE}
theorem dn_of (ok : HOk P w H h) (e : Rd H d (DNo P w kvs d)) (t : NKeysAt H kvs) : kvs.length ≤ sizeLine ∧ (d == sysModules) = false ∧ ∃ xs, Paired DnR kvs xs ∧ h.DictOfH (nestedKind P w) d xs := by
  obtain ⟨⟨z, y, xs, r, o, es, ep, h1, h2, h3, h4, h5⟩, _⟩ := (show ObjOk P w H h d (DNo P w kvs d) from rd_of ok e)
  refine ⟨z, y, xs, r, o, es, ep, h1, h2, h3, h4, fun x hx => ?_, h5⟩
  have all : ∀ {l : List DnE} {m : List (NestedKey × Addr × Value)}, Paired DnR l m → NKeysAt H l → ∀ x ∈ m, (nestedKind P w).is h x.1 x.2.1 := by
    intro l m q
    induction q with
    | nil => intro _ x hx; exact nomatch hx
    | @cons p q ps qs hq t ih =>
      intro k x hx
      rcases List.mem_cons.mp hx with e | hx
      · subst e
        rw [hq.1, hq.2.1]
        exact nkey_is ok (k p List.mem_cons_self)
      · exact ih (fun e he => k e (List.mem_cons_of_mem _ he)) x hx
  exact all r t x hx
theorem dn_val {xs : List (NestedKey × Addr × Value)} (r : Paired DnR kvs xs) (k : NestedKey) : RelO (dnGet kvs k) ((atKey xs (k)).map (·.2)) := by
  unfold dnGet atKey
  induction r with
  | nil => exact True.intro
  | @cons p q ps qs hq t ih =>
    rw [List.find?_cons, List.find?_cons, hq.1]
    by_cases c : p.1 = k
    · rw [decide_eq_true c]
      exact hq.2.2
    · rw [decide_eq_false c]
      exact ih
theorem dn_none {xs : List (NestedKey × Addr × Value)} (r : Paired DnR kvs xs) (k : NestedKey) : (dnGet kvs k).isSome = (atKey xs (k)).isSome := by
  have := (dn_val r k).isSome_eq
  rw [Option.isSome_map] at this
  exact this
theorem dnPut_len (kvs : List DnE) (k : NestedKey) (b : Addr) (v : V) : (dnPut kvs k b v).length ≤ kvs.length + 1 := by
  unfold dnPut
  split
  · rw [List.length_map]; omega
  · rw [List.length_append]; exact Nat.le_refl _
theorem dn_put {xs : List (NestedKey × Addr × Value)} (r : Paired DnR kvs xs) (k : NestedKey) (b : Addr) {v : V} {u : Value} (rv : RelV v u) : Paired DnR (dnPut kvs k b v) (storedH xs (k) b u) := by
  have e := dn_none r k
  unfold dnPut storedH
  rw [e]
  by_cases q : (atKey xs (k)).isSome = true
  · rw [if_pos q, if_pos q]
    clear e q
    induction r with
    | nil => exact .nil
    | @cons p q ps qs hq t ih =>
      refine .cons ?_ ih
      show DnR (if p.1 = k then (p.1, p.2.1, v) else p) (putAt (k) u q)
      unfold putAt
      by_cases c : p.1 = k
      · rw [if_pos c, if_pos (hq.1.trans c)]
        exact ⟨hq.1, hq.2.1, rv⟩
      · rw [if_neg c, if_neg (fun z => c (hq.1.symm.trans z))]
        exact hq
  · rw [if_neg q, if_neg q]
    exact Paired.snoc r ⟨rfl, rfl, rv⟩
theorem dn_new {xs : List (NestedKey × Addr × Value)} (z : kvs.length ≤ sizeLine) (y : (d == sysModules) = false) (r : Paired DnR kvs xs) (m : h.DictOfH (nestedKind P w) d xs) : ObjOk P w H h d (DNo P w kvs d) := by
  obtain ⟨o, es, ep, h1, h2, h3, h4, _, h5⟩ := m
  refine ⟨⟨z, y, xs, r, o, es, ep, h1, h2, h3, h4, h5⟩, ⟨o, h1⟩, fun g1 g2 p k => ?_⟩
  obtain ⟨z, y, xs, r, o, es, ep, h1, h2⟩ := p
  exact ⟨z, y, xs, r, o, es, ep, k o h1, h2⟩
theorem dn_empty (h : Heap) (hb : sysModules < h.objs.size) : ObjOk P w H (h.push { cls := .type "dict", data := .dict #[] }) h.objs.size (DNo P w [] h.objs.size) :=
  dn_new (Nat.zero_le _) (beq_eq_false_iff_ne.mpr (Ne.symm (Nat.ne_of_lt hb))) .nil (Heap.DictOfH.new h)
end
/-! the rules -/
/-- {}: a dict of this kind -/
def tDNewN (P : Program) (w : World) : TE := fun _ H Q => ∀ p, H p = none → Q (.ref p) (upd H p (DNo P w [] p))
def rInN (P : Program) (w : World) (neg : Bool) : V → V → Hp → VK → Prop := fun x y H Q => ∃ (b d : Addr) (ks : NestedKey) (kvs : List DnE), x = .ref b ∧ NKey H b ks ∧ y = .ref d ∧ Rd H d (DNo P w kvs d) ∧ NKeysAt H kvs ∧
  Q (.bl (if neg then !(dnGet kvs ks).isSome else (dnGet kvs ks).isSome)) H
def tDGetN (P : Program) (w : World) (td ty : TE) : TE := fun σ H Q => td σ H fun x H1 => ty σ H1 fun y H2 => ∃ (b d : Addr) (ks : NestedKey) (kvs : List DnE) (v : V), x = .ref d ∧ Rd H2 d (DNo P w kvs d) ∧ NKeysAt H2 kvs ∧ y = .ref b ∧ NKey H2 b ks ∧ dnGet kvs ks = some v ∧ Q v H2
def sDPutN (P : Program) (w : World) (td ty tv : TE) : TS := fun D σ H => tv σ H fun v H1 => td σ H1 fun x H2 => ty σ H2 fun y H3 => ∃ (b d : Addr) (ks : NestedKey) (kvs : List DnE), x = .ref d ∧ H3 d = some (DNo P w kvs d) ∧ NKeysAt H3 kvs ∧ y = .ref b ∧ NKey H3 b ks ∧ kvs.length < sizeLine ∧
  D.nx σ (upd H3 d (DNo P w (dnPut kvs ks b v) d))
section
variable {X : Cx} {pos : Pos}
theorem pe_dnewN : PE X (.Dict [] [] pos) (tDNewN X.prog X.w) := ⟨fun pins s σ H Q I h =>
  wpAny_Dict_empty ⟨.ref s.heap.objs.size, _, I.laid (a := s.heap.objs.size) (o := DNo X.prog X.w [] s.heap.objs.size) (t' := s.toks) (fun _ _ q => Heap.get?_push_of_some _ q) (Nat.le_refl _) (dn_empty s.heap I.big), rfl, h _ (I.hok.fresh (Nat.le_refl _))⟩⟩
theorem or_inN (hu : X.A.units + 64 < cLine) : OpR X (compareOp .In) (rInN X.prog X.w false) := by
  intro pins s σ H x y v u Q I rx ry h
  obtain ⟨b, d, ks, kvs, rfl, kb, rfl, hd, ka, q⟩ := h
  cases rx
  cases ry
  obtain ⟨z, hs, xs, r, m⟩ := dn_of I.hok hd ka
  refine wpAny_in_heap (room8 hu) (nkey_is I.hok kb) hs m ⟨.bl (dnGet kvs ks).isSome, H, I.tok _, ?_, q⟩
  show Value.bool _ = Value.bool _
  rw [dn_none r]
theorem or_notInN (hu : X.A.units + 64 < cLine) : OpR X (compareOp .NotIn) (rInN X.prog X.w true) := by
  intro pins s σ H x y v u Q I rx ry h
  obtain ⟨b, d, ks, kvs, rfl, kb, rfl, hd, ka, q⟩ := h
  cases rx
  cases ry
  obtain ⟨z, hs, xs, r, m⟩ := dn_of I.hok hd ka
  refine wpAny_notIn_heap (room8 hu) (nkey_is I.hok kb) hs m ⟨.bl (!(dnGet kvs ks).isSome), H, I.tok _, ?_, q⟩
  show Value.bool _ = Value.bool _
  rw [dn_none r]
theorem pe_dgetN {o i : Expr} {td ty : TE} (hu : X.A.units + 64 < cLine) (ho : PE X o td) (hi : PE X i ty) (hs : NoSl i) : PE X (.Subscript o i pos) (tDGetN X.prog X.w td ty) := by
  refine ⟨fun pins s σ H Q I h => ?_⟩
  refine subD_of PySem.F.slot_dict_getitem.lookup hs (thn (ho.run pins s σ H _ I h) fun u s1 ⟨x, H1, I1, rx, q1⟩ => thn (hi.run pins s1 σ H1 _ I1 q1) fun iv s2 ⟨y, H2, I2, ry, b, d, ks, kvs, v, ex, hd, ka, ey, kb, g, q2⟩ => ?_)
  subst ex ey
  obtain rfl : u = Value.ref d := rx
  obtain rfl : iv = Value.ref b := ry
  obtain ⟨z, hs, xs, r, m⟩ := dn_of I2.hok hd ka
  obtain ⟨w', hw, rw'⟩ := RelO.some_of (v := v) (o := (atKey xs (ks)).map (·.2)) (by rw [← g]; exact dn_val r ks)
  obtain ⟨p, hp, hp2⟩ := Option.map_eq_some_iff.mp hw
  refine ⟨m.typeIs, wpAny_getItem_heap (room8 hu) (nkey_is I2.hok kb) m hp ?_⟩
  rw [hp2]
  exact ⟨v, H2, I2.tok _, rw', q2⟩
theorem ps_dputN {o i value : Expr} {pos' : Pos} {td ty tv : TE} (hu : X.A.units + 64 < cLine) (ho : PE X o td) (hi : PE X i ty) (hv : PE X value tv) (hs : swapsWith value (some (.Subscript o i pos')) pos.line X.env = pure false) :
    PS X (.Assign [.Subscript o i pos'] value pos) (sDPutN X.prog X.w td ty tv) := by
  refine ⟨fun pins s σ H D I h => ?_⟩
  refine wpAny_Assign_Subscript (thn (hv.run pins s σ H _ I h) fun r s1 ⟨v, H1, I1, rv, q1⟩ => thn (ho.run pins s1 σ H1 _ I1 q1) fun u s2 ⟨x, H2, I2, rx, q2⟩ => thn (hi.run pins s2 σ H2 _ I2 q2) fun iv s3 ⟨y, H3, I3, ry, b, d, ks, kvs, ex, hd, ka, ey, kb, hl, q3⟩ => ?_) hs
  subst ex ey
  obtain rfl : u = Value.ref d := rx
  obtain rfl : iv = Value.ref b := ry
  obtain ⟨z, hsm, xs, rr, m⟩ := dn_of I3.hok (.inl hd) ka
  have hz : xs.length ≤ sizeLine := by rw [← Paired.length rr]; exact z
  have hl2 : (dnPut kvs ks b v).length ≤ sizeLine := by have := dnPut_len kvs ks b v; omega
  refine wpAny_setItem_heap (hsz := hz) (room8 hu) (nkey_is I3.hok kb) m fun h' m' hsb => ⟨σ, _, ?_, q3⟩
  have he : ∃ q, h'.get? d = some q := let ⟨q, _, _, hq, _⟩ := m'; ⟨q, hq⟩
  exact d_write I3 (by rw [hd]; exact True.intro) hsb he (dn_new hl2 hsm (dn_put rr ks b rv) m')
def rLenN (P : Program) (w : World) : List V → Hp → VK → Prop := fun xs H Q => ∃ d kvs, xs = [V.ref d] ∧ Rd H d (DNo P w kvs d) ∧ NKeysAt H kvs ∧ Q (.int kvs.length) H
theorem call_lenN : CallR X (.builtin "len") (rLenN X.prog X.w) := by
  intro pins s σ H xs us Q I r h
  obtain ⟨d, kvs, rfl, hd, ka, q⟩ := h
  obtain ⟨u, rfl, ru⟩ := r.one
  cases ru
  obtain ⟨z, hs, xs, rr, m⟩ := dn_of I.hok hd ka
  obtain ⟨es, ep, hr, hsz, _⟩ := m.raw
  have l : kvs.length = es.size := (Paired.length rr).trans hsz.symm
  refine Calls.call_function_entry kind_len plain_len entry_len (args_len1 _) (len_body_raw hs hr (by rw [← l]; rw [sizeLine_eq] at z; omega) ?_)
  exact ⟨.int kvs.length, H, I.tok _, ⟨_, by rw [l]⟩, q⟩
/-- list(d): the keys' own tuples -/
def rListN (P : Program) (w : World) : List V → Hp → VK → Prop := fun xs H Q => ∃ d kvs, xs = [V.ref d] ∧ Rd H d (DNo P w kvs d) ∧ ∀ p, H p = none → Q (.ref p) (upd H p (.lst (kvs.map fun e => V.ref e.2.1)))
theorem dn_addrs {kvs : List DnE} {xs : List (NestedKey × Addr × Value)} (r : Paired DnR kvs xs) : (xs.map fun x => x.2.1) = kvs.map fun e => e.2.1 := by
  induction r with
  | nil => rfl
  | @cons p q ps qs hq _ ih => rw [List.map_cons, List.map_cons, ih, hq.2.1]
theorem call_listN (hc : X.calm = true) : CallR X (.type "list") (rListN X.prog X.w) := by
  intro pins s σ H xs us Q I r h
  obtain ⟨d, kvs, rfl, hd, q⟩ := h
  obtain ⟨u, rfl, rx⟩ := r.one
  cases rx
  obtain ⟨⟨z, hs, ks, pr, o, es, ep, ho, hx, hdt, he, hn⟩, _⟩ := (show ObjOk X.prog X.w H s.heap d (DNo X.prog X.w kvs d) from hd.ok I.hok)
  have l1 : es.size = ks.length := size_of_entries he
  have l2 : kvs.length = ks.length := Paired.length pr
  refine PySem.W.kdl_call (kdl_raw hs hx hdt) (I.ok.hd hc) ho (by omega) fun h' tk acc' c' kp e it => ?_
  have ea : acc'.toList = ks.map fun x => Value.ref x.2.1 := by
    have hl : acc'.toList.length = ks.length := by rw [Array.length_toList, it.1]; exact l1
    apply List.ext_getElem?
    intro j
    rw [List.getElem?_map]
    cases hj : acc'.toList[j]? with
    | none =>
      have h1 := List.getElem?_eq_none_iff.mp hj
      rw [List.getElem?_eq_none (by omega)]
      all_goals rfl
    | some v =>
      obtain ⟨en, hen, hv⟩ := it.2 j v (by rw [← Array.getElem?_toList]; exact hj)
      have qe := entry_at he j
      rw [hen] at qe
      cases hb : ks[j]? with
      | none =>
        rw [hb] at qe
        exact nomatch (show some en = none from qe)
      | some b =>
        rw [hb] at qe
        have e2 : en = entryOfKey (nestedKind X.prog X.w) b := Option.some.inj qe
        rw [hv, e2]
        all_goals rfl
  have eb : acc'.toList = (ks.map fun x => x.2.1).map Value.ref := by rw [ea, List.map_map]; all_goals rfl
  have rv : Vals ((ks.map fun x => x.2.1).map V.ref) acc'.toList := by rw [eb]; exact vals_refs _
  have hz : ((ks.map fun x => x.2.1).map V.ref).length ≤ sizeLine := by rw [List.length_map, List.length_map]; omega
  have em : ((ks.map fun x => x.2.1).map V.ref) = kvs.map fun e => V.ref e.2.1 := by rw [dn_addrs pr, List.map_map]; all_goals rfl
  refine ⟨.ref s.heap.objs.size, _, I.laid (t' := tk) (o := .lst ((ks.map fun x => x.2.1).map V.ref)) kp (Nat.le_refl _) ?_, rfl, ?_⟩
  · exact ⟨hz, acc'.toList, c', rv, by rw [Array.toArray_toList]; exact e⟩
  · rw [em]
    exact q _ (I.hok.fresh (Nat.le_refl _))
/-! for k in d -/
def Itn (P : Program) (w : World) (d : Addr) (o : Obj) (kvs : List DnE) : It :=
  ⟨fun i H => H d = some (.frz o (DNo P w kvs d)) ∧ i < kvs.length, fun i H x H' => H' = H ∧ ∃ e : DnE, kvs[i]? = some e ∧ x = .ref e.2.1, fun i H => H d = some (.frz o (DNo P w kvs d)) ∧ kvs.length ≤ i⟩
theorem frzN {pins : List (Addr × Obj)} {σ : L2.St} {H : Hp} {s : Shared} {d : Addr} {o : Obj} {kvs : List DnE} (I : Inv X pins σ H s) (h : H d = some (.frz o (DNo X.prog X.w kvs d))) :
    (d == sysModules) = false ∧ s.heap.get? d = some o ∧ o.ExactDict ∧ ∃ (es : Array DictEntry) (ep : Nat), o.data = .dict es ep ∧ es.size = kvs.length ∧
      ∀ (i : Nat) (e : DnE), kvs[i]? = some e → ∃ en : DictEntry, es[i]? = some en ∧ en.key = .ref e.2.1 := by
  obtain ⟨hd, ⟨z, hs, xs, pr, o', es, ep, ho, hx, hdt, he, _⟩, _⟩ := I.hok d _ h
  rw [hd] at ho
  cases ho
  refine ⟨hs, hd, hx, es, ep, hdt, ?_, fun i e hi => ?_⟩
  · have l1 : es.size = xs.length := size_of_entries he
    have l2 : kvs.length = xs.length := Paired.length pr
    omega
  · obtain ⟨b, hb, e1, e2, _⟩ := paired_get pr hi
    have q := entry_at he i
    rw [hb] at q
    refine ⟨_, q, ?_⟩
    rw [← e2]
    rfl
theorem turn_keysN {P : Program} {w : World} {K : PySem.W.Frag} {tg : Expr} {d : Addr} {o : Obj} {es : Array DictEntry} {ep : Nat} {kvs : List DnE} (it : Addr) (hod : o.data = .dict es ep) : Turn P w K tg (Itn P w d o kvs) [it] it (fun i h => h.IsKeyIter it d i kvs.length ep) where
  mem := by simp
  obj := fun i h st b hb => by
    have e : b = it := by simpa using hb
    subst e
    obtain ⟨oi, e, c, dd⟩ := st
    exact ⟨oi, e, fun v z => by rw [dd] at z; cases z⟩
  keep := fun i h h' st k => st.at fun oi e => k it (by simp) oi e
  item := by
    intro X hP hw hK hc i pins s σ H E I hf st hg
    subst hP hw hK
    obtain ⟨hd, hi⟩ := hg
    obtain ⟨f0, f1, f2, f3, f4, f5⟩ := hf it (by simp)
    obtain ⟨hs, hgd, hx, es', ep', hdt, hsz, ent⟩ := frzN I hd
    obtain ⟨rfl, rfl⟩ := dict_ep hod hdt
    have hkv := List.getElem?_eq_getElem hi
    obtain ⟨en, hen, hkey⟩ := ent i _ hkv
    refine next_key_item st hgd hdt hsz hen fun h' st' sb => ?_
    have I1 : Inv X pins σ H { s with heap := h' } := I.turned (t' := s.toks) (fun b ob hb e => (sb.2 b hb).trans e) f0 f1 f3 f4 f5
    obtain ⟨oi, e, c, dd⟩ := id st'
    exact ⟨en.key, rfl, go_of (s := { s with heap := h' }) e c dd (by decide) ⟨.ref _, H, I1, hkey, ⟨rfl, _, hkv, rfl⟩, st', fun b hb => (hf b hb).1⟩⟩
  done := by
    intro X hP hw hK hc i pins s σ H E I hf st hg
    subst hP hw hK
    obtain ⟨hd, hi⟩ := hg
    obtain ⟨f0, f1, f2, f3, f4, f5⟩ := hf it (by simp)
    obtain ⟨hs, hgd, hx, es', ep', hdt, hsz, ent⟩ := frzN I hd
    obtain ⟨rfl, rfl⟩ := dict_ep hod hdt
    exact next_key_end (I.ok.hd hc) st hgd hdt hsz hi fun h' eb => ⟨rfl, I.turned (t' := s.toks) (fun b ob hb e => eb b ob hb e) f0 f1 f3 f4 f5⟩
  self := fun A i s Q E st h => wpAny_pyIter_keyiter st h
/-- the dict is locked (tLock, tLockE) -/
def iKeysN (P : Program) (w : World) (td : TE) : TI := fun σ H R => td σ H fun x H1 => ∃ d o kvs, x = .ref d ∧ H1 d = some (.frz o (DNo P w kvs d)) ∧ R (Itn P w d o kvs) H1
theorem pi_keysN {tg e : Expr} {td : TE} (he : PE X e td) : PI X tg e (iKeysN X.prog X.w td) := by
  refine ⟨fun pins s σ H R I h => ?_⟩
  refine thn (he.run pins s σ H _ I h) fun u s1 ⟨x, H1, I1, rx, d, o, kvs, ex, hd, q⟩ => ?_
  subst ex
  obtain rfl : u = Value.ref d := rx
  obtain ⟨hs, hgd, hx, es, ep, hdt, hsz, ent⟩ := frzN I1 hd
  refine iter_keys hs hgd hx hdt (pi_one (tk := s1.toks) I1 _ (turn_keysN _ hdt) ⟨_, Heap.get?_push_size _ rfl, rfl, ?_⟩ q)
  rw [hsz] <;> rfl
theorem walk_keysN {P : Program} {w : World} {d : Addr} {o : Obj} {kvs : List DnE} : Walk (Itn P w d o kvs) kvs.length (fun H => H d = some (.frz o (DNo P w kvs d))) (fun i H x H' => H' = H ∧ ∃ e : DnE, kvs[i]? = some e ∧ x = .ref e.2.1) :=
  ⟨fun _ _ hi q => ⟨q, hi⟩, fun _ q => ⟨q, Nat.le_refl _⟩, fun _ _ _ _ _ _ y => y⟩
end
/-! the rules, the program and the world named -/
section
variable {X : Cx} {P : Program} {w : World} {pos : Pos}
theorem pe_dnewNP (hP : X.prog = P) (hw : X.w = w) : PE X (.Dict [] [] pos) (tDNewN P w) := by
  subst hP hw
  exact pe_dnewN
theorem or_inNP (hP : X.prog = P) (hw : X.w = w) (hu : X.A.units + 64 < cLine) : OpR X (compareOp .In) (rInN P w false) := by
  subst hP hw
  exact or_inN hu
theorem or_notInNP (hP : X.prog = P) (hw : X.w = w) (hu : X.A.units + 64 < cLine) : OpR X (compareOp .NotIn) (rInN P w true) := by
  subst hP hw
  exact or_notInN hu
theorem pe_dgetNP {o i : Expr} {td ty : TE} (hP : X.prog = P) (hw : X.w = w) (hu : X.A.units + 64 < cLine) (ho : PE X o td) (hi : PE X i ty) (hs : NoSl i) : PE X (.Subscript o i pos) (tDGetN P w td ty) := by
  subst hP hw
  exact pe_dgetN hu ho hi hs
theorem ps_dputNP {o i value : Expr} {pos' : Pos} {td ty tv : TE} (hP : X.prog = P) (hw : X.w = w) (hu : X.A.units + 64 < cLine) (ho : PE X o td) (hi : PE X i ty) (hv : PE X value tv) (hs : swapsWith value (some (.Subscript o i pos')) pos.line X.env = pure false) :
    PS X (.Assign [.Subscript o i pos'] value pos) (sDPutN P w td ty tv) := by
  subst hP hw
  exact ps_dputN hu ho hi hv hs
theorem call_lenNP (hP : X.prog = P) (hw : X.w = w) : CallR X (.builtin "len") (rLenN P w) := by
  subst hP hw
  exact call_lenN
theorem call_listNP (hP : X.prog = P) (hw : X.w = w) (hc : X.calm = true) : CallR X (.type "list") (rListN P w) := by
  subst hP hw
  exact call_listN hc
theorem pi_keysNP {tg e : Expr} {td : TE} (hP : X.prog = P) (hw : X.w = w) (he : PE X e td) : PI X tg e (iKeysN P w td) := by
  subst hP hw
  exact pi_keysN he
end
/-! DXo is one of these -/
section
variable {P : Program} {w : World}
def toN (e : DxE) : DnE := (nkL e.1, e.2.1, e.2.2)
theorem paired_toN : ∀ {kvs : List DxE} {xs : List (NestedKey × Addr × Value)}, Paired DnR (kvs.map toN) xs ↔ Paired DxR kvs xs := by
  intro kvs
  induction kvs with
  | nil => intro xs; exact ⟨fun h => by cases h; exact .nil, fun h => by cases h; exact .nil⟩
  | cons e kvs ih =>
    intro xs
    constructor
    · intro h
      cases h with
      | cons h t => exact .cons h (ih.mp t)
    · intro h
      cases h with
      | cons h t => exact .cons h (ih.mpr t)
theorem DXo_n (kvs : List DxE) (d : Addr) : DXo P w kvs d = DNo P w (kvs.map toN) d := by
  unfold DXo DNo
  congr 1
  funext h
  refine propext ?_
  rw [List.length_map]
  exact and_congr Iff.rfl (and_congr Iff.rfl (exists_congr fun xs => and_congr paired_toN.symm Iff.rfl))
theorem KeysAt.n {H : Hp} {kvs : List DxE} (h : KeysAt H kvs) : NKeysAt H (kvs.map toN) := fun e he => by
  obtain ⟨y, hy, rfl⟩ := List.mem_map.mp he
  exact KeyAt.n ⟨(h y hy).2, (h y hy).1⟩
theorem dnGet_toN (kvs : List DxE) (k : List V) : dnGet (kvs.map toN) (nkL k) = dxGet kvs k := by
  unfold dnGet dxGet
  induction kvs with
  | nil => rfl
  | cons e kvs ih =>
    rw [List.map_cons, List.find?_cons, List.find?_cons]
    by_cases c : nkL e.1 = nkL k
    · rw [show decide ((toN e).1 = nkL k) = true from decide_eq_true c, decide_eq_true c]
      rfl
    · rw [show decide ((toN e).1 = nkL k) = false from decide_eq_false c, decide_eq_false c]
      exact ih
end
/-! d.get(k) -/
section
variable {X : Cx} {o e : Expr} {apos cpos : Pos} {td ty : TE}
def tDGet1N (P : Program) (w : World) (td ty : TE) : TE := fun σ H Q => td σ H fun x H1 => ∃ d, x = .ref d ∧ (∃ kvs, Rd H1 d (DNo P w kvs d) ∧ NKeysAt H1 kvs) ∧ ty σ H1 fun y H2 => ∃ (b : Addr) (ks : NestedKey) (kvs : List DnE), Rd H2 d (DNo P w kvs d) ∧ NKeysAt H2 kvs ∧ y = .ref b ∧ NKey H2 b ks ∧ Q ((dnGet kvs ks).getD .non) H2
theorem pe_dget1N (hu : X.A.units + 64 < cLine) (ho : PE X o td) (he : PE X e ty) (m : M1 X o "get" apos e cpos) : PE X (.Call (.Attribute o "get" apos) [e] [] cpos) (tDGet1N X.prog X.w td ty) := by
  refine ⟨fun pins s σ H Q I h => ?_⟩
  refine wpAny_Call_method m.base m.few m.line PySem.F.plainAttrs_dict PySem.F.slot_dict_get PySem.F.type_dict_get (thn (ho.run pins s σ H _ I h) fun u s1 ⟨x, H1, I1, rx, d, ex, ⟨kvs0, hd0, ka0⟩, q1⟩ => ?_)
  subst ex
  obtain rfl : u = Value.ref d := rx
  obtain ⟨_, hs0, xs0, _, dd0⟩ := dn_of I1.hok hd0 ka0
  refine ⟨dd0.typeIs, fun b q => ?_, ?_⟩
  · cases q
    obtain ⟨ob, _, _, h1, h2, _⟩ := dd0
    exact ⟨ob, h1, h2.2.1⟩
  rw [m.trees]
  refine Calls.callWith_builtin rfl (Calls.evalArgs_plain (Calls.spliced_cons (thn (he.run pins s1 σ H1 _ I1 q1) fun iv s2 ⟨y, H2, I2, ry, b, ks, kvs, hd, ka, ey, kb, q2⟩ => Calls.spliced_nil ?_)))
  subst ey
  obtain rfl : iv = Value.ref b := ry
  obtain ⟨z, hs, xs, r, mm⟩ := dn_of I2.hok hd ka
  refine call_meetsIn PySem.F.slot_dict_get mm.typeIs PySem.F.entry_dict_get (PySem.F.args_dict_get_2 _ _) (meetsH_dict_get (nestedKind X.prog X.w) d b hs) ⟨room8 hu, ks, xs, nkey_is I2.hok kb, mm, ?_⟩
  exact ⟨_, H2, I2.tok _, (dn_val r ks).getD (show RelV .non Value.none from rfl), q2⟩
theorem pe_dget1NP {P : Program} {w : World} (hP : X.prog = P) (hw : X.w = w) (hu : X.A.units + 64 < cLine) (ho : PE X o td) (he : PE X e ty) (m : M1 X o "get" apos e cpos) : PE X (.Call (.Attribute o "get" apos) [e] [] cpos) (tDGet1N P w td ty) := by
  subst hP hw
  exact pe_dget1N hu ho he m
end
/-! for .. in d.items() -/
def ItiN (P : Program) (w : World) (d : Addr) (o : Obj) (kvs : List DnE) : It :=
  ⟨fun i H => H d = some (.frz o (DNo P w kvs d)) ∧ i < kvs.length, fun i H x H' => ∃ (T : Addr) (e : DnE), kvs[i]? = some e ∧ x = .ref T ∧ H T = none ∧ H' = upd H T (.tup [.ref e.2.1, e.2.2]), fun i H => H d = some (.frz o (DNo P w kvs d)) ∧ kvs.length ≤ i⟩
theorem frzNV {X : Cx} {pins : List (Addr × Obj)} {σ : L2.St} {H : Hp} {s : Shared} {d : Addr} {o : Obj} {kvs : List DnE} (I : Inv X pins σ H s) (h : H d = some (.frz o (DNo X.prog X.w kvs d))) :
    (d == sysModules) = false ∧ s.heap.get? d = some o ∧ o.ExactDict ∧ ∃ (es : Array DictEntry) (ep : Nat), o.data = .dict es ep ∧ es.size = kvs.length ∧
      ∀ (i : Nat) (e : DnE), kvs[i]? = some e → ∃ en : DictEntry, es[i]? = some en ∧ en.key = .ref e.2.1 ∧ RelV e.2.2 en.val := by
  obtain ⟨hd, ⟨z, hs, xs, pr, o', es, ep, ho, hx, hdt, he, _⟩, _⟩ := I.hok d _ h
  rw [hd] at ho
  cases ho
  refine ⟨hs, hd, hx, es, ep, hdt, ?_, fun i e hi => ?_⟩
  · have l1 : es.size = xs.length := size_of_entries he
    have l2 : kvs.length = xs.length := Paired.length pr
    omega
  · obtain ⟨b, hb, e1, e2, e3⟩ := paired_get pr hi
    have q := entry_at he i
    rw [hb] at q
    refine ⟨_, q, ?_, e3⟩
    rw [← e2]
    rfl
theorem turn_itemsN {P : Program} {w : World} {K : PySem.W.Frag} {d : Addr} {o : Obj} {es : Array DictEntry} {ep : Nat} {kvs : List DnE} {elts : List Expr} {kk : Nat} {tpos : Pos} (it : Addr) (hod : o.data = .dict es ep) :
    Turn P w K (.Tuple elts kk tpos) (ItiN P w d o kvs) [it] it (fun i h => ∃ ok ov, IsItemIter h it d i kvs.length ep ok ov) where
  mem := by simp
  obj := fun i h st b hb => by
    have e : b = it := by simpa using hb
    subst e
    obtain ⟨ok, ov, e⟩ := st
    exact ⟨_, e, fun v z => nomatch z⟩
  keep := fun i h h' st k => let ⟨ok, ov, e⟩ := st; ⟨ok, ov, k it (by simp) _ e⟩
  item := by
    intro X hP hw hK hc i pins s σ H E I hf st hg
    subst hP hw hK
    obtain ⟨hd, hi⟩ := hg
    obtain ⟨hs, hgd, hx, es', ep', hdt, hsz, ent⟩ := frzNV I hd
    obtain ⟨rfl, rfl⟩ := dict_ep hod hdt
    have hkv := List.getElem?_eq_getElem hi
    generalize kvs[i] = e at hkv
    obtain ⟨en, hen, hkey, hval⟩ := ent i e hkv
    have hi2 : i < es'.size := by omega
    have een : es'[i] = en := by
      have := Array.getElem?_eq_getElem hi2
      rw [hen] at this
      exact (Option.some.inj this).symm
    obtain ⟨ok, ov, he⟩ := st
    rw [← hsz] at he
    have hlt : it < s.heap.objs.size := Heap.lt_size he
    have raw : s.heap.DictRaw d es' ep' := ⟨o, hgd, hx, hdt⟩
    refine wpAny_pyNext_items_item_raw he raw hi2 fun h' ho hT hz hk => ?_
    rw [een, hkey] at ho hT
    refine ⟨_, rfl, wpAny_letOwnedTupleGo_items (s := { s with heap := h' }) ho fun h'' he' sb => ?_⟩
    have hT2 : h''.get? s.heap.objs.size = some { cls := .type "tuple", data := .seq #[.ref e.2.1, en.val] } := (sb.2 _ (Nat.ne_of_gt hlt)).trans hT
    have new : ObjOk X.prog X.w (upd H s.heap.objs.size (.tup [.ref e.2.1, e.2.2])) h'' s.heap.objs.size (.tup [.ref e.2.1, e.2.2]) :=
      ⟨by show 2 ≤ sizeLine; decide, [.ref e.2.1, en.val], .cons rfl (.cons hval .nil), ⟨_, hT2, rfl, _, rfl⟩⟩
    have I1 : Inv X pins σ (upd H s.heap.objs.size (.tup [.ref e.2.1, e.2.2])) { s with heap := h'' } :=
      I.turnedNew (t' := s.toks) (ch := [it]) (fun b ob hb e => (sb.2 b (by simpa using hb)).trans (hk b ob (by simpa using hb) e)) hf (Nat.le_refl _) new
    refine ⟨.ref s.heap.objs.size, _, I1, rfl, ⟨_, e, hkv, rfl, I.hok.fresh (Nat.le_refl _), rfl⟩, ⟨.ref e.2.1, en.val, ?_⟩, fun b hb => ?_⟩
    · rw [← hsz]; exact he'
    · have e : b = it := by simpa using hb
      rw [e, upd_ne (Nat.ne_of_lt hlt)]
      exact (hf it (by simp)).1
  done := by
    intro X hP hw hK hc i pins s σ H E I hf st hg
    subst hP hw hK
    obtain ⟨hd, hi⟩ := hg
    obtain ⟨f0, f1, f2, f3, f4, f5⟩ := hf it (by simp)
    obtain ⟨hs, hgd, hx, es', ep', hdt, hsz, ent⟩ := frzNV I hd
    obtain ⟨rfl, rfl⟩ := dict_ep hod hdt
    obtain ⟨ok, ov, he⟩ := st
    rw [← hsz] at he
    have raw : s.heap.DictRaw d es' ep' := ⟨o, hgd, hx, hdt⟩
    exact wpAny_pyNext_items_end_raw (I.ok.hd hc) he raw (by omega) fun h' eb => ⟨rfl, I.turned (t' := s.toks) (fun b ob hb e => eb b ob hb e) f0 f1 f3 f4 f5⟩
  self := fun A i s Q E st h => let ⟨_, _, e⟩ := st; PySem.W.kcp_self e h
/-- the dict is locked -/
def iItemsN (P : Program) (w : World) (td : TE) : TI := fun σ H R => td σ H fun x H1 => ∃ d o kvs, x = .ref d ∧ H1 d = some (.frz o (DNo P w kvs d)) ∧ R (ItiN P w d o kvs) H1
section
variable {X : Cx} {e : Expr} {td : TE} {apos cpos : Pos} {elts : List Expr} {kk : Nat} {tpos : Pos}
theorem pi_itemsN (he : PE X e td) (hbase : attributeBase e "items" X.env (eval e X.env) = eval e X.env := by rfl) (hline : (apos.endLine == cpos.line) = true := by rfl) :
    PI X (.Tuple elts kk tpos) (.Call (.Attribute e "items" apos) [] [] cpos) (iItemsN X.prog X.w td) := by
  refine ⟨fun pins s σ H R I h => ?_⟩
  refine wpAny_Call_method (T := "dict") (id := "dict.items") hbase rfl hline F.plainAttrs_dict F.slot_dict_items F.type_dict_items (thn (he.run pins s σ H _ I h) fun u s1 ⟨x, H1, I1, rx, d, o, kvs, ex, hd, q⟩ => ?_)
  subst ex
  obtain rfl : u = Value.ref d := rx
  obtain ⟨hs, hgd, hx, es, ep, hdt, hsz, ent⟩ := frzNV I1 hd
  have raw : s1.heap.DictRaw d es ep := ⟨o, hgd, hx, hdt⟩
  refine ⟨raw.typeIs, fun b q => ?_, ?_⟩
  · cases q
    exact ⟨o, hgd, hx.2.1⟩
  have I2 : Inv X pins σ H1 { s1 with heap := s1.heap.push { cls := .type "dict_items", data := .fields #[.ref d] } } := I1.kept (t' := s1.toks) fun b ob q => Heap.get?_push_of_some _ q
  have raw2 : (s1.heap.push { cls := .type "dict_items", data := .fields #[.ref d] }).DictRaw d es ep := ⟨o, Heap.get?_push_of_some _ hgd, hx, hdt⟩
  have fin : wpAny (model X.prog X.w) X.A (pyIter (.ref s1.heap.objs.size)) (PIE X pins σ (.Tuple elts kk tpos) R) X.xe { s1 with heap := s1.heap.push { cls := .type "dict_items", data := .fields #[.ref d] } } := by
    refine wpAny_pyIter_items_raw (d := d) ⟨_, Heap.get?_push_size _ rfl, rfl, rfl⟩ raw2 (pi_one (tk := s1.toks) I2 _ (turn_itemsN _ hdt) ⟨.none, .none, ?_⟩ q)
    rw [← hsz]
    exact Heap.get?_push_size _ rfl
  show wpAny _ _ (callWith cpos (.builtin "dict.items") [.ref d] [] []) _ X.xe s1
  exact method_meetsIn F.slot_dict_items F.entry_dict_items rfl (PySem.evalArgs_none ⟨rfl, raw.typeIs, F.args_dict_items_1 _, _, meets_dict_items_raw d hs, ⟨es, ep, raw⟩, fin⟩)
theorem pi_itemsNP {P : Program} {w : World} (hP : X.prog = P) (hw : X.w = w) (he : PE X e td) (hbase : attributeBase e "items" X.env (eval e X.env) = eval e X.env := by rfl) (hline : (apos.endLine == cpos.line) = true := by rfl) :
    PI X (.Tuple elts kk tpos) (.Call (.Attribute e "items" apos) [] [] cpos) (iItemsN P w td) := by
  subst hP hw
  exact pi_itemsN he hbase hline
theorem walk_itemsN {P : Program} {w : World} {d : Addr} {o : Obj} {kvs : List DnE} : Walk (ItiN P w d o kvs) kvs.length (fun H => H d = some (.frz o (DNo P w kvs d))) (fun i H x H' => ∃ (T : Addr) (e : DnE), kvs[i]? = some e ∧ x = .ref T ∧ H T = none ∧ H' = upd H T (.tup [.ref e.2.1, e.2.2])) :=
  ⟨fun _ _ hi q => ⟨q, hi⟩, fun _ q => ⟨q, Nat.le_refl _⟩, fun _ _ _ _ _ _ y => y⟩
end
/-! a store into such a dict, for comprehensions -/
def STn (P : Program) (w : World) : Addr → V → V → Hp → (Hp → Prop) → Prop := fun D y z H R => ∃ (b : Addr) (ks : NestedKey) (kvs : List DnE), y = .ref b ∧ NKey H b ks ∧ H D = some (DNo P w kvs D) ∧ NKeysAt H kvs ∧ kvs.length < sizeLine ∧ R (upd H D (DNo P w (dnPut kvs ks b z) D))
theorem store_n {P : Program} {w : World} {A : Around} (hu : A.units + 64 < cLine) : Store P w A (DNo P w []) (STn P w) where
  new := fun H h hb => dn_empty h hb
  put := by
    intro X pins σ H s D y z u r R Q E hP hw I ry rz h k
    subst hP hw
    obtain ⟨b, ks, kvs, rfl, kb, hd, ka, hl, q⟩ := h
    obtain rfl : u = Value.ref b := ry
    obtain ⟨zz, hsm, xs, rr, m⟩ := dn_of I.hok (.inl hd) ka
    have hz : xs.length ≤ sizeLine := by rw [← Paired.length rr]; exact zz
    have hl2 : (dnPut kvs ks b z).length ≤ sizeLine := by have := dnPut_len kvs ks b z; omega
    refine wpAny_dictSet_heap (hsz := hz) (knd := nestedKind X.prog X.w) (show A.units + 8 < cLine by omega) (nkey_is I.hok kb) m fun h' m' hsb => k _ _ ?_ q
    have he : ∃ q, h'.get? D = some q := let ⟨q, _, _, hq, _⟩ := m'; ⟨q, hq⟩
    exact d_write I (by rw [hd]; exact True.intro) hsb he (dn_new hl2 hsm (dn_put rr ks b rz) m')
end S
namespace S
open PySem PySem.Spec PyProof.Rows L2
/-! isinstance of a dict with tuple keys; its clear() -/
section
variable {X : Cx} {P : Program} {w : World} {K : Frag}
def rIsiN (P : Program) (w : World) (K : Frag) : List V → Hp → VK → Prop := fun xs H Q => ∃ (d : Addr) (c : V) (u : Value) (b : Bool) (kvs : List DnE), xs = [.ref d, c] ∧ ClsV c u ∧ H d = some (DNo P w kvs d) ∧ PySem.W.kitOne K (.type "dict") u = some b ∧ Q (.bl b) H
theorem isiNK (hK : X.K = K) (hP : X.prog = P) (hw : X.w = w) : CallR X (.builtin "isinstance") (rIsiN P w K) := by
  subst hK hP hw
  intro pins s σ H xs us Q I r h
  obtain ⟨d, c, u, b, kvs, rfl, k, hd, e, q⟩ := h
  obtain ⟨u1, u2, rfl, r1, r2⟩ := vals2 r
  have e2 := k.eq r2
  subst e2
  cases (show u1 = Value.ref d from r1)
  obtain ⟨⟨z, y, xs, rr, o, es, ep, h1, h2, _⟩, _⟩ := (show ObjOk X.prog X.w H s.heap d (DNo X.prog X.w kvs d) from I.hok d _ hd)
  exact PySem.W.kia_one PySem.W.kitx_dict I.kIn ⟨o, h1, h2.1⟩ e (fun z => nomatch z) fun tk => ⟨.bl b, H, I.tok tk, rfl, q⟩
theorem isiN2 (hK : X.K = K) (hP : X.prog = P) (hw : X.w = w) : CallR X (.builtin "isinstance") (fun xs H Q => rIsi K xs H Q ∨ rIsiN P w K xs H Q) := call_or (isiK hK) (isiNK hK hP hw)
def tClearN (P : Program) (w : World) (to : TE) : TE := fun σ H Q => to σ H fun x H1 => ∃ (d : Addr) (kvs : List DnE), x = .ref d ∧ H1 d = some (DNo P w kvs d) ∧ NKeysAt H1 kvs ∧ Q .non (upd H1 d (DNo P w [] d))
theorem pe_clearN {o : Expr} {to : TE} {apos cpos : Pos} (hP : X.prog = P) (hw : X.w = w) (ho : PE X o to) (hbase : attributeBase o "clear" X.env (eval o X.env) = eval o X.env := by rfl) (hline : (apos.endLine == cpos.line) = true := by rfl) :
    PE X (.Call (.Attribute o "clear" apos) [] [] cpos) (tClearN P w to) := by
  subst hP hw
  refine ⟨fun pins s σ H Q I h => ?_⟩
  refine wpAny_Call_method0_late hbase hline (thn (ho.run pins s σ H _ I h) fun v s1 ⟨x, H1, I1, r1, d, kvs, ex, hd, ka, q1⟩ => ?_)
  subst ex
  obtain rfl : v = Value.ref d := r1
  obtain ⟨z, hsm, xs, rr, m⟩ := dn_of I1.hok (.inl hd) ka
  refine ⟨"dict", "dict.clear", PySem.F.plainAttrs_dict, PySem.F.slot_dict_clear, PySem.F.type_dict_clear, m.typeIs, fun a q => ?_, Calls.callWith_builtin rfl (PySem.evalArgs_none ?_)⟩
  · cases q
    obtain ⟨ob, _, _, h1, h2, _⟩ := m
    exact ⟨ob, h1, h2.2.1⟩
  refine PySem.clear_keyed (knd := nestedKind X.prog X.w) ⟨xs, m, rfl⟩ (fun h' hk' hs' => ?_) (by rw [PySem.pairsH_length, ← Paired.length rr]; exact z)
  obtain ⟨ys, hy, ey⟩ := hk'
  have e0 : ys = [] := by
    have := congrArg List.length ey
    rw [PySem.pairsH_length] at this
    exact List.eq_nil_of_length_eq_zero this
  subst e0
  refine ⟨.non, _, ?_, rfl, q1⟩
  have he : ∃ q, h'.get? d = some q := let ⟨q, _, _, hq, _⟩ := hy; ⟨q, hq⟩
  exact d_write (t' := s1.toks) I1 (by rw [hd]; exact True.intro) hs' he (dn_new (Nat.zero_le _) hsm .nil hy)
end
end S
namespace S
open PySem PySem.Spec PyProof.Rows L2
/-! two rules for one node; min and max of a list -/
section
variable {X : Cx} {K : Frag}
def tEor (a b : TE) : TE := fun σ H Q => a σ H Q ∨ b σ H Q
def tTor (a b : TT) : TT := fun σ H Q => a σ H Q ∨ b σ H Q
def tSor (a b : TS) : TS := fun D σ H => a D σ H ∨ b D σ H
theorem pe_or2 {e : Expr} {a b : TE} (h1 : PE X e a) (h2 : PE X e b) : PE X e (tEor a b) := ⟨fun pins s σ H Q I h => h.elim (h1.run pins s σ H Q I) (h2.run pins s σ H Q I)⟩
theorem pt_or2 {e : Expr} {a b : TT} (h1 : PT X e a) (h2 : PT X e b) : PT X e (tTor a b) := ⟨fun pins s σ H Q I h => h.elim (h1.run pins s σ H Q I) (h2.run pins s σ H Q I)⟩
theorem ps_or2 {st : Stmt} {a b : TS} (h1 : PS X st a) (h2 : PS X st b) : PS X st (tSor a b) := ⟨fun pins s σ H D I h => h.elim (h1.run pins s σ H D I) (h2.run pins s σ H D I)⟩
theorem minK (hK : X.K = K) (hc : X.calm = true) : CallR X (.builtin "min") (rMin K) := hK ▸ cr_min hc
theorem maxK (hK : X.K = K) (hc : X.calm = true) : CallR X (.builtin "max") (rMax K) := hK ▸ cr_max hc
theorem boot_min : bootBuiltins "min" = some (.builtin "min") := by decide +kernel
theorem boot_max : bootBuiltins "max" = some (.builtin "max") := by decide +kernel
end
end S
namespace S
open PySem PySem.Spec PyProof.Rows L2
/-! name = {..} for a dict of any kind -/
theorem dcS_core {X : Cx} {pins : List (Addr × Obj)} {s : Shared} {σ : L2.St} {H : Hp} {Q : VK} {pos' : Pos} {use : Option (Value → Sem Unit)} {Qf : Value → Shared → Prop} {kx vx tg iter : Expr} {ifs : List Expr} {scope : Scope} {own : List (Str × Nat)} {pos : Pos} {wi : TI} {g : TG} {tt : TT} {tk tv : TE} {o0 : Addr → HO} {ST : Addr → V → V → Hp → (Hp → Prop) → Prop} (B : Store X.prog X.w X.A o0 ST)
    (hc : X.calm = true) (hN : X.N.Nodup) (hi : PI X tg iter wi) (ok : BlkOk X.N X.env.scope scope own)
    (hg : ∀ (s : Shared) (H : Hp) (C : Addr) (cl : List (Str × Addr)) (fp : List Addr), PG (X.blk s H scope (compEnvC scope cl C X.env) fp) tg g)
    (ht : ∀ (s : Shared) (H : Hp) (C : Addr) (cl : List (Str × Addr)) (fp : List Addr), PTs (X.blk s H scope (compEnvC scope cl C X.env) fp) ifs tt)
    (hk : ∀ (s : Shared) (H : Hp) (C : Addr) (cl : List (Str × Addr)) (fp : List Addr), PE (X.blk s H scope (compEnvC scope cl C X.env) fp) kx tk)
    (he : ∀ (s : Shared) (H : Hp) (C : Addr) (cl : List (Str × Addr)) (fp : List Addr), PE (X.blk s H scope (compEnvC scope cl C X.env) fp) vx tv) (hs : ∀ x, foldedSetIterable iter X.env x = pure x)
    (h : tDcS o0 ST wi g tt tk tv (own.map (·.2)) σ H Q) (I : Inv X pins σ H s)
    (hRR : ∀ D C s' m H', Inv X pins σ H' s' → Q (.ref D) H' → s'.heap.Ns C m → FpOk X pins H' C → compPost (model X.prog X.w) X.A X.xe use Qf (.ref D) C (.ok .next) s') :
    wpAny (model X.prog X.w) X.A (comprehension (.DictComp kx vx [⟨tg, iter, ifs, 0⟩] scope pos) scope X.env pos' newDict false (eval iter X.env) use) Qf X.xe s := by
  have clo : ∀ y ∈ scope.names, y.2 = .free → ∃ c, X.env.cells.lookup y.1 = some c := fun y hy e =>
    (ok.free y hy e).elim (fun k => I.ok.has _ (.inl k)) fun k => I.ok.has _ (.inr k)
  refine wpAny_comprehension_free (use := use) rfl hs (closure_ok clo) ok.kind (fun y hy e => by rw [ok.uniq y hy, e]) (thn (hi.run pins s σ H _ I h) fun _ s1 hx => thn hx fun _ s2 h2 => ?_)
  obtain ⟨it, fp, tn, J, H2, rfl, I2, T, t2, f2, q⟩ := h2
  refine wpAny_newObj_type (newEnv_comp ?_)
  generalize hD : s2.heap.objs.size = D
  obtain ⟨W, ⟨m0, w0⟩, turn⟩ := q D (I2.hok.fresh (Nat.le_of_eq hD))
  -- behind the new dict
  generalize hs3 : ({ s2 with heap := s2.heap.push { cls := .type "dict", data := .dict #[] } } : Shared) = s3
  have h3 : s3.heap = s2.heap.push { cls := .type "dict", data := .dict #[] } := by rw [← hs3]
  have keep3 : ∀ b o, s2.heap.get? b = some o → s3.heap.get? b = some o := fun b o e => by rw [h3]; exact Heap.get?_push_of_some _ e
  have I3 : Inv X pins σ (upd H2 D (o0 D)) s3 := by
    subst hD hs3
    exact I2.laid (t' := s2.toks) (fun b o e => Heap.get?_push_of_some _ e) (Nat.le_refl _) (B.new _ _ I2.big)
  have f3 : ∀ b ∈ fp, FpOk X pins (upd H2 D (o0 D)) b ∧ b < s3.heap.objs.size := fun b hb => by
    obtain ⟨o, e, _⟩ := T.obj _ _ t2 b hb
    have lt := Heap.lt_size e
    exact ⟨⟨by rw [upd_ne (by rw [← hD]; exact Nat.ne_of_lt lt)]; exact (f2 b hb).1, (f2 b hb).2⟩, by rw [h3, Heap.size_push]; exact Nat.lt_succ_of_lt lt⟩
  have I4 := block_start I3 ok hN f3
  show codeAny _ _ (.compStart _ 0 (.ref it) (.ref D) (compEnvC scope (cellsFrom (s3.heap.objs.size + 1) scope.names (cloFrom X.env.cells scope.names [])) s3.heap.objs.size X.env)) _ { s3 with heap := pushCells (s3.heap.push { cls := .type "dict", data := .dict #[] }) scope.names }
  generalize hH3 : upd H2 D (o0 D) = H3 at I3 f3 I4 w0
  generalize hcl : cellsFrom (s3.heap.objs.size + 1) scope.names (cloFrom X.env.cells scope.names []) = cl at I4 ⊢
  have pg := hg s3 H3 s3.heap.objs.size cl fp
  have pt := ht s3 H3 s3.heap.objs.size cl fp
  have pk := hk s3 H3 s3.heap.objs.size cl fp
  have pe := he s3 H3 s3.heap.objs.size cl fp
  have cL : (compEnvC scope cl s3.heap.objs.size X.env).locals = s3.heap.objs.size := rfl
  generalize compEnvC scope cl s3.heap.objs.size X.env = ce at I4 pg pt pk pe cL ⊢
  generalize hs4 : ({ s3 with heap := pushCells (s3.heap.push { cls := .type "dict", data := .dict #[] }) scope.names } : Shared) = s4 at I4 ⊢
  have t4 : tn 0 s4.heap := T.keep _ _ _ t2 fun b _ o e => by rw [← hs4]; exact pushCells_keeps _ _ _ _ (Heap.get?_push_of_some _ (keep3 b o e))
  -- the iterator's own objects, in the block
  have own_ : ∀ {σ' : L2.St} {H' : Hp} {s' : Shared}, Inv (X.blk s3 H3 scope ce fp) [] σ' H' s' → (∀ b ∈ fp, H' b = none) → ∀ b ∈ fp, FpOk (X.blk s3 H3 scope ce fp) [] H' b := fun I' hn b hb =>
    ⟨hn b hb, (I'.ok.exf b hb).1, I'.ok.exfs b hb, .inl hb, fun x c e => (I'.ok.exf b hb).2 x c e, fun p hp => absurd (show p ∈ ([] : List (Addr × Obj)) ++ [] from hp) (by simp)⟩
  let In : Nat → Shared → Prop := fun n s' => ∃ i H', Inv (X.blk s3 H3 scope ce fp) [] (wipe σ (own.map (·.2))) H' s' ∧ tn i s'.heap ∧ (∀ b ∈ fp, H' b = none) ∧ W i n H'
  have loop := compLoop_anyD (prog := X.prog) (w := X.w) (A := X.A) (R := compPost (model X.prog X.w) X.A X.xe use Qf (.ref D) s3.heap.objs.size) (kx := kx) (vx := vx) (target := tg) (iter := iter) (ifs := ifs) (scope := scope) (pos := pos) (it := .ref it) (D := D) (env := ce) In ?turn m0 ⟨0, H3, I4, t4, fun b hb => (f3 b hb).1.1, w0⟩ (s := s4)
  case turn =>
    rintro n s5 ⟨i, H5, I5, t5, n5, w5⟩
    rcases turn i n H5 w5 with ⟨st, qq⟩ | ⟨go, Nx, hNx, step⟩
    · refine thnF (T.done (X.blk s3 H3 scope ce fp) rfl rfl rfl hc i [] s5 _ H5 (fun _ _ => False) I5 (own_ I5 n5) t5 st) fun _ s6 ⟨hr, I6⟩ => ?_
      subst hr
      obtain ⟨m, hn, _⟩ := I6.loc
      have free : H5 ce.locals = none := I6.free
      rw [cL] at free
      have hn' : s6.heap.Ns ce.locals m := hn
      rw [cL] at hn'
      refine hRR D s3.heap.objs.size s6 m H5 (I3.call' (ch := fp) I6.os I6.base I6.hok I6.bare fun b hb => ?_) qq hn' (I3.fpOk (Nat.le_refl _) free)
      obtain ⟨_, g1, g2, g3, g4, g5⟩ := (f3 b hb).1
      exact ⟨g3, g1, g4, g5⟩
    · refine thnF (T.item (X.blk s3 H3 scope ce fp) rfl rfl rfl hc i [] s5 _ H5 (fun _ _ => False) I5 (own_ I5 n5) t5 go) fun _ s6 ⟨u, hr, h6⟩ => ?_
      subst hr
      refine thnF h6 fun _ s7 ⟨x, H7, I7, r7, y7, t7, n7⟩ => ?_
      have back : ∀ {σ8 : L2.St} {s' : Shared} {H' : Hp}, wipe σ8 (own.map (·.2)) = wipe σ (own.map (·.2)) → Inv (X.blk s3 H3 scope ce fp) ([] ++ pinsAt fp s7.heap) σ8 H' s' → Nx H' → ∃ m, m < n ∧ In m s' := fun {σ8 s' H'} hw I' nx => by
        obtain ⟨m', hm, w'⟩ := hNx H' nx
        have pin : ∀ b ∈ fp, ∀ o, s7.heap.get? b = some o → s'.heap.get? b = some o ∧ H' b = none := fun b hb o e =>
          let z := I'.pin (b, o) (List.mem_append_right _ (List.mem_append_right _ (mem_pinsAt hb e)))
          ⟨z.1, z.2.1⟩
        refine ⟨m', hm, i + 1, H', (I'.unpinned (pins := [])).weak (by rw [← hw, wipe_length]) (fun j v e => ?_), T.keep _ _ _ t7 fun b hb o e => (pin b hb o e).1, fun b hb => ?_, w'⟩
        · rw [← hw] at e
          exact (wipe_some e).1
        · obtain ⟨o, e, _⟩ := T.obj _ _ t7 b hb
          exact (pin b hb o e).2
      refine thnF (pg.run _ s7 _ H7 x u _ (I7.pinned (own_ I7 n7) (T.obj _ _ t7)) r7 (step x H7 y7)) fun _ s8 ⟨σ8, H8, I8, hw8, q8⟩ => ?_
      refine thnF (pt.run _ s8 σ8 H8 _ I8 q8) fun b s9 ⟨H9, I9, q9⟩ => ?_
      cases b with
      | false => exact back hw8 I9 q9
      | true => exact thnF (pk.run _ s9 σ8 H9 _ I9 q9) fun _ s10 ⟨yk, H10, I10, r10, q10⟩ => thnF (pe.run _ s10 σ8 H10 _ I10 q10) fun _ s11 ⟨yv, H11, I11, r11, q11⟩ => B.put (X := X.blk s3 H3 scope ce fp) rfl rfl I11 r10 r11 q11 fun s12 H12 I12 nx => back hw8 I12 nx
  exact codeAny_compStart_dict loop (T.self X.A 0 _ _ _ t4 loop)
section
variable {X : Cx}
theorem ps_setDcS {o0 : Addr → HO} {ST : Addr → V → V → Hp → (Hp → Prop) → Prop} {i : Nat} {y : Str} {py : Pos} {kx vx tg iter : Expr} {ifs : List Expr} {scope : Scope} {own : List (Str × Nat)} {pos spos : Pos} {wi : TI} {g : TG} {tt : TT} {tk tv : TE} (B : Store X.prog X.w X.A o0 ST) (hc : X.calm = true) (hN : X.N.Nodup) (hy : X.N[i]? = some y) (hyl : X.env.scope.names.lookup y = some .local)
    (hsw : swapsWith (.DictComp kx vx [⟨tg, iter, ifs, 0⟩] scope pos) (some (.Name y py)) spos.line X.env = pure true) (hi : PI X tg iter wi) (ok : BlkOk X.N X.env.scope scope own)
    (hg : ∀ (s : Shared) (H : Hp) (C : Addr) (cl : List (Str × Addr)) (fp : List Addr), PG (X.blk s H scope (compEnvC scope cl C X.env) fp) tg g) (ht : ∀ (s : Shared) (H : Hp) (C : Addr) (cl : List (Str × Addr)) (fp : List Addr), PTs (X.blk s H scope (compEnvC scope cl C X.env) fp) ifs tt)
    (hk : ∀ (s : Shared) (H : Hp) (C : Addr) (cl : List (Str × Addr)) (fp : List Addr), PE (X.blk s H scope (compEnvC scope cl C X.env) fp) kx tk)
    (he : ∀ (s : Shared) (H : Hp) (C : Addr) (cl : List (Str × Addr)) (fp : List Addr), PE (X.blk s H scope (compEnvC scope cl C X.env) fp) vx tv) (hs : ∀ x, foldedSetIterable iter X.env x = pure x := by intro _; rfl) :
    PS X (.Assign [.Name y py] (.DictComp kx vx [⟨tg, iter, ifs, 0⟩] scope pos) spos) (tAsg (tDcS o0 ST wi g tt tk tv (own.map (·.2))) (gName i)) := by
  refine ⟨fun pins s σ H D I h => ?_⟩
  rw [exec_Assign_Name_used _ _ _ _ hsw]
  refine wpAny_bind (wpAny_standAt (wpAny_bind ?_))
  show wpAny _ X.A (do let _ ← comprehension (.DictComp kx vx [⟨tg, iter, ifs, 0⟩] scope pos) scope X.env (firstIterPos [⟨tg, iter, ifs, 0⟩] pos) newDict false (eval iter X.env) (some (assign (.Name y py) X.env))) _ _ s
  have h : tDcS o0 ST wi g tt tk tv (own.map (·.2)) σ H (fun x H1 => gName i x σ H1 D.nx) := h
  refine wpAny_bind (thn (dcS_core (Qf := fun _ s' => SP X pins D .next s') B hc hN hi ok hg ht hk he hs h I fun L C s' m H' I' q hn f => ?_) fun _ s' hq => wpAny_pure (wpAny_pure hq))
  show wpAny _ _ (assign (.Name y py) X.env (.ref L)) _ _ _
  obtain ⟨f0, f1, f2, f3, f4, f5⟩ := f
  refine wpAny_assign_Name (store_ok2 (v := V.ref L) I' hN hy (.inl hyl) rfl (fun s2 I2 ⟨a, sb, ha⟩ => ?_) (.inr hyl))
  have haC : C ≠ a := ha.elim (fun z => by rw [z]; exact f1) fun z e => f4 y a z e.symm
  exact ⟨m, hn.sameBut sb haC, fun h3 sb3 => ⟨_, H', I2.turned (t' := s2.toks) (fun b o hb e => (sb3.2 b hb).trans e) f0 f1 f3 f4 f5, q⟩⟩
end
end S
namespace S
open PySem PySem.Spec PyProof.Rows L2 GenW
/-! for and if with a yield in their bodies -/
section
variable {prog : Program} {w : World} {A : Around} {R : GenEnd} {Y : Protocol} {n : Nat} {s₀ : Shared} {fs : List Frame} {s : Shared} {env : Env}
abbrev notes (env : Env) (x : Value) : Sem PySem.Fin := (do noteFrame x env; theTreesLotGoes x : Sem Unit).wrap (fun _ => .raise x) .raise id id
theorem seg_forLoop {target : Expr} {it : Value} {body : List Stmt}
    (h : wpAny (model prog w) (A.over (.forLoop target it body [] env) fs) (pyNext it) (fun r s' => match r with
        | none => Seg (model prog w) A R Y n s₀ (.block [] env) ((model prog w).den (.block [] env)) fs s'
        | some v => wpAny (model prog w) (A.over (.forLoop target it body [] env) fs) (letOwnedTupleGo target it v) (fun _ s1 =>
            wpAny (model prog w) (A.over (.forLoop target it body [] env) fs) (assign target env v) (fun _ s2 =>
              Seg (model prog w) A R Y n s₀ (.forLoop target it body [] env) ((execs body env).wrap (fun f => match f with
                | .next | .cont => .pure (.again (.forLoop target it body [] env))
                | .brk => .pure (.done .next)
                | .ret v => .pure (.done (.ret v))) (notes env) id id) fs s2)
              (fun x s' => Seg (model prog w) A R Y n s₀ (.forLoop target it body [] env) (notes env x) fs s') s1)
            (fun x s' => Seg (model prog w) A R Y n s₀ (.forLoop target it body [] env) (notes env x) fs s') s')
      (fun x s' => Seg (model prog w) A R Y n s₀ (.forLoop target it body [] env) (notes env x) fs s') s) :
    Seg (model prog w) A R Y n s₀ (.forLoop target it body [] env) ((model prog w).den (.forLoop target it body [] env)) fs s := by
  have hn : ∀ x, (do noteFrame x env; theTreesLotGoes x : Sem Unit).bind (fun _ => (.raise x : Sem PySem.Fin)) = notes env x := fun x => by
    first | exact Sem.bind_eq_wrap _ _ | (rw [Sem.bind_eq_wrap])
  show Seg _ A R Y n s₀ _ ((forTurn target it body [] env).onRaise (fun x => do noteFrame x env; theTreesLotGoes x)) fs s
  unfold forTurn
  rw [Sem.onRaise_eq_wrap]
  refine seg_bind_wrap (wpAny_standAt ?_)
  refine seg_bind_wrap (wpAny_onRaise (wpAny_mono h (fun r s' hr => ?_) fun x s' hx => wpAny_standAt ?_))
  · cases r with
    | none =>
      show Seg _ A R Y n s₀ _ (.pure (.again (.block [] env))) fs s'
      exact seg_again rfl hr
    | some v =>
      show Seg _ A R Y n s₀ _ ((letOwnedTupleGo target it v >>= fun _ => assign target env v >>= fun _ => execs body env >>= fun f => match f with
          | Flow.next => again (Code.forLoop target it body [] env)
          | Flow.cont => again (Code.forLoop target it body [] env)
          | Flow.brk => pure (Fin.done Flow.next)
          | Flow.ret v => pure (Fin.done (Flow.ret v)) : Sem PySem.Fin).wrap Sem.pure _ id id) fs s'
      refine seg_bind_wrap (wpAny_mono hr (fun _ s1 h1 => ?_) fun x s' hx => by rw [hn]; exact hx)
      refine seg_bind_wrap (wpAny_mono h1 (fun _ s2 h2 => ?_) fun x s' hx => by rw [hn]; exact hx)
      rw [Sem.bind_eq_wrap', Sem.wrap_wrap]
      rw [Sem.wrap_congr (execs body env) _ _ (K' := fun f => match f with
            | .next | .cont => .pure (.again (.forLoop target it body [] env))
            | .brk => .pure (.done .next)
            | .ret v => .pure (.done (.ret v))) (H' := notes env)
        (fun f => by cases f <;> rfl) (fun e => by exact hn e)]
      exact h2
  · rw [hn]
    exact hx
/-- a loop's own code, called -/
theorem seg_runOwn {M : Model} {c c' : Code} {K : Flow → Sem PySem.Fin} {H : Value → Sem PySem.Fin} {gd : Bool → Bool} {lv : List Value → List Value}
    (h : ∀ p, Seg M A R Y n s₀ c' (M.den c') (.ret (fun r => ((match r with | .ok f => (.pure f : Sem Flow) | .error e => .raise e).onRaise (cameBack env)).wrap K H gd lv) none (gd false) (lv []) c p [] :: fs) s) :
    Seg M A R Y n s₀ c ((runOwn c' env).wrap K H gd lv) fs s := seg_call h
theorem seg_For {M : Model} {c : Code} {K : Flow → Sem PySem.Fin} {H : Value → Sem PySem.Fin} {gd : Bool → Bool} {lv : List Value → List Value} {target iter : Expr} {body : List Stmt} {pos : Pos}
    (hs : ∀ x, foldedSetIterable iter env x = pure x)
    (h : wpAny M (A.over c fs) (eval iter env) (fun x s1 => wpAny M (A.over c fs) (pyIter x) (fun it s2 =>
      ∀ p, Seg M A R Y n s₀ (.forLoop target it body [] env) (M.den (.forLoop target it body [] env)) (.ret (fun r => ((match r with | .ok f => (.pure f : Sem Flow) | .error e => .raise e).onRaise (cameBack env)).wrap K H gd lv) none (gd false) (lv []) c p [] :: fs) s2)
      (fun x s' => Seg M A R Y n s₀ c (H x) fs s') s1) (fun x s' => Seg M A R Y n s₀ c (H x) fs s') s) :
    Seg M A R Y n s₀ c ((exec (.For target iter body [] pos) env).wrap K H gd lv) fs s := by
  rw [exec_For]
  refine seg_bind_wrap (wpAny_standAt ?_)
  refine seg_bind_wrap (wpAny_mono h (fun x s1 h1 => ?_) fun _ _ hx => hx)
  refine seg_bind_wrap (wpAny_of_eq (hs x) ?_)
  refine seg_bind_wrap (wpAny_standAt ?_)
  refine seg_bind_wrap (wpAny_holding (wpAny_mono h1 (fun it s2 h2 => ?_) fun _ _ hx => hx))
  exact seg_runOwn h2
end
section
variable {X : Cx}
def tGFor (wi : TI) (g : TG) (tb : TGn) : TGn := fun D ys σ H => wi σ H fun J H1 => ∃ W : Nat → Nat → List V → L2.St → Hp → Prop, (∃ m, W 0 m ys σ H1) ∧ ∀ i m ys σ H, W i m ys σ H →
  (J.stop i H ∧ D.nx ys σ H) ∨ (J.go i H ∧ ∃ N : List V → L2.St → Hp → Prop, (∀ ys' σ' H', N ys' σ' H' → ∃ m', m' < m ∧ W (i + 1) m' ys' σ' H') ∧ ∀ x H', J.yld i H x H' → g x σ H' fun σ2 H2 => tb { D with nx := N, ct := N, bk := D.nx } ys σ2 H2)
theorem gs_for {tg iter : Expr} {body : List Stmt} {wi : TI} {g : TG} {tb : TGn} {pos : Pos} (hp : PassesOwn (model X.prog X.w) X.A X.env X.xe) (hc : X.calm = true) (hi : PI X tg iter wi) (hg : PG X tg g) (hb : GSs X body tb)
    (hs : ∀ x, foldedSetIterable iter X.env x = pure x := by intro _; rfl) : GS X (.For tg iter body [] pos) (tGFor wi g tb) := by
  refine ⟨fun A S ip R n ys s₀ c fs K J gd lv s σ H D g0 hn k hI ht => ?_⟩
  obtain ⟨acc0, cc0, r0, I0⟩ := hI
  refine seg_For hs ?_
  rw [g0.over]
  refine wpAny_mono (hi.run _ s σ H _ I0 ht) (fun v s1 h1 => wpAny_mono h1 (fun itv s2 h2 => ?_) fun x s' hx => k.exc n s₀ x s' hx) fun x s' hx => k.exc n s₀ x s' hx
  obtain ⟨it, fp, tn, Jt, H2, e, I2, T, st2, f2, W, ⟨m0, w0⟩, turn⟩ := h2
  subst e
  intro p
  have stat : ∀ {H' : Hp} {acc : Array Value} {cc : Nat}, (∀ b ∈ fp, H' b = none) → ∀ b ∈ fp, FpOk X ((S, lstObj acc cc) :: ip) H' b := fun hn b hb => by
    obtain ⟨q1, q2, q3, q4, q5, q6⟩ := f2 b hb
    refine ⟨hn b hb, q2, q3, q4, q5, fun p hp => ?_⟩
    rcases List.mem_append.mp hp with hp | hp
    · exact q6 p (List.mem_append_left _ hp)
    · rcases List.mem_cons.mp hp with hp | hp
      · rw [hp]
        exact q6 (S, lstObj acc0 cc0) (List.mem_append_right _ List.mem_cons_self)
      · exact q6 p (List.mem_append_right _ (List.mem_cons_of_mem _ hp))
  have nS : ∀ b ∈ fp, b ≠ S := fun b hb e => by
    obtain ⟨_, _, _, _, _, q6⟩ := f2 b hb
    exact q6 (S, lstObj acc0 cc0) (List.mem_append_right _ List.mem_cons_self) e.symm
  have gl := fun (kk : Result → Sem PySem.Fin) => gc_loop (k := kk) (c' := .forLoop tg (.ref it) body [] X.env) (l := lv []) (kp := []) (p := p) g0 rfl rfl
  have loop : ∀ (m n : Nat) (i : Nat) (ys : List V) (s₀ s : Shared) (σ : L2.St) (H : Hp) (acc : Array Value) (cc : Nat), n + ys.length = sizeLine → W i m ys σ H → Vals ys acc.toList → Inv X ((S, lstObj acc cc) :: ip) σ H s → tn i s.heap → (∀ b ∈ fp, H b = none) →
      Seg (model X.prog X.w) A R (GY X S) n s₀ (.forLoop tg (.ref it) body [] X.env) ((model X.prog X.w).den (.forLoop tg (.ref it) body [] X.env))
        (.ret (fun r => ((match r with | .ok f => (.pure f : Sem Flow) | .error e => .raise e).onRaise (cameBack X.env)).wrap K J gd lv) none (gd false) (lv []) c p [] :: fs) s := by
    intro m
    induction m using Nat.strongRecOn with
    | ind m ih =>
      intro n i ys s₀ s σ H acc cc hn w r I st fr
      have ee : ∀ (n : Nat) (s₀ : Shared) (x : Value) (s' : Shared), X.xe x s' → Seg (model X.prog X.w) A R (GY X S) n s₀ (.forLoop tg (.ref it) body [] X.env) (notes X.env x)
          (.ret (fun r => ((match r with | .ok f => (.pure f : Sem Flow) | .error e => .raise e).onRaise (cameBack X.env)).wrap K J gd lv) none (gd false) (lv []) c p [] :: fs) s' := fun n s₀ x s' hx => by
        refine seg_wrap ?_
        rw [(gl _).over]
        refine wpAny_bind (wpAny_mono (hp x s' hx) (fun _ s'' hcb => wpAny_theTreesLotGoes ?_) fun y s'' hcb => ?_)
        · exact seg_leaf (.error x) (seg_cameBack g0 k hcb)
        · exact seg_leaf (.error y) (seg_cameBack g0 k hcb)
      refine seg_forLoop ?_
      rw [(gl _).over]
      rcases turn i m ys σ H w with ⟨stop, qn⟩ | ⟨go, N, hN, step⟩
      · refine wpAny_mono (T.done X rfl rfl rfl hc i _ s σ H X.xe I (stat fr) st stop) (fun r' s4 ⟨hr, I4⟩ => ?_) fun x s' hx => ee n s₀ x s' hx
        subst hr
        show Seg _ _ _ _ _ _ _ ((model X.prog X.w).den (.block [] X.env)) _ _
        show Seg _ _ _ _ _ _ _ (.pure (.done .next)) _ _
        exact seg_leaf (.ok .next) (k.ok n ys s₀ s4 .next hn ⟨σ, H, ⟨acc, cc, r, I4⟩, qn⟩)
      · refine wpAny_mono (T.item X rfl rfl rfl hc i _ s σ H X.xe I (stat fr) st go) (fun r' s4 ⟨u, hr, h4⟩ => ?_) fun x s' hx => ee n s₀ x s' hx
        subst hr
        refine wpAny_mono h4 (fun _ s5 ⟨x, H5, I5, r5, y5, st5, fr5⟩ => ?_) fun x s' hx => ee n s₀ x s' hx
        have I5' := I5.pinned (stat fr5) (T.obj _ _ st5)
        refine wpAny_mono (hg.run _ s5 σ H5 x u _ I5' r5 (step x H5 y5)) (fun _ s6 ⟨σ6, H6, I6, q6⟩ => ?_) fun x s' hx => ee n s₀ x s' hx
        refine hb.run A S (ip ++ pinsAt fp s5.heap) R n ys s₀ _ _ _ _ id id s6 σ6 H6 { D with nx := N, ct := N, bk := D.nx } ⟨g0.pn, fun p hp => ?_, g0.apart, (gl _).over, (gl _).split, (gl _).guard, rfl⟩ hn ⟨fun n' ys' s₀' s3 f hn' hs => ?_, fun n' s₀' x s3 hx => ee n' s₀' x s3 hx⟩ ⟨acc, cc, r, I6⟩ q6
        · rcases List.mem_append.mp hp with hp | hp
          · exact g0.ip p hp
          · exact nS _ (of_pinsAt hp).1
        have again : ∀ {σ7 : L2.St} {H7 : Hp}, GI X S (ip ++ pinsAt fp s5.heap) ys' σ7 H7 s3 → N ys' σ7 H7 → Seg (model X.prog X.w) A R (GY X S) n' s₀' (.forLoop tg (.ref it) body [] X.env) (.pure (.again (.forLoop tg (.ref it) body [] X.env)))
            (.ret (fun r => ((match r with | .ok f => (.pure f : Sem Flow) | .error e => .raise e).onRaise (cameBack X.env)).wrap K J gd lv) none (gd false) (lv []) c p [] :: fs) s3 := fun {σ7 H7} I7 n7 => by
          obtain ⟨acc7, cc7, r7, I7⟩ := I7
          obtain ⟨m', hm, w7⟩ := hN ys' σ7 H7 n7
          have pin7 : ∀ {b : Addr} {o : Obj}, b ∈ fp → s5.heap.get? b = some o → (b, o) ∈ X.pn ++ ((S, lstObj acc7 cc7) :: (ip ++ pinsAt fp s5.heap)) := fun hb e => List.mem_append_right _ (List.mem_cons_of_mem _ (List.mem_append_right _ (mem_pinsAt hb e)))
          have I8 : Inv X (((S, lstObj acc7 cc7) :: ip) ++ pinsAt fp s5.heap) σ7 H7 s3 := I7
          refine seg_again rfl (ih m' hm n' (i + 1) ys' s₀' s3 σ7 H7 acc7 cc7 hn' w7 r7 I8.unpinned (T.keep _ _ _ st5 fun b hb o e => (I7.pin (b, o) (pin7 hb e)).1) fun b hb => ?_)
          obtain ⟨o, e, d⟩ := T.obj _ _ st5 b hb
          exact (I7.pin (b, o) (pin7 hb e)).2.1
        cases f with
        | next =>
          obtain ⟨σ7, H7, I7, n7⟩ := hs
          exact again I7 n7
        | cont =>
          obtain ⟨σ7, H7, I7, n7⟩ := hs
          exact again I7 n7
        | brk =>
          obtain ⟨σ7, H7, ⟨acc7, cc7, r7, I7⟩, q7⟩ := hs
          have I8 : Inv X (((S, lstObj acc7 cc7) :: ip) ++ pinsAt fp s5.heap) σ7 H7 s3 := I7
          exact seg_leaf (.ok .next) (k.ok n' ys' s₀' s3 .next hn' ⟨σ7, H7, ⟨acc7, cc7, r7, I8.unpinned⟩, q7⟩)
        | ret v =>
          obtain ⟨v7, σ7, H7, ⟨acc7, cc7, r7, I7⟩, rv, q7⟩ := hs
          have I8 : Inv X (((S, lstObj acc7 cc7) :: ip) ++ pinsAt fp s5.heap) σ7 H7 s3 := I7
          exact seg_leaf (.ok (.ret v)) (k.ok n' ys' s₀' s3 (.ret v) hn' ⟨v7, σ7, H7, ⟨acc7, cc7, r7, I8.unpinned⟩, rv, q7⟩)
  exact loop m0 n 0 ys s₀ s2 σ H2 acc0 cc0 hn w0 r0 I2 st2 fun b hb => (f2 b hb).1
theorem gfor_list {K : Frag} {a : Addr} {xs : List V} {g : TG} {tb : TGn} {D : GEnds} {ys : List V} {σ : L2.St} {H : Hp} (Pv : Nat → List V → L2.St → Hp → Prop) (h0 : Pv 0 ys σ H) (hl : ∀ i ys σ H, i ≤ xs.length → Pv i ys σ H → SqL K H a xs)
    (hs : ∀ i x ys σ H, xs[i]? = some x → Pv i ys σ H → g x σ H fun σ2 H2 => tb { D with nx := Pv (i + 1), ct := Pv (i + 1), bk := D.nx } ys σ2 H2) (hd : ∀ ys σ H, Pv xs.length ys σ H → D.nx ys σ H) :
    ∃ W : Nat → Nat → List V → L2.St → Hp → Prop, (∃ m, W 0 m ys σ H) ∧ ∀ i m ys σ H, W i m ys σ H →
      ((Itl K a).stop i H ∧ D.nx ys σ H) ∨ ((Itl K a).go i H ∧ ∃ N : List V → L2.St → Hp → Prop, (∀ ys' σ' H', N ys' σ' H' → ∃ m', m' < m ∧ W (i + 1) m' ys' σ' H') ∧ ∀ x H', (Itl K a).yld i H x H' → g x σ H' fun σ2 H2 => tb { D with nx := N, ct := N, bk := D.nx } ys σ2 H2) := by
  refine ⟨fun i m ys σ H => m = xs.length - i ∧ i ≤ xs.length ∧ Pv i ys σ H, ⟨xs.length, by simp, Nat.zero_le _, h0⟩, ?_⟩
  rintro i m ys σ H ⟨rfl, hi, p⟩
  have q := hl i ys σ H hi p
  by_cases hlt : i < xs.length
  · refine .inr ⟨⟨xs, xs[i], q, by simp [hlt]⟩, Pv (i + 1), fun ys' σ' H' p' => ⟨xs.length - (i + 1), by omega, rfl, hlt, p'⟩, fun x H' y => ?_⟩
    obtain ⟨e, y⟩ := y
    subst e
    exact hs i x ys σ _ (y xs q) p
  · have e : i = xs.length := by omega
    subst e
    exact .inl ⟨⟨xs, q, Nat.le_refl _⟩, hd ys σ H p⟩
theorem gfor_range {lo : Int} {n : Nat} {g : TG} {tb : TGn} {D : GEnds} {ys : List V} {σ : L2.St} {H : Hp} (Pv : Nat → List V → L2.St → Hp → Prop) (h0 : Pv 0 ys σ H)
    (hs : ∀ i ys σ H, i < n → Pv i ys σ H → g (.int (lo + i)) σ H fun σ2 H2 => tb { D with nx := Pv (i + 1), ct := Pv (i + 1), bk := D.nx } ys σ2 H2) (hd : ∀ ys σ H, Pv n ys σ H → D.nx ys σ H) :
    ∃ W : Nat → Nat → List V → L2.St → Hp → Prop, (∃ m, W 0 m ys σ H) ∧ ∀ i m ys σ H, W i m ys σ H →
      ((Itr lo n).stop i H ∧ D.nx ys σ H) ∨ ((Itr lo n).go i H ∧ ∃ N : List V → L2.St → Hp → Prop, (∀ ys' σ' H', N ys' σ' H' → ∃ m', m' < m ∧ W (i + 1) m' ys' σ' H') ∧ ∀ x H', (Itr lo n).yld i H x H' → g x σ H' fun σ2 H2 => tb { D with nx := N, ct := N, bk := D.nx } ys σ2 H2) := by
  refine ⟨fun i m ys σ H => m = n - i ∧ i ≤ n ∧ Pv i ys σ H, ⟨n, by simp, Nat.zero_le _, h0⟩, ?_⟩
  rintro i m ys σ H ⟨rfl, hi, p⟩
  by_cases hlt : i < n
  · refine .inr ⟨hlt, Pv (i + 1), fun ys' σ' H' p' => ⟨n - (i + 1), by omega, rfl, hlt, p'⟩, fun x H' y => ?_⟩
    obtain ⟨e, y⟩ := y
    subst e y
    exact hs i ys σ _ hlt p
  · have e : i = n := by omega
    subst e
    exact .inl ⟨Nat.le_refl _, hd ys σ H p⟩
def tGIf (c : TT) (t u : TGn) : TGn := fun D ys σ H => c σ H fun b H1 => if b = true then t D ys σ H1 else u D ys σ H1
theorem gs_if {c : Expr} {a b : List Stmt} {tc : TT} {t u : TGn} {pos : Pos} (hc : PT X c tc) (ha : GSs X a t) (hb : GSs X b u) : GS X (.If c a b pos) (tGIf tc t u) := by
  refine ⟨fun A S ip R n ys s₀ cd fs K J gd lv s σ H D g hn k hI ht => ?_⟩
  obtain ⟨acc, cc, r, I⟩ := hI
  rw [exec_If]
  refine seg_bind_wrap (wpAny_standAt ?_)
  refine seg_bind_wrap ?_
  rw [g.over]
  refine wpAny_mono (hc.run _ s σ H _ I ht) (fun d s1 h1 => ?_) fun x s' hx => k.exc n s₀ x s' hx
  obtain ⟨H1, I1, q⟩ := h1
  cases d with
  | true => exact ha.run A S ip R n ys s₀ cd fs K J gd lv s1 σ H1 D g hn k ⟨acc, cc, r, I1⟩ q
  | false => exact hb.run A S ip R n ys s₀ cd fs K J gd lv s1 σ H1 D g hn k ⟨acc, cc, r, I1⟩ q
end
/-! a generator def's promise, by the number of its arguments -/
def SpG1 (f : V → Hp → (List V → Hp → Prop) → XK → Prop) : SpG := fun vs H Q E => ∃ x, vs = [x] ∧ f x H Q E
def SpG2 (f : V → V → Hp → (List V → Hp → Prop) → XK → Prop) : SpG := fun vs H Q E => ∃ x y, vs = [x, y] ∧ f x y H Q E
section
variable {vs : List V} {H : Hp} {Q : List V → Hp → Prop} {E : XK}
theorem sgplen1 {f} (h : SpG1 f vs H Q E) : vs.length = 1 := by obtain ⟨_, rfl, _⟩ := h; rfl
theorem sgplen2 {f} (h : SpG2 f vs H Q E) : vs.length = 2 := by obtain ⟨_, _, rfl, _⟩ := h; rfl
end
section
variable {P : Program} {w : World} {K : PySem.W.Frag} {mg : Str → Option Value} {base : Heap} {x qual : Str} {params : Arguments} {body : List Stmt} {scope : Scope} {dvs : List V} {kws : List (Str × V)} {f : Addr} {fd : FuncData}
theorem FunD.okG {N ps : List Str} {k : Nat} {sp : SpG} (F : FunD K x qual params body scope dvs kws f fd) (S : GScope N ps scope) (len : ∀ vs H Q E, sp vs H Q E → vs.length = ps.length)
    (hbody : ∀ (cdv : Value) (A : Around) (outer : List Env) (s : Shared) (H : Hp) (vs : List V) (Q : List V → Hp → Prop) (E : XK) (pn : List (Addr × Obj)), Room k (A.deeper (envOfC qual scope s.heap.objs.size f cdv)) → sp vs H Q E →
      ∃ t, GSs (gcxOf P w K mg base N qual scope f cdv A outer s H E pn) body t ∧ t { nx := fun ys _ H' => Q ys H', rt := fun ys v H' => v = .non ∧ Q ys H' } [] (L2.start N vs) H) : GFn P w K mg base (k + 1) f fd ps sp := by
  obtain ⟨oc, od, dV, kV, doc, pm, an, cdv, ct, osl, rfl, lk, hcd, _, _⟩ := F.ex
  exact gfn_of lk hcd S len fun A outer s H vs Q E pn hr hsp => hbody cdv A outer s H vs Q E pn hr hsp
end
/-! one def, two promises -/
def spOr (a b : Sp) : Sp := fun vs H Q E => a vs H Q E ∨ b vs H Q E
theorem fnOr {P : Program} {w : World} {K : PySem.W.Frag} {mg : Str → Option Value} {base : Heap} {CX : CXT} {k : Nat} {f : Addr} {fd : FuncData} {ps : List Str} {a b : Sp} (h1 : FnOk P w K mg base CX k f fd ps a) (h2 : FnOk P w K mg base CX k f fd ps b) : FnOk P w K mg base CX k f fd ps (spOr a b) where
  len := fun vs H Q E h => h.elim (h1.len vs H Q E) (h2.len vs H Q E)
  run := fun A outer s H args us vs Q E hr e0 hb r h => h.elim (h1.run A outer s H args us vs Q E hr e0 hb r) (h2.run A outer s H args us vs Q E hr e0 hb r)
/-! a def without arguments -/
def Sp0 (f : Hp → VK → XK → Prop) : Sp := fun vs H Q E => vs = [] ∧ f H Q E
theorem splen0 {f : Hp → VK → XK → Prop} {vs : List V} {H : Hp} {Q : VK} {E : XK} (h : Sp0 f vs H Q E) : vs.length = 0 := by obtain ⟨rfl, _⟩ := h; rfl
section
variable {X : Cx} {CX : CXT} {k : Nat} {f : Addr} {fd : FuncData} {ps ks : List Str} {sp : Sp} {E : L2.St → XK} {x : Str} {p pos : Pos} {kws : List Keyword} {tk : TA} {g : List Value → List Value → List Value} {gV : List V → List V → List V}
theorem pe_fnS0 (F : FnOk X.prog X.w X.K X.mg X.base CX k f fd ps sp) (hr : Room k X.A) (hg : Gl X x) (hm : X.mg x = some (.ref f)) (hk : PySem.W.keepIn X.K (.ref f) = true) (hb : KBn X.K fd ps 0 ks g gV) (hx : ∀ σ, PassesAt CX X σ (E σ))
    (hkw : PK X kws tk) (hall : (backToKw pos (keywordEach kws X.env)).all (·.1.isSome) = true) (hks : (backToKw pos (keywordEach kws X.env)).filterMap (·.1) = ks)
    (hdb : (x == ("__debug__" : Str)) = false := by decide)
    (hpl : ((backTo pos (starEach [] X.env)).any (·.1) || (backToKw pos (keywordEach kws X.env)).any (·.1.isNone)) = false := by rfl) :
    PE X (.Call (.Name x p) [] kws pos) (tFnS 0 ks.length sp gV E tNil tk) := ⟨fun pins s σ H Q I h =>
  wpAny_Call_Name_kw (ld_glob I hg hm (PySem.W.callWith_KW0 (first := []) (h₀ := X.base) I.ok.mod.kin hk hall
    (thn (hkw.run pos pins s σ H _ I h) fun ws s2 ⟨zs, H2, I2, rz, l1, l2, q2⟩ => ⟨I2.kIn, by rw [hks]; exact run_S (us := []) (vs := []) F hr hb (hx σ) I2 .nil rz l1 l2 q2⟩) hpl) hdb)⟩
end
theorem isiLT {X : Cx} {K : Frag} (hK : X.K = K) (u : Value) : CallR X (.builtin "isinstance") (SlX.rIsiSl K u) := hK ▸ SlX.call_isiSl u
end S
namespace S
open PySem PySem.Spec PyProof.Rows L2
/-! defs of seven arguments -/
def Sp7 (f : V → V → V → V → V → V → V → Hp → VK → XK → Prop) : Sp := fun vs H Q E => ∃ x y z u v w t, vs = [x, y, z, u, v, w, t] ∧ f x y z u v w t H Q E
theorem splen7 {vs : List V} {H : Hp} {Q : VK} {E : XK} {f} (h : Sp7 f vs H Q E) : vs.length = 7 := by obtain ⟨_, _, _, _, _, _, _, rfl, _⟩ := h; rfl
end S
namespace S
open PySem PySem.Spec PyProof.Rows L2 HT
/-! t[::-1] of a tuple -/
section
variable {prog : Program} {w : World} {A : Around} {E : Value → Shared → Prop} {s : Shared}
theorem rv_places (n : Nat) : Builtin.Slice.slicePlaces ((n : Int) - 1) (-1) (-1) = n := by
  unfold Builtin.Slice.slicePlaces
  rw [if_neg (by decide)]
  by_cases c : (n : Int) - 1 > -1
  · rw [if_pos c, show (- -1 : Int) = 1 by decide, Int.ediv_one]
    omega
  · rw [if_neg c]
    omega
theorem rv_part {v : Value} {o : Option Int} {Q : Option Int → Shared → Prop} (p : IsPart v o) (h : Q o s) : wpAny (model prog w) A (Builtin.Slice.slicePartIndex v) Q E s := slicePart_ p h
theorem rv_applied {sl : Addr} {vl vu vs : Value} {n : Nat} {Q : Int × Int × Nat → Shared → Prop} (hs : s.heap.IsSliceOf sl vl vu vs) (pl : IsPart vl none) (pu : IsPart vu none) (ps : IsPart vs (some (-1))) (h : Q ((n : Int) - 1, -1, n) s) :
    wpAny (model prog w) A (Builtin.Slice.sliceApplied (.ref sl) (pure (n : Int))) Q E s := by
  obtain ⟨ob, g1, g2, g3⟩ := id hs
  unfold Builtin.Slice.sliceApplied Builtin.Slice.sliceFields
  refine wpAny_bind (wpAny_bind (wpAny_field g1 g3 (x := vl) rfl (wpAny_bind (wpAny_field g1 g3 (x := vu) rfl (wpAny_bind (wpAny_field g1 g3 (x := vs) rfl (wpAny_pure ?_)))))))
  refine wpAny_bind (rv_part ps ?_)
  show wpAny _ _ (if ((-1 : Int) == 0) = true then _ else _) _ _ s
  rw [if_neg (show ¬ ((-1 : Int) == 0) = true by decide)]
  refine wpAny_bind (rv_part pl (wpAny_bind (rv_part pu (wpAny_bind (wpAny_pure ?_)))))
  show wpAny _ _ (pure ((n : Int) - 1, (-1 : Int), Builtin.Slice.slicePlaces ((n : Int) - 1) (-1) (-1))) _ _ s
  rw [rv_places]
  exact wpAny_pure h
theorem rv_pick (xs : Array Value) : ((List.range xs.size).filterMap fun (m : Nat) => xs[(((xs.size : Int) - 1) + (m : Int) * (-1)).toNat]?).toArray = xs.toList.reverse.toArray := by
  have e : ((List.range xs.size).filterMap fun (m : Nat) => xs[(((xs.size : Int) - 1) + (m : Int) * (-1)).toNat]?) = ((List.range xs.size).map fun m => xs.size - 1 - m).filterMap (xs[·]?) := by
    rw [List.filterMap_map]
    congr 1
    funext m
    have : (((xs.size : Int) - 1) + (m : Int) * (-1)).toNat = xs.size - 1 - m := by omega
    rw [this]
    rfl
  rw [e, PySem.W.krv_range, List.filterMap_reverse, PySem.W.krv_all]
theorem rv_get {t sl : Addr} {its : Array Value} {vl vu vs : Value} {Q : Value → Shared → Prop} (ht : IsTup s.heap t its) (hs : s.heap.IsSliceOf sl vl vu vs) (pl : IsPart vl none) (pu : IsPart vu none) (ps : IsPart vs (some (-1)))
    (h : Q (.ref s.heap.objs.size) { s with heap := s.heap.push { cls := .type "tuple", data := .seq its.toList.reverse.toArray } }) (hz : its.size ≤ sizeLine) : wpAny (model prog w) A (getItem (.ref t) (.ref sl)) Q E s := by
  have hk : sizeOk (.seq its.toList.reverse.toArray) := by
    show its.toList.reverse.toArray.size ≤ sizeLine
    rw [List.size_toArray, List.length_reverse, Array.length_toList]; exact hz
  obtain ⟨ob, g1, g2, g3⟩ := id hs
  have tS : s.TypeIs (.ref sl) "slice" := ⟨ob, g1, g2⟩
  unfold getItem
  first | (with_reducible refine wpAny_holding ?_; refine wpAny_bind (wpAny_pure ?_)) | (with_reducible refine wpAny_holding ?_) | refine wpAny_bind (wpAny_pure ?_) | skip
  refine wpAny_bind (wpAny_sequenceKey ht.typeIs (by decide) (wpAny_bind (wpAny_callSpecial?_slot (name := Str.ofString "__getitem__") ht.typeIs PyProof.Rows.slot_tuple_getitem (wpAny_call_entry PyProof.Rows.slot_tuple_getitem ht.typeIs entry_tuple_getitem ?_ (args_tuple_getitem _ _)))))
  show wpAny _ _ (Builtin.Tuple.tupleItemsOf (.ref t) >>= _) _ _ _
  refine wpAny_bind (tupleItemsOf_ ht (wpAny_bind (wpAny_typeOf tS ?_)))
  rw [if_pos (show _ from by decide)]
  refine wpAny_bind (rv_applied hs pl pu ps ?_)
  have hno : ¬ ((((its.size : Int) - 1) == 0 && (-1 : Int) == 1 && its.size == its.size) = true) := by simp
  show wpAny _ _ (if (((its.size : Int) - 1) == 0 && (-1 : Int) == 1 && its.size == its.size) = true then _ else _) _ _ s
  rw [if_neg hno, rv_pick]
  first | exact wpAny_bind (m := Builtin.Tuple.tupleExact _) (wpAny_newObj_type (wpAny_pure ⟨_, rfl, wpAny_pure h⟩) hk) | exact wpAny_bind (m := Builtin.Tuple.tupleExact _) (wpAny_newObj_type (wpAny_bind (wpAny_pure (wpAny_pure ⟨_, rfl, wpAny_pure h⟩))) hk) | exact wpAny_bind (wpAny_bind (m := Builtin.Tuple.tupleExact _) (wpAny_newObj_type (wpAny_pure (wpAny_pure ⟨_, rfl, wpAny_pure h⟩)) hk)) | exact wpAny_bind (wpAny_bind (m := Builtin.Tuple.tupleExact _) (wpAny_newObj_type (wpAny_pure ⟨_, rfl, wpAny_pure h⟩) hk))
end
section
variable {X : Cx} {K : Frag}
def tRevT (K : Frag) (te : TE) : TE := fun σ H Q => te σ H fun x H1 => ∃ a xs, x = .ref a ∧ SqT K H1 a xs ∧ ∀ p, H1 p = none → Q (.ref p) (upd H1 p (.tup xs.reverse))
theorem pe_revTK (hK : X.K = K) {e : Expr} {te : TE} {k : Nat} {p1 p2 p3 pos : Pos} (he : PE X e te) : PE X (.Subscript e (.Slice none none (some (.UnaryOp .USub (.Constant (.int 1) k p1) p2)) p3) pos) (tRevT K te) := by
  subst hK
  refine ⟨fun pins s σ H Q I h => ?_⟩
  refine Subscript_ (thn (he.run pins s σ H _ I h) fun v s1 ⟨x, H1, I1, r1, q1⟩ => ?_)
  obtain ⟨a, xs, rfl, hx, q⟩ := q1
  cases r1
  have hst : PO X (some (.UnaryOp .USub (.Constant (.int 1) k p1) p2)) (tPart (tUn (rU fun i => .int (-i)) (tC (.int 1)))) := po_some (pe_un un_neg pe_int)
  refine wpAny_Slice (thn (po_none.run pins s1 σ H1 (fun o Hx => o = none ∧ Hx = H1) I1 ⟨rfl, rfl⟩) fun vl s2 ⟨l, H2, I2, pl, el, e2⟩ => thn (po_none.run pins s2 σ H2 (fun o Hx => o = none ∧ Hx = H2) I2 ⟨rfl, rfl⟩) fun vu s3 ⟨u, H3, I3, pu, eu, e3⟩ => thn (hst.run pins s3 σ H3 (fun o Hx => o = some (-1) ∧ Hx = H3) I3 ⟨1, rfl, -1, rfl, rfl, rfl⟩) fun vs s4 ⟨o, H4, I4, ps, eo, e4⟩ => ?_)
  subst el e2 eu e3 eo e4
  have I5 : Inv X pins σ H4 { s4 with heap := s4.heap.push { cls := .type "slice", data := .fields #[vl, vu, vs] } } := I4.kept (t' := s4.toks) fun b ob y => Heap.get?_push_of_some _ y
  obtain ⟨its, r, ht, hz⟩ := I5.tuple hx
  have hl := r.length
  refine tail_any (ops := [.ref a, .ref s4.heap.objs.size]) ht.typeIs PyProof.Rows.slot_tuple_getitem.lookup ?_ (by with_unfolding_all rfl)
  refine rv_get ht (Heap.IsSliceOf.new _ vl vu vs) pl pu ps ?_ (by rw [List.size_toArray]; omega)
  refine ⟨.ref _, _, I5.laid (t' := s4.toks) (o := .tup xs.reverse) (fun b ob y => Heap.get?_push_of_some _ y) (Nat.le_refl _) ?_, rfl, q _ (I5.hok.fresh (Nat.le_refl _))⟩
  exact ⟨by rw [List.length_reverse]; exact hz, _, r.reverse, IsTup.new _ _⟩
end
end S
namespace S
open PySem PySem.Spec PyProof.Rows L2
/-! ### tuples whose items are compared by an own == and an own < -/
section
open PySem.SeqAt
open AutoSeq1 (wpAny_loadPart')
open MeetsSeq MeetsSeq2 MeetsSeq3 SeqRoads2
variable {prog : Program} {w : World} {A : Around} {R : Result → Shared → Prop}
theorem tupB_eq (l b : Addr) (items items2 : Array Value) (n n2 : Nat) (dd dd2 : Option Addr) (sl sl2 : Array (Option Value)) (hsz : items.size = items2.size) (I : Nat → Shared → Prop)
    (turn : ∀ i (h1 : i < items.size) (h2 : i < items2.size) s, I i s → wpAny (model prog w) A.in1 (eqBool items[i] items2[i]) (fun r s' => if r = true then I (i + 1) s' else R (.ok (.ret (.bool false))) s') (fun e s' => R (.error e) s') s)
    (fin : ∀ s, I items.size s → R (.ok (.ret (.bool true))) s) {s : Shared} (hl1 : s.heap.get? l = some { cls := .type "tuple", dict := dd, data := .seq items n, slots := sl }) (hb1 : s.heap.get? b = some { cls := .type "tuple", dict := dd2, data := .seq items2 n2, slots := sl2 }) (h : I 0 s) :
    wpAny (model prog w) A.in1 (Builtin.«tuple.__eq__» ⟨[.ref l, .ref b], []⟩) (GQ.FinOf prog w A R) (fun e s' => R (.error e) s') s := by
  have f2 := AutoSeq1.sub_tuple_tuple
  have hZ : (items.toList.zip items2.toList).length = items.size := by simp [hsz]
  have h0 := h
  obtain ⟨hp, g, d, tk, os⟩ := s
  wp_walk using wpAny_loadPart' hl1, wpAny_loadPart' hb1, wpAny_forIn_list _ (fun rest b s' => b.1 = none ∧ ∃ i, rest = (items.toList.zip items2.toList).drop i ∧ i ≤ items.size ∧ I i s') _
  case turn =>
    rintro ⟨y, x⟩ rest b s' ⟨hb', i, hz, hi, hI⟩
    have hlt : i < (items.toList.zip items2.toList).length := by
      rcases Nat.lt_or_ge i (items.toList.zip items2.toList).length with h' | h'
      · exact h'
      · rw [List.drop_of_length_le h'] at hz; cases hz
    have h1 : i < items.size := hZ ▸ hlt
    have h2 : i < items2.size := hsz ▸ h1
    rw [List.drop_eq_getElem_cons hlt] at hz
    injection hz with hyx hrest
    have hy : y = items[i] := by have := congrArg Prod.fst hyx; simpa using this
    have hx : x = items2[i] := by have := congrArg Prod.snd hyx; simpa using this
    subst hy hx
    refine wpAny_bind (wpAny_mono (turn i h1 h2 s' hI) (fun r s2 q2 => ?_) fun _ _ x => x)
    cases r with
    | true =>
      rw [if_pos rfl] at q2
      wp_walk
      exact ⟨rfl, i + 1, hrest, h1, q2⟩
    | false =>
      rw [if_neg Bool.false_ne_true] at q2
      obtain ⟨hp2, g2, d2, tk2, os2⟩ := s2
      wp_walk
      exact q2
  case fin =>
    rintro ⟨b1, b2⟩ s' ⟨hb', i, hz, hi, hI⟩
    simp only at hb'
    subst hb'
    have hge : items.size ≤ i := by
      rcases Nat.lt_or_ge i (items.toList.zip items2.toList).length with h' | h'
      · rw [List.drop_eq_getElem_cons h'] at hz; cases hz
      · exact hZ ▸ h'
    have hi' : i = items.size := by omega
    have hR : R (.ok (.ret (.bool true))) s' := fin s' (hi' ▸ hI)
    wp_walk
    simpa [Builtin.Tuple.tupleCompareSizes, hsz] using hR
  case h =>
    exact ⟨rfl, 0, rfl, Nat.zero_le _, h0⟩
theorem tupB_lt (l b : Addr) (items items2 : Array Value) (n n2 : Nat) (dd dd2 : Option Addr) (sl sl2 : Array (Option Value)) (hsz : items.size = items2.size) (I : Nat → Shared → Prop)
    (turn : ∀ i (h1 : i < items.size) (h2 : i < items2.size) s, I i s → wpAny (model prog w) A.in1 (eqBool items[i] items2[i]) (fun r s' => if r = true then I (i + 1) s' else wpAny (model prog w) A.in1 (richCompare .Lt items[i] items2[i]) (fun v s2 => R (.ok (.ret v)) s2) (fun e s2 => R (.error e) s2) s') (fun e s' => R (.error e) s') s)
    (fin : ∀ s, I items.size s → R (.ok (.ret (.bool false))) s) {s : Shared} (hl1 : s.heap.get? l = some { cls := .type "tuple", dict := dd, data := .seq items n, slots := sl }) (hb1 : s.heap.get? b = some { cls := .type "tuple", dict := dd2, data := .seq items2 n2, slots := sl2 }) (h : I 0 s) :
    wpAny (model prog w) A.in1 (Builtin.«tuple.__lt__» ⟨[.ref l, .ref b], []⟩) (GQ.FinOf prog w A R) (fun e s' => R (.error e) s') s := by
  have f2 := AutoSeq1.sub_tuple_tuple
  have hZ : (items.toList.zip items2.toList).length = items.size := by simp [hsz]
  have h0 := h
  obtain ⟨hp, g, d, tk, os⟩ := s
  wp_walk using wpAny_loadPart' hl1, wpAny_loadPart' hb1, wpAny_forIn_list _ (fun rest b s' => b.1 = none ∧ ∃ i, rest = (items.toList.zip items2.toList).drop i ∧ i ≤ items.size ∧ I i s') _
  case turn =>
    rintro ⟨y, x⟩ rest b s' ⟨hb', i, hz, hi, hI⟩
    have hlt : i < (items.toList.zip items2.toList).length := by
      rcases Nat.lt_or_ge i (items.toList.zip items2.toList).length with h' | h'
      · exact h'
      · rw [List.drop_of_length_le h'] at hz; cases hz
    have h1 : i < items.size := hZ ▸ hlt
    have h2 : i < items2.size := hsz ▸ h1
    rw [List.drop_eq_getElem_cons hlt] at hz
    injection hz with hyx hrest
    have hy : y = items[i] := by have := congrArg Prod.fst hyx; simpa using this
    have hx : x = items2[i] := by have := congrArg Prod.snd hyx; simpa using this
    subst hy hx
    refine wpAny_bind (wpAny_mono (turn i h1 h2 s' hI) (fun r s2 q2 => ?_) fun _ _ x => x)
    cases r with
    | true =>
      rw [if_pos rfl] at q2
      wp_walk
      exact ⟨rfl, i + 1, hrest, h1, q2⟩
    | false =>
      rw [if_neg Bool.false_ne_true] at q2
      obtain ⟨hp2, g2, d2, tk2, os2⟩ := s2
      generalize richCompare CmpOp.Lt items[i] items2[i] = rc at q2 ⊢
      wp_walk
      refine wpAny_mono q2 (fun v s3 q3 => ?_) fun _ _ x => x
      obtain ⟨hp3, g3, d3, tk3, os3⟩ := s3
      wp_walk
      exact q3
  case fin =>
    rintro ⟨b1, b2⟩ s' ⟨hb', i, hz, hi, hI⟩
    simp only at hb'
    subst hb'
    have hge : items.size ≤ i := by
      rcases Nat.lt_or_ge i (items.toList.zip items2.toList).length with h' | h'
      · rw [List.drop_eq_getElem_cons h'] at hz; cases hz
      · exact hZ ▸ h'
    have hi' : i = items.size := by omega
    have hR : R (.ok (.ret (.bool false))) s' := fin s' (hi' ▸ hI)
    wp_walk
    simpa [Builtin.Tuple.tupleCompareSizes, hsz] using hR
  case h =>
    exact ⟨rfl, 0, rfl, Nat.zero_le _, h0⟩
end
section
open PySem.SeqAt
open MeetsSeq MeetsSeq2 MeetsSeq3 SeqRoads2
variable {prog : Program} {w : World} {A : Around} {E : Value → Shared → Prop} {s : Shared} {l b : Addr} {items items2 : Array Value} {Q : Value → Shared → Prop}
theorem rc_tupB (hsz : items.size = items2.size) (hu : A.units < cLine) (I : Nat → Shared → Prop) (hl : s.heap.IsTuple l items) (hb : s.heap.IsTuple b items2)
    (turn : ∀ i (h1 : i < items.size) (h2 : i < items2.size) s, I i s → wpAny (model prog w) A.in1 (eqBool items[i] items2[i]) (fun r s' => if r = true then I (i + 1) s' else Q (.bool false) s') E s)
    (fin : ∀ s, I items.size s → Q (.bool true) s) (h : I 0 s) : wpAny (model prog w) A (richCompare .Eq (.ref l) (.ref b)) Q E s := by
  obtain ⟨⟨cls, dd, data, sl⟩, ho, hc, n, hd⟩ := id hl
  obtain ⟨⟨cls2, dd2, data2, sl2⟩, ho2, hc2, n2, hd2⟩ := id hb
  simp only at hc hd hc2 hd2
  subst hc hd hc2 hd2
  refine wpAny_richCompare_same_room (op := .Eq) ⟨_, ho, rfl⟩ ⟨_, ho2, rfl⟩ F.slot_tuple_eq (GQ.call_here F.slot_tuple_eq ⟨_, ho, rfl⟩ F.entry_tuple_eq (F.args_tuple_eq_2 _ _) ?_) hu
  exact tupB_eq (R := wants (fun v s' => v ≠ .notImplemented ∧ Q v s') E) l b items items2 n n2 dd dd2 sl sl2 hsz I (fun i h1 h2 s' q => wpAny_mono (turn i h1 h2 s' q) (fun r s2 q2 => by
    cases r with
    | true => exact q2
    | false => exact ⟨(fun x => nomatch x), q2⟩) fun _ _ x => x) (fun s' q => ⟨(fun x => nomatch x), fin s' q⟩) ho ho2 h
theorem rc_tupL (hsz : items.size = items2.size) (hu : A.units < cLine) (I : Nat → Shared → Prop) (hl : s.heap.IsTuple l items) (hb : s.heap.IsTuple b items2)
    (turn : ∀ i (h1 : i < items.size) (h2 : i < items2.size) s, I i s → wpAny (model prog w) A.in1 (eqBool items[i] items2[i]) (fun r s' => if r = true then I (i + 1) s' else wpAny (model prog w) A.in1 (richCompare .Lt items[i] items2[i]) (fun v s2 => v ≠ .notImplemented ∧ Q v s2) E s') E s)
    (fin : ∀ s, I items.size s → Q (.bool false) s) (h : I 0 s) : wpAny (model prog w) A (richCompare .Lt (.ref l) (.ref b)) Q E s := by
  obtain ⟨⟨cls, dd, data, sl⟩, ho, hc, n, hd⟩ := id hl
  obtain ⟨⟨cls2, dd2, data2, sl2⟩, ho2, hc2, n2, hd2⟩ := id hb
  simp only at hc hd hc2 hd2
  subst hc hd hc2 hd2
  refine wpAny_richCompare_same_room (op := .Lt) ⟨_, ho, rfl⟩ ⟨_, ho2, rfl⟩ F.slot_tuple_lt (GQ.call_here F.slot_tuple_lt ⟨_, ho, rfl⟩ F.entry_tuple_lt (F.args_tuple_lt_2 _ _) ?_) hu
  exact tupB_lt (R := wants (fun v s' => v ≠ .notImplemented ∧ Q v s') E) l b items items2 n n2 dd dd2 sl sl2 hsz I turn (fun s' q => ⟨(fun x => nomatch x), fin s' q⟩) ho ho2 h
end
/-- x == y inside a builtin: flat values, one object, or instances of C by their own == -/
def ElE (C : Addr) (sp : Sp) (x y : V) (H : Hp) (e : Bool) : Prop :=
  (flatV x = true ∧ flatV y = true ∧ eqV x y = e) ∨ (∃ a, x = .ref a ∧ y = .ref a ∧ e = true) ∨
  (∃ a b dx vs dy ws, x = .ref a ∧ y = .ref b ∧ a ≠ b ∧ SlX.Slt H a C dx vs ∧ SlX.Slt H b C dy ws ∧ ∀ Z : VK, Z (.bl e) H → sp [x, y] H Z E0)
/-- x < y inside a builtin: like data, or instances of C by their own < -/
def ElL (K : Frag) (C : Addr) (sp : Sp) (x y : V) (H : Hp) (e : Bool) : Prop :=
  (∃ d d', Dp K H x d ∧ Dp K H y d' ∧ PySem.W.alike d d' = true ∧ d ≠ .none ∧ d.depth ≤ 20 ∧ PySem.W.dataLt d d' = e) ∨
  (∃ a b dx vs dy ws, x = .ref a ∧ y = .ref b ∧ SlX.Slt H a C dx vs ∧ SlX.Slt H b C dy ws ∧ ∀ Z : VK, Z (.bl e) H → sp [x, y] H Z E0)
section
variable {X : Cx} {n : Nat} {C g g2 : Addr} {sp sp2 : Sp} {A : Around} {pins : List (Addr × Obj)} {s : Shared} {σ : L2.St} {H : Hp} {x y : V} {u v : Value} {e : Bool}
theorem Sub.env0 (sb : Sub X n A) (I : Inv X pins σ H s) : Env0 X.prog X.w X.K X.mg X.base A X.stack s H := by
  have e := I.env0
  exact ⟨by rw [sb.fr]; exact e.frames, e.mod, e.bs, e.bsz, e.funs, e.frf, e.hok, e.bare⟩
theorem own_rc {op : CmpOp} (hs : PySem.W.findIn X.K (.ref C) (cmpInfo op).2.1 = some (some (.ref g))) (hf : PySem.W.isFn X.K (.ref g) = true) (F : FnR X.prog X.w X.K X.mg X.base (L2.CX X.prog X.w) n g sp) (sb : Sub X n A) (I : Inv X pins σ H s)
    {a b : Addr} {dx dy : Addr} {vs ws : List (Option V)} (ha : SlX.Slt H a C dx vs) (hb : SlX.Slt H b C dy ws) (hsp : ∀ Z : VK, Z (.bl e) H → sp [.ref a, .ref b] H Z E0) {Q : Value → Shared → Prop} (q : ∀ s', Inv X pins σ H s' → Q (.bool e) s') :
    wpAny (model X.prog X.w) A (richCompare op (.ref a) (.ref b)) Q X.xe s := by
  obtain ⟨sl, od, _, J, _⟩ := SlX.slt_inst I ha
  obtain ⟨sl', od', _, J', _⟩ := SlX.slt_inst I hb
  obtain ⟨m, hF⟩ := I.fr
  refine PySem.W.cmp_K (op := op) (tb := .ref C) sb.room.units0 hF I.ok.mod.kin J J'.type (by simp [PySem.W.notFirst]) hs hf ?_
  refine wpAny_mono (wpAny_call (SlX.run_at (us := [.ref a, .ref b]) (ws := [.ref a, .ref b]) (Q := fun z H2 => z = .bl e ∧ H2 = H) F sb.room (Sub.env0 sb I) passL I (.cons rfl (.cons rfl .nil)) (hsp _ ⟨rfl, rfl⟩))) (fun z s2 hz2 => ?_) fun _ _ x => x
  obtain ⟨z2, H2, I2, rz, rfl, rfl⟩ := hz2
  cases (show z = Value.bool e from rz)
  exact q s2 I2
theorem el_eq (hs : PySem.W.findIn X.K (.ref C) "__eq__" = some (some (.ref g))) (hf : PySem.W.isFn X.K (.ref g) = true) (F : FnR X.prog X.w X.K X.mg X.base (L2.CX X.prog X.w) n g sp) (sb : Sub X n A) (I : Inv X pins σ H s)
    (rx : RelV x u) (ry : RelV y v) (d : ElE C sp x y H e) {Q : Bool → Shared → Prop} (q : ∀ s', Inv X pins σ H s' → Q e s') : wpAny (model X.prog X.w) A (eqBool u v) Q X.xe s := by
  rcases d with ⟨fx, fy, ee⟩ | ⟨a, rfl, rfl, rfl⟩ | ⟨a, b, dx, vs, dy, ws, rfl, rfl, hab, ha, hb, hsp⟩
  · have z := eqAt_V (A := A) (s := s) rx ry fx fy
    rw [ee] at z
    exact z X.prog X.w X.xe _ (q s I)
  · cases rx
    cases ry
    exact SeqAt.EqAt.same (A := A) (s := s) (.ref a) X.prog X.w X.xe _ (q s I)
  · cases rx
    cases ry
    exact GQ.eqBool_refG hab (own_rc (op := .Eq) hs hf F sb I ha hb hsp fun s' I' => ⟨e, rfl, q s' I'⟩)
theorem el_lt (hs : PySem.W.findIn X.K (.ref C) "__lt__" = some (some (.ref g))) (hf : PySem.W.isFn X.K (.ref g) = true) (F : FnR X.prog X.w X.K X.mg X.base (L2.CX X.prog X.w) n g sp) (sb : Sub X n A) (hu : A.units + 60 < cLine) (I : Inv X pins σ H s)
    (rx : RelV x u) (ry : RelV y v) (d : ElL X.K C sp x y H e) {Q : Value → Shared → Prop} (q : ∀ s', Inv X pins σ H s' → Q (.bool e) s') : wpAny (model X.prog X.w) A (richCompare .Lt u v) Q X.xe s := by
  rcases d with ⟨d, d', hd, hd', al, nn, dp, rfl⟩ | ⟨a, b, dx, vs, dy, ws, rfl, rfl, ha, hb, hsp⟩
  · obtain ⟨as, r1⟩ := Dp.reads I d x u hd rx
    obtain ⟨bs, r2⟩ := Dp.reads I d' y v hd' ry
    exact PySem.W.rcLt_alike d d' A s u v as bs r1 r2 al nn (by omega) X.prog X.w _ _ (q s I)
  · cases rx
    cases ry
    exact own_rc (op := .Lt) hs hf F sb I ha hb hsp q
/-- what is known of two tuples' items -/
def Tys (C : Addr) (sp : Sp) (xs ys : List V) (es : Nat → Bool) (H : Hp) : Prop := xs.length = ys.length ∧ ∀ (i : Nat) x y, xs[i]? = some x → ys[i]? = some y → (∀ j < i, es j = true) → ElE C sp x y H (es i)
theorem its_get {its : List Value} {xs : List V} (r : Vals xs its) {i : Nat} (h1 : i < its.toArray.size) : ∃ x, xs[i]? = some x ∧ RelV x its.toArray[i] := by
  have g1 : its[i]? = some its.toArray[i] := by
    have h1' : i < its.length := by simpa using h1
    rw [List.getElem?_eq_getElem h1'] <;> simp
  have k1 : i < xs.length := by rw [r.length]; simpa using h1
  obtain ⟨u, hu, ru⟩ := r.get (List.getElem?_eq_getElem k1)
  rw [g1] at hu
  rw [Option.some.inj hu]
  exact ⟨_, List.getElem?_eq_getElem k1, ru⟩
theorem tys_rc (hs : PySem.W.findIn X.K (.ref C) "__eq__" = some (some (.ref g))) (hf : PySem.W.isFn X.K (.ref g) = true) (F : FnR X.prog X.w X.K X.mg X.base (L2.CX X.prog X.w) n g sp) (sb : Sub X (n + 1) A) (I : Inv X pins σ H s)
    {a b : Addr} {xs ys : List V} {es : Nat → Bool} (ha : SqT X.K H a xs) (hb : SqT X.K H b ys) (d : Tys C sp xs ys es H) {Q : Value → Shared → Prop} (q : ∀ s', Inv X pins σ H s' → Q (.bool ((List.range xs.length).all es)) s') :
    wpAny (model X.prog X.w) A (richCompare .Eq (.ref a) (.ref b)) Q X.xe s := by
  obtain ⟨its, r, e, z⟩ := I.tuple ha
  obtain ⟨its2, r2, e2, z2⟩ := I.tuple hb
  have sz : its.toArray.size = xs.length := by rw [List.size_toArray, ← r.length]
  have hsz : its.toArray.size = its2.toArray.size := by rw [sz, List.size_toArray, ← r2.length]; exact d.1
  refine rc_tupB hsz sb.room.units0 (fun i s' => Inv X pins σ H s' ∧ ∀ j < i, es j = true) e e2 (fun i h1 h2 s' hI => ?_) (fun s' hI => ?_) ⟨I, fun _ h => by omega⟩
  · obtain ⟨x, ex, rx⟩ := its_get r h1
    obtain ⟨y, ey, ry⟩ := its_get r2 h2
    refine el_eq hs hf F sb.in1 hI.1 rx ry (d.2 i x y ex ey hI.2) fun s2 I2 => ?_
    cases ee : es i with
    | true =>
      rw [if_pos rfl]
      exact ⟨I2, fun j hj => by
        by_cases c : j = i
        · rw [c]; exact ee
        · exact hI.2 j (by omega)⟩
    | false =>
      rw [if_neg Bool.false_ne_true]
      have hq := q s2 I2
      rwa [show (List.range xs.length).all es = false from Bool.eq_false_iff.mpr fun h => by
        have := List.all_eq_true.mp h i (List.mem_range.mpr (by rw [← sz]; exact h1))
        rw [ee] at this
        cases this] at hq
  · have hq := q s' hI.1
    rwa [show (List.range xs.length).all es = true from List.all_eq_true.mpr fun j hj => hI.2 j (by rw [sz]; exact List.mem_range.mp hj)] at hq
/-- a < b, the first items that differ decide -/
def rLtT (K : Frag) (C : Addr) (spE spL : Sp) : R2 := fun x y H Q => ∃ (a b : Addr) (xs ys : List V) (es ls : Nat → Bool), x = .ref a ∧ y = .ref b ∧ SqT K H a xs ∧ SqT K H b ys ∧ Tys C spE xs ys es H ∧
  (∀ (i : Nat) x y, xs[i]? = some x → ys[i]? = some y → (∀ j < i, es j = true) → es i = false → ElL K C spL x y H (ls i)) ∧ Q (.bl (PySem.SeqAt.firstLt es ls false (List.range xs.length))) H
theorem firstLt_at {es ls : Nat → Bool} {fin : Bool} : ∀ (l : List Nat) {i : Nat} {t : List Nat}, (∀ j ∈ l, es j = true) → es i = false → PySem.SeqAt.firstLt es ls fin (l ++ i :: t) = ls i
  | [], _, _, _, h => PySem.SeqAt.firstLt_no h
  | j :: l, _, _, hl, h => by
    rw [List.cons_append, PySem.SeqAt.firstLt_yes (hl j List.mem_cons_self)]
    exact firstLt_at l (fun k hk => hl k (List.mem_cons_of_mem _ hk)) h
theorem firstLt_all {es ls : Nat → Bool} {fin : Bool} : ∀ (l : List Nat), (∀ j ∈ l, es j = true) → PySem.SeqAt.firstLt es ls fin l = fin
  | [], _ => rfl
  | j :: l, hl => by
    rw [PySem.SeqAt.firstLt_yes (hl j List.mem_cons_self)]
    exact firstLt_all l fun k hk => hl k (List.mem_cons_of_mem _ hk)
theorem range_at {n i : Nat} (h : i < n) : ∃ t, List.range n = List.range i ++ i :: t := by
  refine ⟨(List.range n).drop (i + 1), ?_⟩
  have h1 : (List.range n).take i = List.range i := by rw [List.take_range]; congr 1; omega
  have h2 : (List.range n).drop i = i :: (List.range n).drop (i + 1) := by
    rw [List.drop_eq_getElem_cons (by simpa using h)]
    simp
  rw [← h1, ← h2, List.take_append_drop]
theorem ltTK {P : Program} {w : World} {K : Frag} {mg : Str → Option Value} {base : Heap} (hP : X.prog = P) (hw : X.w = w) (hK : X.K = K) (hm : X.mg = mg) (hb : X.base = base)
    (hs : PySem.W.findIn K (.ref C) "__eq__" = some (some (.ref g))) (hf : PySem.W.isFn K (.ref g) = true) (F : FnR P w K mg base (L2.CX P w) n g sp)
    (hs2 : PySem.W.findIn K (.ref C) "__lt__" = some (some (.ref g2))) (hf2 : PySem.W.isFn K (.ref g2) = true) (F2 : FnR P w K mg base (L2.CX P w) n g2 sp2) (hr : Room (n + 1) X.A) (hu : X.A.units + 64 < cLine) : OpR X (compareOp .Lt) (rLtT K C sp sp2) := by
  subst hP hw hK hm hb
  intro pins s σ H x y v u Q I rx ry h
  obtain ⟨a, b, xs, ys, es, ls, rfl, rfl, ha, hb, d, dl, q⟩ := h
  cases (show v = Value.ref a from rx)
  cases (show u = Value.ref b from ry)
  obtain ⟨its, r, e, z⟩ := I.tuple ha
  obtain ⟨its2, r2, e2, z2⟩ := I.tuple hb
  have sz : its.toArray.size = xs.length := by rw [List.size_toArray, ← r.length]
  have hsz : its.toArray.size = its2.toArray.size := by rw [sz, List.size_toArray, ← r2.length]; exact d.1
  have sb : Sub X (n + 1) X.A := ⟨hr, rfl⟩
  show wpAny _ _ (richCompare .Lt (.ref a) (.ref b)) _ _ _
  refine rc_tupL hsz hr.units0 (fun i s' => Inv X pins σ H s' ∧ ∀ j < i, es j = true) e e2 (fun i h1 h2 s' hI => ?_) (fun s' hI => ?_) ⟨I, fun _ h => by omega⟩
  · obtain ⟨x, ex, rx⟩ := its_get r h1
    obtain ⟨y, ey, ry⟩ := its_get r2 h2
    refine el_eq hs hf F sb.in1 hI.1 rx ry (d.2 i x y ex ey hI.2) fun s2 I2 => ?_
    cases ee : es i with
    | true =>
      rw [if_pos rfl]
      exact ⟨I2, fun j hj => by
        by_cases c : j = i
        · rw [c]; exact ee
        · exact hI.2 j (by omega)⟩
    | false =>
      rw [if_neg Bool.false_ne_true]
      refine el_lt hs2 hf2 F2 sb.in1 (by have := (show X.A.in1.units = X.A.units + 1 from rfl); omega) I2 rx ry (dl i x y ex ey hI.2 ee) fun s3 I3 => ⟨(fun x => nomatch x), .bl (ls i), H, I3, rfl, ?_⟩
      obtain ⟨t, et⟩ := range_at (show i < xs.length by rw [← sz]; exact h1)
      rwa [et, firstLt_at _ (fun j hj => hI.2 j (List.mem_range.mp hj)) ee] at q
  · refine ⟨.bl false, H, hI.1, rfl, ?_⟩
    rwa [firstLt_all _ fun j hj => hI.2 j (by rw [sz]; exact List.mem_range.mp hj)] at q
/-- x in a list of tuples -/
def rInT (K : Frag) (C : Addr) (sp : Sp) (neg : Bool) : R2 := fun x y H Q => ∃ (a l : Addr) (xs : List V) (bs : List (Addr × List V)) (e : Addr → Bool), x = .ref a ∧ y = .ref l ∧ H l = some (.lst (bs.map fun b => .ref b.1)) ∧ SqT K H a xs ∧
  (∀ b ∈ bs, b.1 ≠ a → SqT K H b.1 b.2 ∧ ∃ es : Nat → Bool, e b.1 = (List.range b.2.length).all es ∧ Tys C sp b.2 xs es H) ∧
  Q (.bl (if neg then !(bs.any fun b => decide (b.1 = a) || e b.1) else bs.any fun b => decide (b.1 = a) || e b.1)) H
theorem contT (hs : PySem.W.findIn X.K (.ref C) "__eq__" = some (some (.ref g))) (hf : PySem.W.isFn X.K (.ref g) = true) (F : FnR X.prog X.w X.K X.mg X.base (L2.CX X.prog X.w) n g sp) (hr : Room (n + 2) X.A)
    {a l : Addr} {xs : List V} {bs : List (Addr × List V)} {e : Addr → Bool} (I : Inv X pins σ H s) (hl : H l = some (.lst (bs.map fun b => .ref b.1))) (ha : SqT X.K H a xs)
    (hb : ∀ b ∈ bs, b.1 ≠ a → SqT X.K H b.1 b.2 ∧ ∃ es : Nat → Bool, e b.1 = (List.range b.2.length).all es ∧ Tys C sp b.2 xs es H) {Q : Bool → Shared → Prop}
    (q : ∀ s', Inv X pins σ H s' → Q (bs.any fun b => decide (b.1 = a) || e b.1) s') : wpAny (model X.prog X.w) X.A (contains (.ref l) (.ref a)) Q X.xe s := by
  refine contains_G (N := bs.length) (fun i s' => Inv X pins σ H s' ∧ (bs.take i).any (fun b => decide (b.1 = a) || e b.1) = false) ?_ ?_ ⟨I, rfl⟩
  · rintro i s1 ⟨I1, no⟩
    obtain ⟨hz, its, m, rv, hg⟩ := (show ObjOk X.prog X.w H s1.heap l (.lst (bs.map fun b => V.ref b.1)) from I1.hok l _ hl)
    have hlen : its.length = bs.length := by rw [← rv.length, List.length_map]
    refine ⟨its.toArray, m, hg, by simp [hlen], fun h1 => ?_⟩
    have hi : i < bs.length := by simpa [hlen] using h1
    obtain ⟨x, ex, rx⟩ := its_get rv h1
    have eb := List.getElem?_eq_getElem hi
    generalize bs[i] = b at eb
    rw [List.getElem?_map, eb] at ex
    cases ex
    have mem := List.mem_of_getElem? eb
    rw [show its.toArray[i] = Value.ref b.1 from rx]
    have step : ∀ r : Bool, (decide (b.1 = a) || e b.1) = r → ∀ s2, Inv X pins σ H s2 → (if r = true then wants (fun v s' => ∃ b, v = .bool b ∧ Q b s') X.xe (.ok (.ret (.bool true))) s2 else Inv X pins σ H s2 ∧ (bs.take (i + 1)).any (fun b => decide (b.1 = a) || e b.1) = false) := by
      intro r er s2 I2
      have tk : bs.take (i + 1) = bs.take i ++ [b] := by rw [List.take_add_one, eb]; rfl
      cases r with
      | true =>
        rw [if_pos rfl]
        refine ⟨true, rfl, ?_⟩
        have hq := q s2 I2
        rw [show (bs.any fun b => decide (b.1 = a) || e b.1) = true from List.any_eq_true.mpr ⟨_, mem, er⟩] at hq
        exact hq
      | false =>
        rw [if_neg Bool.false_ne_true]
        refine ⟨I2, ?_⟩
        rw [tk, List.any_append, no, List.any_cons, er]
        rfl
    by_cases hab : b.1 = a
    · rw [hab]
      exact SeqAt.EqAt.same (A := X.A.in1) (s := s1) (.ref a) X.prog X.w _ _ (step true (by simp [hab]) s1 I1)
    · obtain ⟨hbt, es, ee, d⟩ := hb b mem hab
      refine GQ.eqBool_refG hab (tys_rc hs hf F (A := X.A.in1) (Sub.in1 ⟨hr, rfl⟩) I1 hbt ha d fun s2 I2 => ⟨_, rfl, ?_⟩)
      rw [← ee]
      exact step (e b.1) (by simp [hab]) s2 I2
  · rintro s1 ⟨I1, no⟩
    have hq := q s1 I1
    rw [List.take_length] at no
    rw [no] at hq
    exact hq
theorem inTK {P : Program} {w : World} {K : Frag} {mg : Str → Option Value} {base : Heap} (hP : X.prog = P) (hw : X.w = w) (hK : X.K = K) (hm : X.mg = mg) (hb : X.base = base)
    (hs : PySem.W.findIn K (.ref C) "__eq__" = some (some (.ref g))) (hf : PySem.W.isFn K (.ref g) = true) (F : FnR P w K mg base (L2.CX P w) n g sp) (hr : Room (n + 2) X.A) : OpR X (compareOp .In) (rInT K C sp false) := by
  subst hP hw hK hm hb
  intro pins s σ H x y v u Q I rx ry h
  obtain ⟨a, l, xs, bs, e, rfl, rfl, hl, ha, hb, q⟩ := h
  cases (show v = Value.ref a from rx)
  cases (show u = Value.ref l from ry)
  show wpAny _ _ (do return Value.bool (← contains (.ref l) (.ref a))) _ _ _
  exact wpAny_bind (contT hs hf F hr I hl ha hb fun s' I' => wpAny_pure ⟨.bl _, H, I', rfl, q⟩)
theorem notInTK {P : Program} {w : World} {K : Frag} {mg : Str → Option Value} {base : Heap} (hP : X.prog = P) (hw : X.w = w) (hK : X.K = K) (hm : X.mg = mg) (hb : X.base = base)
    (hs : PySem.W.findIn K (.ref C) "__eq__" = some (some (.ref g))) (hf : PySem.W.isFn K (.ref g) = true) (F : FnR P w K mg base (L2.CX P w) n g sp) (hr : Room (n + 2) X.A) : OpR X (compareOp .NotIn) (rInT K C sp true) := by
  subst hP hw hK hm hb
  intro pins s σ H x y v u Q I rx ry h
  obtain ⟨a, l, xs, bs, e, rfl, rfl, hl, ha, hb, q⟩ := h
  cases (show v = Value.ref a from rx)
  cases (show u = Value.ref l from ry)
  show wpAny _ _ (do return Value.bool (!(← contains (.ref l) (.ref a)))) _ _ _
  exact wpAny_bind (contT hs hf F hr I hl ha hb fun s' I' => wpAny_pure ⟨.bl _, H, I', rfl, q⟩)
end
end S
namespace S
open PySem PySem.Spec PyProof.Rows L2
/-! ### < <= > >= with an int at the left, by the right side's own reflected def -/
section
open PySem.W PySem.Calls
variable {prog : Program} {w : World} {A : Around} {E : Value → Shared → Prop} {s : Shared} {K : Frag} {x C f : Addr} {ox : Obj} {od : Option Obj}
/-- what is known of int's own slot for a comparison -/
structure IntCmp (op : CmpOp) (idl : String) (B : Builtin) : Prop where
  sl : Slot "int" (cmpInfo op).2.1 idl
  en : entryFor table idl = some B
  ar : ∀ a b : Value, argsOk idl ⟨[a, b], []⟩
  de : ∀ (a : Int) (t : Tok) (x : Addr), GivesAt (NoInt x) (B ⟨[.int a t, .ref x], []⟩) (.val (Value.notImplemented))
  hop : ∀ a b, compareOp op a b = richCompare op a b
theorem ic_lt : IntCmp .Lt "int.__lt__" Builtin.«int.__lt__» := ⟨PySem.F.slot_int_lt, PySem.F.entry_int_lt, PySem.F.args_int_lt_2, fun _ _ _ _ _ _ _ _ h q => decl_bin h q, fun _ _ => rfl⟩
theorem ic_gt : IntCmp .Gt "int.__gt__" Builtin.«int.__gt__» := ⟨PySem.F.slot_int_gt, PySem.F.entry_int_gt, PySem.F.args_int_gt_2, fun _ _ _ _ _ _ _ _ h q => decl_bin h q, fun _ _ => rfl⟩
theorem cmp_refl {op : CmpOp} {idl : String} {B : Builtin} {i : Int} {t : Tok} {Q : Value → Shared → Prop} (c : IntCmp op idl B) (hu : A.units < cLine) (X : K.In s.heap) (I : InstAt s.heap x ox C od) (hno : NoInt x s)
    (hsR : findIn K (.ref C) (cmpInfo op).2.2 = some (some (.ref f))) (hf : isFn K (.ref f) = true) (hsub : subIn K (.ref C) (.type "int") = some false)
    (h : wpAny (model prog w) A (call (.ref f) [.ref x, .int i t]) (PySem.W.CmpBack Q) E s) : wpAny (model prog w) A (richCompare op (.int i t) (.ref x)) Q E s := by
  have ha := typeIs_int s i t
  unfold richCompare
  simp only [ha.oneThing_none]
  refine wpAny_holding (wpAny_bind (wpAny_cRoomFor hu ?_))
  refine wpAny_bind (wpAny_typeOf ha (wpAny_bind (I.type.here ?_)))
  have hne : (Value.type "int" != Value.ref C) = true := rfl
  simp only [hne, if_true]
  refine wpAny_bind ((looks_subIn X hsub).here ?_)
  simp only [Bool.false_eq_true, if_false]
  refine wpAny_bind (wpAny_tryCompare_declines ha c.sl (call_givesAt (Q := fun v s1 => v = .notImplemented ∧ _) c.sl ha c.en (c.ar _ _) (c.de i t x) hno ⟨rfl, ?_⟩))
  simp only [Bool.not_false, if_true]
  unfold tryCompare
  refine wpAny_bind (wpAny_bind (ifBound_K X I hsR hf (wpAny_mono h (fun v s' hv => ?_) fun _ _ e => e)))
  cases v <;> first | exact hv.elim | exact wpAny_pure (wpAny_pure hv)
end
section
variable {X : Cx} {n k : Nat} {C f g : Addr} {sp spR : Sp} {op : CmpOp} {idl : String} {B : Builtin}
/-- a comparison by an own def, or by the reflected one where an int stands at the left -/
def rCmpB (K : Frag) (C : Addr) (sp spR : Sp) : R2 := fun x y H Q => rCmpL K C sp x y H Q ∨ ∃ b dy ws i, x = .int i ∧ y = .ref b ∧ SlX.Slt H b C dy ws ∧ spR [y, x] H Q E0
theorem op_cmpB (c : IntCmp op idl B) (hs : PySem.W.findIn X.K (.ref C) (cmpInfo op).2.1 = some (some (.ref f))) (hf : PySem.W.isFn X.K (.ref f) = true) (F : FnR X.prog X.w X.K X.mg X.base (L2.CX X.prog X.w) n f sp)
    (hsR : PySem.W.findIn X.K (.ref C) (cmpInfo op).2.2 = some (some (.ref g))) (hg : PySem.W.isFn X.K (.ref g) = true) (G : FnR X.prog X.w X.K X.mg X.base (L2.CX X.prog X.w) k g spR)
    (hsub : PySem.W.subIn X.K (.ref C) (.type "int") = some false) (hr : Room n X.A) (hr2 : Room k X.A) : OpR X (compareOp op) (rCmpB X.K C sp spR) := by
  intro pins s σ H x y v u Q I rx ry h
  rcases h with h | ⟨b, dy, ws, i, rfl, rfl, h1, q⟩
  · exact op_cmpL c.hop hs hf F hr pins s σ H x y v u Q I rx ry h
  · obtain ⟨t, rfl⟩ := (show ∃ t, v = Value.int i t from rx)
    cases (show u = Value.ref b from ry)
    obtain ⟨sl, od, _, J, _⟩ := SlX.slt_inst I h1
    rw [c.hop]
    refine cmp_refl c hr.units0 I.kIn J ⟨_, J.at_, fun _ _ => by intro z; cases z⟩ hsR hg hsub ?_
    refine wpAny_mono (wpAny_call (run_fnR (us := [.ref b, .int i t]) (vs := [.ref b, .int i]) G hr2 passL I (.cons rfl (.cons ⟨t, rfl⟩ .nil)) q)) (fun w s' z => ?_) fun _ _ x => x
    obtain ⟨z2, H2, I2, rz, qz⟩ := z
    exact SlX.cmpback rz ⟨z2, H2, I2, rz, qz⟩
end
end S
namespace S
open PySem PySem.Spec PyProof.Rows L2
/-! defs of eight arguments -/
def Sp8 (f : V → V → V → V → V → V → V → V → Hp → VK → XK → Prop) : Sp := fun vs H Q E => ∃ x y z u v w t r, vs = [x, y, z, u, v, w, t, r] ∧ f x y z u v w t r H Q E
theorem splen8 {vs : List V} {H : Hp} {Q : VK} {E : XK} {f} (h : Sp8 f vs H Q E) : vs.length = 8 := by obtain ⟨_, _, _, _, _, _, _, _, rfl, _⟩ := h; rfl
end S
namespace W
open PySem PySem.Spec PyProof.Rows L2
def top (i : Nat) : Stmt := PySem.Challenge.pw_seenshares_k16_long_runs.main.body.getD i (.Pass ⟨0, 0, 0, 0⟩)
abbrev s_is_integer : Stmt := top 4
theorem sc_is_integer : FnScope ["value"] ["value"] (defScope s_is_integer) := by
  refine ⟨rfl, rfl, rfl, ?_, rfl, ?_, ?_⟩ <;> decide +kernel
abbrev d_is_integer : He.DefD := ⟨("is_integer", none), "is_integer", "is_integer", defArgs s_is_integer, defBody s_is_integer, defScope s_is_integer, [], []⟩
abbrev s_is_within : Stmt := top 5
theorem sc_is_within : FnScope ["value", "low", "high"] ["value", "low", "high"] (defScope s_is_within) := by
  refine ⟨rfl, rfl, rfl, ?_, rfl, ?_, ?_⟩ <;> decide +kernel
abbrev d_is_within : He.DefD := ⟨("is_within", none), "is_within", "is_within", defArgs s_is_within, defBody s_is_within, defScope s_is_within, [], []⟩
abbrev s_is_name : Stmt := top 6
theorem sc_is_name : FnScope ["value", "char"] ["value"] (defScope s_is_name) := by
  refine ⟨rfl, rfl, rfl, ?_, rfl, ?_, ?_⟩ <;> decide +kernel
abbrev d_is_name : He.DefD := ⟨("is_name", none), "is_name", "is_name", defArgs s_is_name, defBody s_is_name, defScope s_is_name, [], []⟩
abbrev s_has_equal_items : Stmt := top 7
theorem sc_has_equal_items : FnScope ["items", "at"] ["items"] (defScope s_has_equal_items) := by
  refine ⟨rfl, rfl, rfl, ?_, rfl, ?_, ?_⟩ <;> decide +kernel
abbrev d_has_equal_items : He.DefD := ⟨("has_equal_items", none), "has_equal_items", "has_equal_items", defArgs s_has_equal_items, defBody s_has_equal_items, defScope s_has_equal_items, [], []⟩
abbrev s_BadPlace___init__ : Stmt := inClass (top 10) 0
theorem sc_BadPlace___init__ : FnScope ["self", "why"] ["self", "why"] (defScope s_BadPlace___init__) := by
  refine ⟨rfl, rfl, rfl, ?_, rfl, ?_, ?_⟩ <;> decide +kernel
abbrev d_BadPlace___init__ : He.DefD := ⟨("BadPlace", some "__init__"), "__init__", "BadPlace.__init__", defArgs s_BadPlace___init__, defBody s_BadPlace___init__, defScope s_BadPlace___init__, [], []⟩
abbrev s_BadProgram___init__ : Stmt := inClass (top 11) 0
theorem sc_BadProgram___init__ : FnScope ["self", "why"] ["self", "why"] (defScope s_BadProgram___init__) := by
  refine ⟨rfl, rfl, rfl, ?_, rfl, ?_, ?_⟩ <;> decide +kernel
abbrev d_BadProgram___init__ : He.DefD := ⟨("BadProgram", some "__init__"), "__init__", "BadProgram.__init__", defArgs s_BadProgram___init__, defBody s_BadProgram___init__, defScope s_BadProgram___init__, [], []⟩
abbrev s_BadSampler___init__ : Stmt := inClass (top 13) 0
theorem sc_BadSampler___init__ : FnScope ["self", "why"] ["self", "why"] (defScope s_BadSampler___init__) := by
  refine ⟨rfl, rfl, rfl, ?_, rfl, ?_, ?_⟩ <;> decide +kernel
abbrev d_BadSampler___init__ : He.DefD := ⟨("BadSampler", some "__init__"), "__init__", "BadSampler.__init__", defArgs s_BadSampler___init__, defBody s_BadSampler___init__, defScope s_BadSampler___init__, [], []⟩
abbrev s_BadStay___init__ : Stmt := inClass (top 14) 0
theorem sc_BadStay___init__ : FnScope ["self", "index"] ["self", "index"] (defScope s_BadStay___init__) := by
  refine ⟨rfl, rfl, rfl, ?_, rfl, ?_, ?_⟩ <;> decide +kernel
abbrev d_BadStay___init__ : He.DefD := ⟨("BadStay", some "__init__"), "__init__", "BadStay.__init__", defArgs s_BadStay___init__, defBody s_BadStay___init__, defScope s_BadStay___init__, [], []⟩
abbrev s_BadPhase___init__ : Stmt := inClass (top 15) 0
theorem sc_BadPhase___init__ : FnScope ["self", "phase"] ["self", "phase"] (defScope s_BadPhase___init__) := by
  refine ⟨rfl, rfl, rfl, ?_, rfl, ?_, ?_⟩ <;> decide +kernel
abbrev d_BadPhase___init__ : He.DefD := ⟨("BadPhase", some "__init__"), "__init__", "BadPhase.__init__", defArgs s_BadPhase___init__, defBody s_BadPhase___init__, defScope s_BadPhase___init__, [], []⟩
abbrev s_BadLook___init__ : Stmt := inClass (top 16) 0
theorem sc_BadLook___init__ : FnScope ["self", "index"] ["self", "index"] (defScope s_BadLook___init__) := by
  refine ⟨rfl, rfl, rfl, ?_, rfl, ?_, ?_⟩ <;> decide +kernel
abbrev d_BadLook___init__ : He.DefD := ⟨("BadLook", some "__init__"), "__init__", "BadLook.__init__", defArgs s_BadLook___init__, defBody s_BadLook___init__, defScope s_BadLook___init__, [], []⟩
abbrev s_BadChoice___init__ : Stmt := inClass (top 18) 0
theorem sc_BadChoice___init__ : FnScope ["self", "index"] ["self", "index"] (defScope s_BadChoice___init__) := by
  refine ⟨rfl, rfl, rfl, ?_, rfl, ?_, ?_⟩ <;> decide +kernel
abbrev d_BadChoice___init__ : He.DefD := ⟨("BadChoice", some "__init__"), "__init__", "BadChoice.__init__", defArgs s_BadChoice___init__, defBody s_BadChoice___init__, defScope s_BadChoice___init__, [], []⟩
abbrev s_Record___init__ : Stmt := inClass (top 21) 0
theorem sc_Record___init__ : FnScope ["self", "names", "name"] ["self", "names"] (defScope s_Record___init__) := by
  refine ⟨rfl, rfl, rfl, ?_, rfl, ?_, ?_⟩ <;> decide +kernel
abbrev d_Record___init__ : He.DefD := ⟨("Record", some "__init__"), "__init__", "Record.__init__", defArgs s_Record___init__, defBody s_Record___init__, defScope s_Record___init__, [], []⟩
abbrev s_Record_see : Stmt := inClass (top 21) 1
theorem sc_Record_see : FnScope ["self", "name", "let", "due", "noted"] ["self", "name", "let", "due"] (defScope s_Record_see) := by
  refine ⟨rfl, rfl, rfl, ?_, rfl, ?_, ?_⟩ <;> decide +kernel
abbrev d_Record_see : He.DefD := ⟨("Record", some "see"), "see", "Record.see", defArgs s_Record_see, defBody s_Record_see, defScope s_Record_see, [], []⟩
abbrev s_phase_of : Stmt := top 22
theorem sc_phase_of : FnScope ["sampler", "phase"] ["sampler", "phase"] (defScope s_phase_of) := by
  refine ⟨rfl, rfl, rfl, ?_, rfl, ?_, ?_⟩ <;> decide +kernel
abbrev d_phase_of : He.DefD := ⟨("phase_of", none), "phase_of", "phase_of", defArgs s_phase_of, defBody s_phase_of, defScope s_phase_of, [], []⟩
abbrev s_stay_fits : Stmt := top 23
theorem sc_stay_fits : FnScope ["program", "stay", "allowed", "is_last", "name", "ticks", "low"] ["program", "stay", "allowed", "is_last"] (defScope s_stay_fits) := by
  refine ⟨rfl, rfl, rfl, ?_, rfl, ?_, ?_⟩ <;> decide +kernel
abbrev d_stay_fits : He.DefD := ⟨("stay_fits", none), "stay_fits", "stay_fits", defArgs s_stay_fits, defBody s_stay_fits, defScope s_stay_fits, [], []⟩
abbrev s_bad_stay : Stmt := top 24
theorem sc_bad_stay : FnScope ["program", "stays", "links", "allowed", "at", "stay"] ["program", "stays"] (defScope s_bad_stay) := by
  refine ⟨rfl, rfl, rfl, ?_, rfl, ?_, ?_⟩ <;> decide +kernel
abbrev d_bad_stay : He.DefD := ⟨("bad_stay", none), "bad_stay", "bad_stay", defArgs s_bad_stay, defBody s_bad_stay, defScope s_bad_stay, [], []⟩
abbrev s_look_fits : Stmt := top 25
theorem sc_look_fits : FnScope ["look", "low", "high", "jitter"] ["look", "low", "high", "jitter"] (defScope s_look_fits) := by
  refine ⟨rfl, rfl, rfl, ?_, rfl, ?_, ?_⟩ <;> decide +kernel
abbrev d_look_fits : He.DefD := ⟨("look_fits", none), "look_fits", "look_fits", defArgs s_look_fits, defBody s_look_fits, defScope s_look_fits, [], []⟩
abbrev s_bad_look : Stmt := top 26
theorem sc_bad_look : FnScope ["sampler", "phase", "ticks", "looks", "last", "at", "look", "low", "high"] ["sampler", "phase", "ticks", "looks"] (defScope s_bad_look) := by
  refine ⟨rfl, rfl, rfl, ?_, rfl, ?_, ?_⟩ <;> decide +kernel
abbrev d_bad_look : He.DefD := ⟨("bad_look", none), "bad_look", "bad_look", defArgs s_bad_look, defBody s_bad_look, defScope s_bad_look, [], []⟩
abbrev s_play : Stmt := top 27
theorem sc_play : FnScope ["program", "sampler", "phase", "stays", "looks", "record", "name", "ticks", "let", "count", "at", "look"] ["program", "sampler", "phase", "stays", "looks"] (defScope s_play) := by
  refine ⟨rfl, rfl, rfl, ?_, rfl, ?_, ?_⟩ <;> decide +kernel
abbrev d_play : He.DefD := ⟨("play", none), "play", "play", defArgs s_play, defBody s_play, defScope s_play, [], []⟩
abbrev s_observe : Stmt := top 28
theorem sc_observe : FnScope ["program", "sampler", "stays", "looks", "phase", "wrong", "first", "ticks", "stay"] ["program", "sampler", "stays", "looks", "phase"] (defScope s_observe) := by
  refine ⟨rfl, rfl, rfl, ?_, rfl, ?_, ?_⟩ <;> decide +kernel
abbrev d_observe : He.DefD := ⟨("observe", none), "observe", "observe", defArgs s_observe, defBody s_observe, defScope s_observe, [], [("phase", .non)]⟩
abbrev s_settle : Stmt := top 30
theorem sc_settle : FnScope ["place", "sampler", "spent", "slot", "before", "waited", "dues", "pairs", "due", "waits", "state"] ["place", "sampler", "spent", "slot", "before", "waited"] (defScope s_settle) := by
  refine ⟨rfl, rfl, rfl, ?_, rfl, ?_, ?_⟩ <;> decide +kernel
abbrev d_settle : He.DefD := ⟨("settle", none), "settle", "settle", defArgs s_settle, defBody s_settle, defScope s_settle, [], []⟩
abbrev s_Profile___init__ : Stmt := inClass (top 33) 0
theorem sc_Profile___init__ : FnScope ["self", "program", "sampler", "phase"] ["self", "program", "sampler", "phase"] (defScope s_Profile___init__) := by
  refine ⟨rfl, rfl, rfl, ?_, rfl, ?_, ?_⟩ <;> decide +kernel
abbrev d_Profile___init__ : He.DefD := ⟨("Profile", some "__init__"), "__init__", "Profile.__init__", defArgs s_Profile___init__, defBody s_Profile___init__, defScope s_Profile___init__, [], [("phase", .non)]⟩
abbrev s_Profile_options : Stmt := inClass (top 33) 1
theorem sc_Profile_options : FnScope ["self", "name", "spent", "rows", "links", "other"] ["self"] (defScope s_Profile_options) := by
  refine ⟨rfl, rfl, rfl, ?_, rfl, ?_, ?_⟩ <;> decide +kernel
abbrev d_Profile_options : He.DefD := ⟨("Profile", some "options"), "options", "Profile.options", defArgs s_Profile_options, defBody s_Profile_options, defScope s_Profile_options, [], []⟩
abbrev s_Profile_moves : Stmt := inClass (top 33) 2
theorem sc_Profile_moves : FnScope ["self", "slot", "before", "waited", "rows", "move", "name", "spent", "state", "noted"] ["self"] (defScope s_Profile_moves) := by
  refine ⟨rfl, rfl, rfl, ?_, rfl, ?_, ?_⟩ <;> decide +kernel
abbrev d_Profile_moves : He.DefD := ⟨("Profile", some "moves"), "moves", "Profile.moves", defArgs s_Profile_moves, defBody s_Profile_moves, defScope s_Profile_moves, [], []⟩
abbrev s_Profile_choices : Stmt := inClass (top 33) 3
theorem sc_Profile_choices : FnScope ["self", "row"] ["self"] (defScope s_Profile_choices) := by
  refine ⟨rfl, rfl, rfl, ?_, rfl, ?_, ?_⟩ <;> decide +kernel
abbrev d_Profile_choices : He.DefD := ⟨("Profile", some "choices"), "choices", "Profile.choices", defArgs s_Profile_choices, defBody s_Profile_choices, defScope s_Profile_choices, [], []⟩
abbrev s_Profile_path : Stmt := inClass (top 33) 5
theorem sc_Profile_path : FnScope ["self"] ["self"] (defScope s_Profile_path) := by
  refine ⟨rfl, rfl, rfl, ?_, rfl, ?_, ?_⟩ <;> decide +kernel
abbrev d_Profile_path : He.DefD := ⟨("Profile", some "path"), "path", "Profile.path", defArgs s_Profile_path, defBody s_Profile_path, defScope s_Profile_path, [], []⟩
abbrev s_Profile_record : Stmt := inClass (top 33) 9
theorem sc_Profile_record : FnScope ["self", "record", "name", "move", "look"] ["self"] (defScope s_Profile_record) := by
  refine ⟨rfl, rfl, rfl, ?_, rfl, ?_, ?_⟩ <;> decide +kernel
abbrev d_Profile_record : He.DefD := ⟨("Profile", some "record"), "record", "Profile.record", defArgs s_Profile_record, defBody s_Profile_record, defScope s_Profile_record, [], []⟩
abbrev s_Place___init__ : Stmt := inClass (top 37) 0
theorem sc_Place___init__ : FnScope ["self", "name", "least", "most", "let"] ["self", "name", "least", "most", "let"] (defScope s_Place___init__) := by
  refine ⟨rfl, rfl, rfl, ?_, rfl, ?_, ?_⟩ <;> decide +kernel
abbrev d_Place___init__ : He.DefD := ⟨("Place", some "__init__"), "__init__", "Place.__init__", defArgs s_Place___init__, defBody s_Place___init__, defScope s_Place___init__, [.int 1, .non], [("let", .bl true)]⟩
abbrev s_places_fit : Stmt := top 38
theorem sc_places_fit : FnScope ["places", "place"] ["places"] (defScope s_places_fit) := by
  refine ⟨rfl, rfl, rfl, ?_, rfl, ?_, ?_⟩ <;> decide +kernel
abbrev d_places_fit : He.DefD := ⟨("places_fit", none), "places_fit", "places_fit", defArgs s_places_fit, defBody s_places_fit, defScope s_places_fit, [], []⟩
abbrev s_nexts_fit : Stmt := top 39
theorem sc_nexts_fit : FnScope ["names", "nexts", "name", "row", "item"] ["names", "nexts"] (defScope s_nexts_fit) := by
  refine ⟨rfl, rfl, rfl, ?_, rfl, ?_, ?_⟩ <;> decide +kernel
abbrev d_nexts_fit : He.DefD := ⟨("nexts_fit", none), "nexts_fit", "nexts_fit", defArgs s_nexts_fit, defBody s_nexts_fit, defScope s_nexts_fit, [], []⟩
abbrev s_Program___init__ : Stmt := inClass (top 40) 0
theorem sc_Program___init__ : FnScope ["self", "places", "nexts", "start", "names", "place", "name"] ["self", "places", "nexts", "start"] (defScope s_Program___init__) := by
  refine ⟨rfl, rfl, rfl, ?_, rfl, ?_, ?_⟩ <;> decide +kernel
abbrev d_Program___init__ : He.DefD := ⟨("Program", some "__init__"), "__init__", "Program.__init__", defArgs s_Program___init__, defBody s_Program___init__, defScope s_Program___init__, [], [("start", .non)]⟩
abbrev s_Program_nexts : Stmt := inClass (top 40) 1
theorem sc_Program_nexts : FnScope ["self", "name"] ["self"] (defScope s_Program_nexts) := by
  refine ⟨rfl, rfl, rfl, ?_, rfl, ?_, ?_⟩ <;> decide +kernel
abbrev d_Program_nexts : He.DefD := ⟨("Program", some "nexts"), "nexts", "Program.nexts", defArgs s_Program_nexts, defBody s_Program_nexts, defScope s_Program_nexts, [], []⟩
abbrev s_Sampler___init__ : Stmt := inClass (top 43) 0
theorem sc_Sampler___init__ : FnScope ["self", "period", "jitter", "phase"] ["self", "period", "jitter", "phase"] (defScope s_Sampler___init__) := by
  refine ⟨rfl, rfl, rfl, ?_, rfl, ?_, ?_⟩ <;> decide +kernel
abbrev d_Sampler___init__ : He.DefD := ⟨("Sampler", some "__init__"), "__init__", "Sampler.__init__", defArgs s_Sampler___init__, defBody s_Sampler___init__, defScope s_Sampler___init__, [.int 0], [("phase", .int 0)]⟩
abbrev s__law_cell : Stmt := top 45
theorem sc__law_cell : FnScope ["_law_script", "_law_k", "_law_cell_here", "_law_number", "_law_total", "_law_step"] ["_law_script", "_law_k"] (defScope s__law_cell) := by
  refine ⟨rfl, rfl, rfl, ?_, rfl, ?_, ?_⟩ <;> decide +kernel
abbrev d__law_cell : He.DefD := ⟨("_law_cell", none), "_law_cell", "_law_cell", defArgs s__law_cell, defBody s__law_cell, defScope s__law_cell, [], []⟩
abbrev s__law_take : Stmt := top 46
theorem sc__law_take : FnScope ["_law_draw", "_law_size", "_law_taken"] ["_law_draw", "_law_size"] (defScope s__law_take) := by
  refine ⟨rfl, rfl, rfl, ?_, rfl, ?_, ?_⟩ <;> decide +kernel
abbrev d__law_take : He.DefD := ⟨("_law_take", none), "_law_take", "_law_take", defArgs s__law_take, defBody s__law_take, defScope s__law_take, [], []⟩
abbrev s__law_is_integer : Stmt := top 47
theorem sc__law_is_integer : FnScope ["_law_value"] ["_law_value"] (defScope s__law_is_integer) := by
  refine ⟨rfl, rfl, rfl, ?_, rfl, ?_, ?_⟩ <;> decide +kernel
abbrev d__law_is_integer : He.DefD := ⟨("_law_is_integer", none), "_law_is_integer", "_law_is_integer", defArgs s__law_is_integer, defBody s__law_is_integer, defScope s__law_is_integer, [], []⟩
abbrev s__law_told : Stmt := top 48
theorem sc__law_told : FnScope ["_law_program", "_law_sampler", "_law_stays", "_law_looks", "_law_record", "_law_outcome", "e"] ["_law_program", "_law_sampler", "_law_stays", "_law_looks"] (defScope s__law_told) := by
  refine ⟨rfl, rfl, rfl, ?_, rfl, ?_, ?_⟩ <;> decide +kernel
abbrev d__law_told : He.DefD := ⟨("_law_told", none), "_law_told", "_law_told", defArgs s__law_told, defBody s__law_told, defScope s__law_told, [], []⟩
abbrev s__law_called : Stmt := top 49
theorem sc__law_called : FnScope ["_law_live", "_law_choice", "_law_outcome", "e"] ["_law_live", "_law_choice"] (defScope s__law_called) := by
  refine ⟨rfl, rfl, rfl, ?_, rfl, ?_, ?_⟩ <;> decide +kernel
abbrev d__law_called : He.DefD := ⟨("_law_called", none), "_law_called", "_law_called", defArgs s__law_called, defBody s__law_called, defScope s__law_called, [], []⟩
abbrev s__law_profile_fits : Stmt := top 50
theorem sc__law_profile_fits : FnScope ["_law_program", "_law_size", "_law_spec", "_law_many", "_law_opened", "_law_live", "_law_k", "_law_look", "_law_noted", "_law_move", "_law_record"] ["_law_program", "_law_size", "_law_spec", "_law_many", "_law_opened"] (defScope s__law_profile_fits) := by
  refine ⟨rfl, rfl, rfl, ?_, rfl, ?_, ?_⟩ <;> decide +kernel
abbrev d__law_profile_fits : He.DefD := ⟨("_law_profile_fits", none), "_law_profile_fits", "_law_profile_fits", defArgs s__law_profile_fits, defBody s__law_profile_fits, defScope s__law_profile_fits, [], []⟩
abbrev s_law : Stmt := top 51
theorem sc_law : FnScope ["_law_script", "_law_draw", "_law_size", "_law_spec", "_law_many", "_law_opened", "_law_rest", "_law_places", "_law_program", "_law_stays", "_law_slots", "_law_looks", "_law_outcome", "_law_bad"] ["_law_script"] (defScope s_law) := by
  refine ⟨rfl, rfl, rfl, ?_, rfl, ?_, ?_⟩ <;> decide +kernel
abbrev d_law : He.DefD := ⟨("law", none), "law", "law", defArgs s_law, defBody s_law, defScope s_law, [], []⟩
abbrev s_NoPlace___init__ : Stmt := inClass (top 12) 0
theorem sc_NoPlace___init__ : FnScope ["self", "name"] ["self", "name"] (defScope s_NoPlace___init__) := by
  refine ⟨rfl, rfl, rfl, ?_, rfl, ?_, ?_⟩ <;> decide +kernel
abbrev d_NoPlace___init__ : He.DefD := ⟨("NoPlace", some "__init__"), "__init__", "NoPlace.__init__", defArgs s_NoPlace___init__, defBody s_NoPlace___init__, defScope s_NoPlace___init__, [], []⟩
abbrev s_Program___getitem__ : Stmt := inClass (top 40) 3
theorem sc_Program___getitem__ : FnScope ["self", "at", "place"] ["self", "at"] (defScope s_Program___getitem__) := by
  refine ⟨rfl, rfl, rfl, ?_, rfl, ?_, ?_⟩ <;> decide +kernel
abbrev d_Program___getitem__ : He.DefD := ⟨("Program", some "__getitem__"), "__getitem__", "Program.__getitem__", defArgs s_Program___getitem__, defBody s_Program___getitem__, defScope s_Program___getitem__, [], []⟩
abbrev s_Profile___call__ : Stmt := inClass (top 33) 4
theorem sc_Profile___call__ : FnScope ["self", "choice", "known", "state", "noted"] ["self", "choice"] (defScope s_Profile___call__) := by
  refine ⟨rfl, rfl, rfl, ?_, rfl, ?_, ?_⟩ <;> decide +kernel
abbrev d_Profile___call__ : He.DefD := ⟨("Profile", some "__call__"), "__call__", "Profile.__call__", defArgs s_Profile___call__, defBody s_Profile___call__, defScope s_Profile___call__, [], []⟩
def fns : List He.DefD := [d_is_integer, d_is_within, d_is_name, d_has_equal_items, d_BadPlace___init__, d_BadProgram___init__, d_BadSampler___init__, d_BadStay___init__, d_BadPhase___init__, d_BadLook___init__, d_BadChoice___init__, d_Record___init__, d_Record_see, d_phase_of, d_stay_fits, d_bad_stay, d_look_fits, d_bad_look, d_play, d_observe, d_settle, d_Profile___init__, d_Profile_options, d_Profile_moves, d_Profile_choices, d_Profile_path, d_Profile_record, d_Place___init__, d_places_fit, d_nexts_fit, d_Program___init__, d_Sampler___init__, d__law_cell, d__law_take, d__law_is_integer, d__law_told, d__law_called, d__law_profile_fits, d_law, d_NoPlace___init__, d_Program___getitem__, d_Profile___call__]
def gts : List He.DefD := [d_Program_nexts]
def cks : List S.Ck := [
  (He.Fa.glo "is_integer").ok,
  (He.Fa.glo "is_within").ok,
  (He.Fa.glo "is_name").ok,
  (He.Fa.glo "has_equal_items").ok,
  (He.Fa.glo "phase_of").ok,
  (He.Fa.glo "stay_fits").ok,
  (He.Fa.glo "bad_stay").ok,
  (He.Fa.glo "look_fits").ok,
  (He.Fa.glo "bad_look").ok,
  (He.Fa.glo "play").ok,
  (He.Fa.glo "observe").ok,
  (He.Fa.glo "settle").ok,
  (He.Fa.glo "places_fit").ok,
  (He.Fa.glo "nexts_fit").ok,
  (He.Fa.glo "_law_cell").ok,
  (He.Fa.glo "_law_take").ok,
  (He.Fa.glo "_law_is_integer").ok,
  (He.Fa.glo "_law_told").ok,
  (He.Fa.glo "_law_called").ok,
  (He.Fa.glo "_law_profile_fits").ok,
  (He.Fa.glo "law").ok,
  (He.Fa.glo "SeenError").ok,
  (He.Fa.glo "BadPlace").ok,
  (He.Fa.glo "BadProgram").ok,
  (He.Fa.glo "NoPlace").ok,
  (He.Fa.glo "BadSampler").ok,
  (He.Fa.glo "BadStay").ok,
  (He.Fa.glo "BadPhase").ok,
  (He.Fa.glo "BadLook").ok,
  (He.Fa.glo "NoTicks").ok,
  (He.Fa.glo "BadChoice").ok,
  (He.Fa.glo "Record").ok,
  (He.Fa.glo "Profile").ok,
  (He.Fa.glo "Place").ok,
  (He.Fa.glo "Program").ok,
  (He.Fa.glo "Sampler").ok,
  (He.Fa.free "int").ok,
  (He.Fa.free "bool").ok,
  (He.Fa.free "str").ok,
  (He.Fa.free "list").ok,
  (He.Fa.free "tuple").ok,
  (He.Fa.free "dict").ok,
  (He.Fa.free "isinstance").ok,
  (He.Fa.free "len").ok,
  (He.Fa.free "range").ok,
  (He.Fa.free "enumerate").ok,
  (He.Fa.free "sum").ok,
  (He.Fa.free "min").ok,
  (He.Fa.str "LETTERS" "abcdefghijklmnopqrstuvwxyz").ok,
  (He.Fa.glo "KEPT_WORDS").ok,
  (fun K => He.tupB K "KEPT_WORDS" [.str "any", .str "closed", .str "end", .str "open", .str "to"]),
  (He.Fa.int "MOST_RUN" 2000).ok,
  (He.Fa.int "MOST_TICKS" 6).ok,
  (He.Fa.int "MOST_PLACES" 6).ok,
  (He.Fa.int "MOST_PERIOD" 8).ok,
  (fun K => S.oexB K (He.ga K "BadPlace")),
  (fun K => He.eqO (PySem.W.findIn K (.ref (He.ga K "BadPlace")) "__init__") (some (some (.ref (He.ma K (He.ga K "BadPlace") "__init__"))))),
  (fun K => decide (PySem.W.typeIn K (.ref (He.ma K (He.ga K "BadPlace") "__init__")) = some (.type "function"))),
  (fun K => He.eqO (PySem.W.findIn K (.ref (He.ga K "BadPlace")) "why") (some none)),
  (fun K => S.oexB K (He.ga K "BadProgram")),
  (fun K => He.eqO (PySem.W.findIn K (.ref (He.ga K "BadProgram")) "__init__") (some (some (.ref (He.ma K (He.ga K "BadProgram") "__init__"))))),
  (fun K => decide (PySem.W.typeIn K (.ref (He.ma K (He.ga K "BadProgram") "__init__")) = some (.type "function"))),
  (fun K => He.eqO (PySem.W.findIn K (.ref (He.ga K "BadProgram")) "why") (some none)),
  (fun K => S.oexB K (He.ga K "NoPlace")),
  (fun K => He.eqO (PySem.W.findIn K (.ref (He.ga K "NoPlace")) "__init__") (some (some (.ref (He.ma K (He.ga K "NoPlace") "__init__"))))),
  (fun K => decide (PySem.W.typeIn K (.ref (He.ma K (He.ga K "NoPlace") "__init__")) = some (.type "function"))),
  (fun K => He.eqO (PySem.W.findIn K (.ref (He.ga K "NoPlace")) "name") (some none)),
  (fun K => S.oexB K (He.ga K "BadSampler")),
  (fun K => He.eqO (PySem.W.findIn K (.ref (He.ga K "BadSampler")) "__init__") (some (some (.ref (He.ma K (He.ga K "BadSampler") "__init__"))))),
  (fun K => decide (PySem.W.typeIn K (.ref (He.ma K (He.ga K "BadSampler") "__init__")) = some (.type "function"))),
  (fun K => He.eqO (PySem.W.findIn K (.ref (He.ga K "BadSampler")) "why") (some none)),
  (fun K => S.oexB K (He.ga K "BadStay")),
  (fun K => He.eqO (PySem.W.findIn K (.ref (He.ga K "BadStay")) "__init__") (some (some (.ref (He.ma K (He.ga K "BadStay") "__init__"))))),
  (fun K => decide (PySem.W.typeIn K (.ref (He.ma K (He.ga K "BadStay") "__init__")) = some (.type "function"))),
  (fun K => He.eqO (PySem.W.findIn K (.ref (He.ga K "BadStay")) "index") (some none)),
  (fun K => S.oexB K (He.ga K "BadPhase")),
  (fun K => He.eqO (PySem.W.findIn K (.ref (He.ga K "BadPhase")) "__init__") (some (some (.ref (He.ma K (He.ga K "BadPhase") "__init__"))))),
  (fun K => decide (PySem.W.typeIn K (.ref (He.ma K (He.ga K "BadPhase") "__init__")) = some (.type "function"))),
  (fun K => He.eqO (PySem.W.findIn K (.ref (He.ga K "BadPhase")) "phase") (some none)),
  (fun K => S.oexB K (He.ga K "BadLook")),
  (fun K => xfB K (He.ga K "BadLook")),
  (fun K => He.eqO (PySem.W.findIn K (.ref (He.ga K "BadLook")) "__init__") (some (some (.ref (He.ma K (He.ga K "BadLook") "__init__"))))),
  (fun K => decide (PySem.W.typeIn K (.ref (He.ma K (He.ga K "BadLook") "__init__")) = some (.type "function"))),
  (fun K => He.eqO (PySem.W.findIn K (.ref (He.ga K "BadLook")) "index") (some none)),
  (He.Fa.exm "BadLook" "BadLook" true).ok,
  (He.Fa.exm "BadLook" "NoTicks" false).ok,
  (fun K => S.excB K (He.ga K "NoTicks")),
  (fun K => S.ex0B K (He.ga K "NoTicks")),
  (fun K => decide (PySem.W.kitOne K (.ref (He.ga K "NoTicks")) (.ref (He.ga K "SeenError")) = some true)),
  (fun K => decide (PySem.W.kitOne K (.ref (He.ga K "NoTicks")) (.ref (He.ga K "BadLook")) = some false)),
  (He.Fa.exm "NoTicks" "NoTicks" true).ok,
  (fun K => S.oexB K (He.ga K "BadChoice")),
  (fun K => xfB K (He.ga K "BadChoice")),
  (fun K => He.eqO (PySem.W.findIn K (.ref (He.ga K "BadChoice")) "__init__") (some (some (.ref (He.ma K (He.ga K "BadChoice") "__init__"))))),
  (fun K => decide (PySem.W.typeIn K (.ref (He.ma K (He.ga K "BadChoice") "__init__")) = some (.type "function"))),
  (fun K => He.eqO (PySem.W.findIn K (.ref (He.ga K "BadChoice")) "index") (some none)),
  (He.Fa.exm "BadChoice" "BadChoice" true).ok,
  (He.Fa.cls "Record").ok,
  (He.Fa.mkr "Record").ok,
  (He.Fa.noat "Record" "ticks").ok,
  (He.Fa.noat "Record" "times").ok,
  (He.Fa.noat "Record" "notes").ok,
  (He.Fa.noat "Record" "waiting").ok,
  (He.Fa.noat "Record" "lost").ok,
  (He.Fa.meth "Record" "see").ok,
  (He.Fa.cls "Profile").ok,
  (He.Fa.mkr "Profile").ok,
  (He.Fa.noat "Profile" "phase").ok,
  (He.Fa.noat "Profile" "program").ok,
  (He.Fa.noat "Profile" "sampler").ok,
  (He.Fa.noat "Profile" "state").ok,
  (He.Fa.noat "Profile" "ticks").ok,
  (He.Fa.noat "Profile" "history").ok,
  (He.Fa.noat "Profile" "saved").ok,
  (He.Fa.meth "Profile" "options").ok,
  (He.Fa.meth "Profile" "moves").ok,
  (He.Fa.meth "Profile" "choices").ok,
  (He.Fa.meth "Profile" "path").ok,
  (He.Fa.meth "Profile" "record").ok,
  (He.Fa.meth "Profile" "__call__").ok,
  (He.Fa.cls "Place").ok,
  (He.Fa.mkr "Place").ok,
  (He.Fa.noat "Place" "name").ok,
  (He.Fa.noat "Place" "least").ok,
  (He.Fa.noat "Place" "most").ok,
  (He.Fa.noat "Place" "let").ok,
  (fun K => S.insB K (He.ga K "Place")),
  (fun K => decide (PySem.W.kitOne K (.ref (He.ga K "Place")) (.ref (He.ga K "Place")) = some true)),
  (He.Fa.cls "Program").ok,
  (He.Fa.mkr "Program").ok,
  (He.Fa.noat "Program" "places").ok,
  (He.Fa.noat "Program" "names").ok,
  (He.Fa.noat "Program" "start").ok,
  (He.Fa.noat "Program" "links").ok,
  (fun K => S.proB K (He.ga K "Program") "nexts"),
  (He.Fa.meth "Program" "__getitem__").ok,
  (He.Fa.cls "Sampler").ok,
  (He.Fa.mkr "Sampler").ok,
  (He.Fa.noat "Sampler" "period").ok,
  (He.Fa.noat "Sampler" "jitter").ok,
  (He.Fa.noat "Sampler" "phase").ok,
  (fun K => PySem.W.fnIn K (He.ma K (He.ga K "Program") "__getitem__")),
  (fun K => PySem.W.fnIn K (He.ma K (He.ga K "Profile") "__call__"))]
structure Txt (K : S.Frag) (mg : Str → Option Value) : Prop where
  F_is_integer : S.FunA K d_is_integer
  F_is_within : S.FunA K d_is_within
  F_is_name : S.FunA K d_is_name
  F_has_equal_items : S.FunA K d_has_equal_items
  F_BadPlace___init__ : S.FunA K d_BadPlace___init__
  F_BadProgram___init__ : S.FunA K d_BadProgram___init__
  F_BadSampler___init__ : S.FunA K d_BadSampler___init__
  F_BadStay___init__ : S.FunA K d_BadStay___init__
  F_BadPhase___init__ : S.FunA K d_BadPhase___init__
  F_BadLook___init__ : S.FunA K d_BadLook___init__
  F_BadChoice___init__ : S.FunA K d_BadChoice___init__
  F_Record___init__ : S.FunA K d_Record___init__
  F_Record_see : S.FunA K d_Record_see
  F_phase_of : S.FunA K d_phase_of
  F_stay_fits : S.FunA K d_stay_fits
  F_bad_stay : S.FunA K d_bad_stay
  F_look_fits : S.FunA K d_look_fits
  F_bad_look : S.FunA K d_bad_look
  F_play : S.FunA K d_play
  F_observe : S.FunA K d_observe
  F_settle : S.FunA K d_settle
  F_Profile___init__ : S.FunA K d_Profile___init__
  F_Profile_options : S.FunA K d_Profile_options
  F_Profile_moves : S.FunA K d_Profile_moves
  F_Profile_choices : S.FunA K d_Profile_choices
  F_Profile_path : S.FunA K d_Profile_path
  F_Profile_record : S.FunA K d_Profile_record
  F_Place___init__ : S.FunA K d_Place___init__
  F_places_fit : S.FunA K d_places_fit
  F_nexts_fit : S.FunA K d_nexts_fit
  F_Program___init__ : S.FunA K d_Program___init__
  F_Program_nexts : S.FunG K d_Program_nexts
  F_Sampler___init__ : S.FunA K d_Sampler___init__
  F__law_cell : S.FunA K d__law_cell
  F__law_take : S.FunA K d__law_take
  F__law_is_integer : S.FunA K d__law_is_integer
  F__law_told : S.FunA K d__law_told
  F__law_called : S.FunA K d__law_called
  F__law_profile_fits : S.FunA K d__law_profile_fits
  F_law : S.FunA K d_law
  F_NoPlace___init__ : S.FunA K d_NoPlace___init__
  F_Program___getitem__ : S.FunA K d_Program___getitem__
  F_Profile___call__ : S.FunA K d_Profile___call__
  g_is_integer : mg "is_integer" = some (.ref (He.ga K "is_integer"))
  g_is_within : mg "is_within" = some (.ref (He.ga K "is_within"))
  g_is_name : mg "is_name" = some (.ref (He.ga K "is_name"))
  g_has_equal_items : mg "has_equal_items" = some (.ref (He.ga K "has_equal_items"))
  g_phase_of : mg "phase_of" = some (.ref (He.ga K "phase_of"))
  g_stay_fits : mg "stay_fits" = some (.ref (He.ga K "stay_fits"))
  g_bad_stay : mg "bad_stay" = some (.ref (He.ga K "bad_stay"))
  g_look_fits : mg "look_fits" = some (.ref (He.ga K "look_fits"))
  g_bad_look : mg "bad_look" = some (.ref (He.ga K "bad_look"))
  g_play : mg "play" = some (.ref (He.ga K "play"))
  g_observe : mg "observe" = some (.ref (He.ga K "observe"))
  g_settle : mg "settle" = some (.ref (He.ga K "settle"))
  g_places_fit : mg "places_fit" = some (.ref (He.ga K "places_fit"))
  g_nexts_fit : mg "nexts_fit" = some (.ref (He.ga K "nexts_fit"))
  g__law_cell : mg "_law_cell" = some (.ref (He.ga K "_law_cell"))
  g__law_take : mg "_law_take" = some (.ref (He.ga K "_law_take"))
  g__law_is_integer : mg "_law_is_integer" = some (.ref (He.ga K "_law_is_integer"))
  g__law_told : mg "_law_told" = some (.ref (He.ga K "_law_told"))
  g__law_called : mg "_law_called" = some (.ref (He.ga K "_law_called"))
  g__law_profile_fits : mg "_law_profile_fits" = some (.ref (He.ga K "_law_profile_fits"))
  g_law : mg "law" = some (.ref (He.ga K "law"))
  g_SeenError : mg "SeenError" = some (.ref (He.ga K "SeenError"))
  g_BadPlace : mg "BadPlace" = some (.ref (He.ga K "BadPlace"))
  g_BadProgram : mg "BadProgram" = some (.ref (He.ga K "BadProgram"))
  g_NoPlace : mg "NoPlace" = some (.ref (He.ga K "NoPlace"))
  g_BadSampler : mg "BadSampler" = some (.ref (He.ga K "BadSampler"))
  g_BadStay : mg "BadStay" = some (.ref (He.ga K "BadStay"))
  g_BadPhase : mg "BadPhase" = some (.ref (He.ga K "BadPhase"))
  g_BadLook : mg "BadLook" = some (.ref (He.ga K "BadLook"))
  g_NoTicks : mg "NoTicks" = some (.ref (He.ga K "NoTicks"))
  g_BadChoice : mg "BadChoice" = some (.ref (He.ga K "BadChoice"))
  g_Record : mg "Record" = some (.ref (He.ga K "Record"))
  g_Profile : mg "Profile" = some (.ref (He.ga K "Profile"))
  g_Place : mg "Place" = some (.ref (He.ga K "Place"))
  g_Program : mg "Program" = some (.ref (He.ga K "Program"))
  g_Sampler : mg "Sampler" = some (.ref (He.ga K "Sampler"))
  n_int : mg "int" = none
  n_bool : mg "bool" = none
  n_str : mg "str" = none
  n_list : mg "list" = none
  n_tuple : mg "tuple" = none
  n_dict : mg "dict" = none
  n_isinstance : mg "isinstance" = none
  n_len : mg "len" = none
  n_range : mg "range" = none
  n_enumerate : mg "enumerate" = none
  n_sum : mg "sum" = none
  n_min : mg "min" = none
  c_LETTERS : ∃ t, mg "LETTERS" = some (.str "abcdefghijklmnopqrstuvwxyz" t)
  g_KEPT_WORDS : mg "KEPT_WORDS" = some (.ref (He.ga K "KEPT_WORDS"))
  t_KEPT_WORDS : ∀ H : Hp, SqT K H (He.ga K "KEPT_WORDS") [V.str "any", V.str "closed", V.str "end", V.str "open", V.str "to"]
  c_MOST_RUN : ∃ t, mg "MOST_RUN" = some (.int 2000 t)
  c_MOST_TICKS : ∃ t, mg "MOST_TICKS" = some (.int 6 t)
  c_MOST_PLACES : ∃ t, mg "MOST_PLACES" = some (.int 6 t)
  c_MOST_PERIOD : ∃ t, mg "MOST_PERIOD" = some (.int 8 t)
  ox_BadPlace : OexC K (He.ga K "BadPlace")
  xi_BadPlace : PySem.W.findIn K (.ref (He.ga K "BadPlace")) "__init__" = some (some (.ref (He.ma K (He.ga K "BadPlace") "__init__")))
  xt_BadPlace : PySem.W.typeIn K (.ref (He.ma K (He.ga K "BadPlace") "__init__")) = some (.type "function")
  xn_BadPlace_why : PySem.W.findIn K (.ref (He.ga K "BadPlace")) "why" = some none
  ox_BadProgram : OexC K (He.ga K "BadProgram")
  xi_BadProgram : PySem.W.findIn K (.ref (He.ga K "BadProgram")) "__init__" = some (some (.ref (He.ma K (He.ga K "BadProgram") "__init__")))
  xt_BadProgram : PySem.W.typeIn K (.ref (He.ma K (He.ga K "BadProgram") "__init__")) = some (.type "function")
  xn_BadProgram_why : PySem.W.findIn K (.ref (He.ga K "BadProgram")) "why" = some none
  ox_NoPlace : OexC K (He.ga K "NoPlace")
  xi_NoPlace : PySem.W.findIn K (.ref (He.ga K "NoPlace")) "__init__" = some (some (.ref (He.ma K (He.ga K "NoPlace") "__init__")))
  xt_NoPlace : PySem.W.typeIn K (.ref (He.ma K (He.ga K "NoPlace") "__init__")) = some (.type "function")
  xn_NoPlace_name : PySem.W.findIn K (.ref (He.ga K "NoPlace")) "name" = some none
  ox_BadSampler : OexC K (He.ga K "BadSampler")
  xi_BadSampler : PySem.W.findIn K (.ref (He.ga K "BadSampler")) "__init__" = some (some (.ref (He.ma K (He.ga K "BadSampler") "__init__")))
  xt_BadSampler : PySem.W.typeIn K (.ref (He.ma K (He.ga K "BadSampler") "__init__")) = some (.type "function")
  xn_BadSampler_why : PySem.W.findIn K (.ref (He.ga K "BadSampler")) "why" = some none
  ox_BadStay : OexC K (He.ga K "BadStay")
  xi_BadStay : PySem.W.findIn K (.ref (He.ga K "BadStay")) "__init__" = some (some (.ref (He.ma K (He.ga K "BadStay") "__init__")))
  xt_BadStay : PySem.W.typeIn K (.ref (He.ma K (He.ga K "BadStay") "__init__")) = some (.type "function")
  xn_BadStay_index : PySem.W.findIn K (.ref (He.ga K "BadStay")) "index" = some none
  ox_BadPhase : OexC K (He.ga K "BadPhase")
  xi_BadPhase : PySem.W.findIn K (.ref (He.ga K "BadPhase")) "__init__" = some (some (.ref (He.ma K (He.ga K "BadPhase") "__init__")))
  xt_BadPhase : PySem.W.typeIn K (.ref (He.ma K (He.ga K "BadPhase") "__init__")) = some (.type "function")
  xn_BadPhase_phase : PySem.W.findIn K (.ref (He.ga K "BadPhase")) "phase" = some none
  ox_BadLook : OexC K (He.ga K "BadLook")
  xf_BadLook : XfC K (He.ga K "BadLook")
  xi_BadLook : PySem.W.findIn K (.ref (He.ga K "BadLook")) "__init__" = some (some (.ref (He.ma K (He.ga K "BadLook") "__init__")))
  xt_BadLook : PySem.W.typeIn K (.ref (He.ma K (He.ga K "BadLook") "__init__")) = some (.type "function")
  xn_BadLook_index : PySem.W.findIn K (.ref (He.ga K "BadLook")) "index" = some none
  xm_BadLook_BadLook : PySem.W.exmOne K (.ref (He.ga K "BadLook")) (.ref (He.ga K "BadLook")) = some true
  xm_BadLook_NoTicks : PySem.W.exmOne K (.ref (He.ga K "BadLook")) (.ref (He.ga K "NoTicks")) = some false
  xc_NoTicks : ExcC K (He.ga K "NoTicks")
  op_NoTicks : S.Ex0 K (He.ga K "NoTicks")
  xk_NoTicks_SeenError : PySem.W.kitOne K (.ref (He.ga K "NoTicks")) (.ref (He.ga K "SeenError")) = some true
  xk_NoTicks_BadLook : PySem.W.kitOne K (.ref (He.ga K "NoTicks")) (.ref (He.ga K "BadLook")) = some false
  xm_NoTicks_NoTicks : PySem.W.exmOne K (.ref (He.ga K "NoTicks")) (.ref (He.ga K "NoTicks")) = some true
  ox_BadChoice : OexC K (He.ga K "BadChoice")
  xf_BadChoice : XfC K (He.ga K "BadChoice")
  xi_BadChoice : PySem.W.findIn K (.ref (He.ga K "BadChoice")) "__init__" = some (some (.ref (He.ma K (He.ga K "BadChoice") "__init__")))
  xt_BadChoice : PySem.W.typeIn K (.ref (He.ma K (He.ga K "BadChoice") "__init__")) = some (.type "function")
  xn_BadChoice_index : PySem.W.findIn K (.ref (He.ga K "BadChoice")) "index" = some none
  xm_BadChoice_BadChoice : PySem.W.exmOne K (.ref (He.ga K "BadChoice")) (.ref (He.ga K "BadChoice")) = some true
  cl_Record : Cls K (He.ga K "Record")
  mk_Record : Mk K (He.ga K "Record") (He.ma K (He.ga K "Record") "__init__")
  na_Record_ticks : NoAttr K (He.ga K "Record") "ticks"
  na_Record_times : NoAttr K (He.ga K "Record") "times"
  na_Record_notes : NoAttr K (He.ga K "Record") "notes"
  na_Record_waiting : NoAttr K (He.ga K "Record") "waiting"
  na_Record_lost : NoAttr K (He.ga K "Record") "lost"
  me_Record_see : Meth K (He.ga K "Record") "see" (He.ma K (He.ga K "Record") "see")
  cl_Profile : Cls K (He.ga K "Profile")
  mk_Profile : Mk K (He.ga K "Profile") (He.ma K (He.ga K "Profile") "__init__")
  na_Profile_phase : NoAttr K (He.ga K "Profile") "phase"
  na_Profile_program : NoAttr K (He.ga K "Profile") "program"
  na_Profile_sampler : NoAttr K (He.ga K "Profile") "sampler"
  na_Profile_state : NoAttr K (He.ga K "Profile") "state"
  na_Profile_ticks : NoAttr K (He.ga K "Profile") "ticks"
  na_Profile_history : NoAttr K (He.ga K "Profile") "history"
  na_Profile_saved : NoAttr K (He.ga K "Profile") "saved"
  me_Profile_options : Meth K (He.ga K "Profile") "options" (He.ma K (He.ga K "Profile") "options")
  me_Profile_moves : Meth K (He.ga K "Profile") "moves" (He.ma K (He.ga K "Profile") "moves")
  me_Profile_choices : Meth K (He.ga K "Profile") "choices" (He.ma K (He.ga K "Profile") "choices")
  me_Profile_path : Meth K (He.ga K "Profile") "path" (He.ma K (He.ga K "Profile") "path")
  me_Profile_record : Meth K (He.ga K "Profile") "record" (He.ma K (He.ga K "Profile") "record")
  me_Profile___call__ : Meth K (He.ga K "Profile") "__call__" (He.ma K (He.ga K "Profile") "__call__")
  cl_Place : Cls K (He.ga K "Place")
  mk_Place : Mk K (He.ga K "Place") (He.ma K (He.ga K "Place") "__init__")
  na_Place_name : NoAttr K (He.ga K "Place") "name"
  na_Place_least : NoAttr K (He.ga K "Place") "least"
  na_Place_most : NoAttr K (He.ga K "Place") "most"
  na_Place_let : NoAttr K (He.ga K "Place") "let"
  is_Place : S.InsT K (He.ga K "Place")
  ko_Place_Place : PySem.W.kitOne K (.ref (He.ga K "Place")) (.ref (He.ga K "Place")) = some true
  cl_Program : Cls K (He.ga K "Program")
  mk_Program : Mk K (He.ga K "Program") (He.ma K (He.ga K "Program") "__init__")
  na_Program_places : NoAttr K (He.ga K "Program") "places"
  na_Program_names : NoAttr K (He.ga K "Program") "names"
  na_Program_start : NoAttr K (He.ga K "Program") "start"
  na_Program_links : NoAttr K (He.ga K "Program") "links"
  pr_Program_nexts : PropOf K (He.ga K "Program") "nexts" (He.ma K (He.ga K "Program") "nexts") (S.gA K ("Program", some "nexts"))
  me_Program___getitem__ : Meth K (He.ga K "Program") "__getitem__" (He.ma K (He.ga K "Program") "__getitem__")
  cl_Sampler : Cls K (He.ga K "Sampler")
  mk_Sampler : Mk K (He.ga K "Sampler") (He.ma K (He.ga K "Sampler") "__init__")
  na_Sampler_period : NoAttr K (He.ga K "Sampler") "period"
  na_Sampler_jitter : NoAttr K (He.ga K "Sampler") "jitter"
  na_Sampler_phase : NoAttr K (He.ga K "Sampler") "phase"
  fn_Program___getitem__ : PySem.W.fnIn K (He.ma K (He.ga K "Program") "__getitem__") = true
  fn_Profile___call__ : PySem.W.fnIn K (He.ma K (He.ga K "Profile") "__call__") = true
theorem txt_of {K : S.Frag} {h : Heap} {mg : Str → Option Value} (X : K.In h) (G : h.Ns mainGlobals mg) (c : S.SaysX cks fns gts K) : Txt K mg where
  F_is_integer := c.def_ 0
  F_is_within := c.def_ 1
  F_is_name := c.def_ 2
  F_has_equal_items := c.def_ 3
  F_BadPlace___init__ := c.def_ 4
  F_BadProgram___init__ := c.def_ 5
  F_BadSampler___init__ := c.def_ 6
  F_BadStay___init__ := c.def_ 7
  F_BadPhase___init__ := c.def_ 8
  F_BadLook___init__ := c.def_ 9
  F_BadChoice___init__ := c.def_ 10
  F_Record___init__ := c.def_ 11
  F_Record_see := c.def_ 12
  F_phase_of := c.def_ 13
  F_stay_fits := c.def_ 14
  F_bad_stay := c.def_ 15
  F_look_fits := c.def_ 16
  F_bad_look := c.def_ 17
  F_play := c.def_ 18
  F_observe := c.def_ 19
  F_settle := c.def_ 20
  F_Profile___init__ := c.def_ 21
  F_Profile_options := c.def_ 22
  F_Profile_moves := c.def_ 23
  F_Profile_choices := c.def_ 24
  F_Profile_path := c.def_ 25
  F_Profile_record := c.def_ 26
  F_Place___init__ := c.def_ 27
  F_places_fit := c.def_ 28
  F_nexts_fit := c.def_ 29
  F_Program___init__ := c.def_ 30
  F_Sampler___init__ := c.def_ 31
  F__law_cell := c.def_ 32
  F__law_take := c.def_ 33
  F__law_is_integer := c.def_ 34
  F__law_told := c.def_ 35
  F__law_called := c.def_ 36
  F__law_profile_fits := c.def_ 37
  F_law := c.def_ 38
  F_NoPlace___init__ := c.def_ 39
  F_Program___getitem__ := c.def_ 40
  F_Profile___call__ := c.def_ 41
  F_Program_nexts := c.get_ 0
  g_is_integer := He.glo_ok X G (c.fact 0)
  g_is_within := He.glo_ok X G (c.fact 1)
  g_is_name := He.glo_ok X G (c.fact 2)
  g_has_equal_items := He.glo_ok X G (c.fact 3)
  g_phase_of := He.glo_ok X G (c.fact 4)
  g_stay_fits := He.glo_ok X G (c.fact 5)
  g_bad_stay := He.glo_ok X G (c.fact 6)
  g_look_fits := He.glo_ok X G (c.fact 7)
  g_bad_look := He.glo_ok X G (c.fact 8)
  g_play := He.glo_ok X G (c.fact 9)
  g_observe := He.glo_ok X G (c.fact 10)
  g_settle := He.glo_ok X G (c.fact 11)
  g_places_fit := He.glo_ok X G (c.fact 12)
  g_nexts_fit := He.glo_ok X G (c.fact 13)
  g__law_cell := He.glo_ok X G (c.fact 14)
  g__law_take := He.glo_ok X G (c.fact 15)
  g__law_is_integer := He.glo_ok X G (c.fact 16)
  g__law_told := He.glo_ok X G (c.fact 17)
  g__law_called := He.glo_ok X G (c.fact 18)
  g__law_profile_fits := He.glo_ok X G (c.fact 19)
  g_law := He.glo_ok X G (c.fact 20)
  g_SeenError := He.glo_ok X G (c.fact 21)
  g_BadPlace := He.glo_ok X G (c.fact 22)
  g_BadProgram := He.glo_ok X G (c.fact 23)
  g_NoPlace := He.glo_ok X G (c.fact 24)
  g_BadSampler := He.glo_ok X G (c.fact 25)
  g_BadStay := He.glo_ok X G (c.fact 26)
  g_BadPhase := He.glo_ok X G (c.fact 27)
  g_BadLook := He.glo_ok X G (c.fact 28)
  g_NoTicks := He.glo_ok X G (c.fact 29)
  g_BadChoice := He.glo_ok X G (c.fact 30)
  g_Record := He.glo_ok X G (c.fact 31)
  g_Profile := He.glo_ok X G (c.fact 32)
  g_Place := He.glo_ok X G (c.fact 33)
  g_Program := He.glo_ok X G (c.fact 34)
  g_Sampler := He.glo_ok X G (c.fact 35)
  n_int := He.free_ok X G (c.fact 36)
  n_bool := He.free_ok X G (c.fact 37)
  n_str := He.free_ok X G (c.fact 38)
  n_list := He.free_ok X G (c.fact 39)
  n_tuple := He.free_ok X G (c.fact 40)
  n_dict := He.free_ok X G (c.fact 41)
  n_isinstance := He.free_ok X G (c.fact 42)
  n_len := He.free_ok X G (c.fact 43)
  n_range := He.free_ok X G (c.fact 44)
  n_enumerate := He.free_ok X G (c.fact 45)
  n_sum := He.free_ok X G (c.fact 46)
  n_min := He.free_ok X G (c.fact 47)
  c_LETTERS := He.str_ok X G (c.fact 48)
  g_KEPT_WORDS := He.glo_ok X G (c.fact 49)
  t_KEPT_WORDS := He.tupB_ok (c.fact 50)
  c_MOST_RUN := He.int_ok X G (c.fact 51)
  c_MOST_TICKS := He.int_ok X G (c.fact 52)
  c_MOST_PLACES := He.int_ok X G (c.fact 53)
  c_MOST_PERIOD := He.int_ok X G (c.fact 54)
  ox_BadPlace := S.oexB_ok (c.fact 55)
  xi_BadPlace := He.eqO_ok (c.fact 56)
  xt_BadPlace := of_decide_eq_true (c.fact 57)
  xn_BadPlace_why := He.eqO_ok (c.fact 58)
  ox_BadProgram := S.oexB_ok (c.fact 59)
  xi_BadProgram := He.eqO_ok (c.fact 60)
  xt_BadProgram := of_decide_eq_true (c.fact 61)
  xn_BadProgram_why := He.eqO_ok (c.fact 62)
  ox_NoPlace := S.oexB_ok (c.fact 63)
  xi_NoPlace := He.eqO_ok (c.fact 64)
  xt_NoPlace := of_decide_eq_true (c.fact 65)
  xn_NoPlace_name := He.eqO_ok (c.fact 66)
  ox_BadSampler := S.oexB_ok (c.fact 67)
  xi_BadSampler := He.eqO_ok (c.fact 68)
  xt_BadSampler := of_decide_eq_true (c.fact 69)
  xn_BadSampler_why := He.eqO_ok (c.fact 70)
  ox_BadStay := S.oexB_ok (c.fact 71)
  xi_BadStay := He.eqO_ok (c.fact 72)
  xt_BadStay := of_decide_eq_true (c.fact 73)
  xn_BadStay_index := He.eqO_ok (c.fact 74)
  ox_BadPhase := S.oexB_ok (c.fact 75)
  xi_BadPhase := He.eqO_ok (c.fact 76)
  xt_BadPhase := of_decide_eq_true (c.fact 77)
  xn_BadPhase_phase := He.eqO_ok (c.fact 78)
  ox_BadLook := S.oexB_ok (c.fact 79)
  xf_BadLook := xfB_ok (c.fact 80)
  xi_BadLook := He.eqO_ok (c.fact 81)
  xt_BadLook := of_decide_eq_true (c.fact 82)
  xn_BadLook_index := He.eqO_ok (c.fact 83)
  xm_BadLook_BadLook := He.exm_ok (c.fact 84)
  xm_BadLook_NoTicks := He.exm_ok (c.fact 85)
  xc_NoTicks := S.excB_ok (c.fact 86)
  op_NoTicks := S.ex0B_ok (c.fact 87)
  xk_NoTicks_SeenError := of_decide_eq_true (c.fact 88)
  xk_NoTicks_BadLook := of_decide_eq_true (c.fact 89)
  xm_NoTicks_NoTicks := He.exm_ok (c.fact 90)
  ox_BadChoice := S.oexB_ok (c.fact 91)
  xf_BadChoice := xfB_ok (c.fact 92)
  xi_BadChoice := He.eqO_ok (c.fact 93)
  xt_BadChoice := of_decide_eq_true (c.fact 94)
  xn_BadChoice_index := He.eqO_ok (c.fact 95)
  xm_BadChoice_BadChoice := He.exm_ok (c.fact 96)
  cl_Record := He.cls_ok (c.fact 97)
  mk_Record := He.mkr_ok (c.fact 98)
  na_Record_ticks := He.noat_ok (c.fact 99)
  na_Record_times := He.noat_ok (c.fact 100)
  na_Record_notes := He.noat_ok (c.fact 101)
  na_Record_waiting := He.noat_ok (c.fact 102)
  na_Record_lost := He.noat_ok (c.fact 103)
  me_Record_see := He.meth_ok (c.fact 104)
  cl_Profile := He.cls_ok (c.fact 105)
  mk_Profile := He.mkr_ok (c.fact 106)
  na_Profile_phase := He.noat_ok (c.fact 107)
  na_Profile_program := He.noat_ok (c.fact 108)
  na_Profile_sampler := He.noat_ok (c.fact 109)
  na_Profile_state := He.noat_ok (c.fact 110)
  na_Profile_ticks := He.noat_ok (c.fact 111)
  na_Profile_history := He.noat_ok (c.fact 112)
  na_Profile_saved := He.noat_ok (c.fact 113)
  me_Profile_options := He.meth_ok (c.fact 114)
  me_Profile_moves := He.meth_ok (c.fact 115)
  me_Profile_choices := He.meth_ok (c.fact 116)
  me_Profile_path := He.meth_ok (c.fact 117)
  me_Profile_record := He.meth_ok (c.fact 118)
  me_Profile___call__ := He.meth_ok (c.fact 119)
  cl_Place := He.cls_ok (c.fact 120)
  mk_Place := He.mkr_ok (c.fact 121)
  na_Place_name := He.noat_ok (c.fact 122)
  na_Place_least := He.noat_ok (c.fact 123)
  na_Place_most := He.noat_ok (c.fact 124)
  na_Place_let := He.noat_ok (c.fact 125)
  is_Place := S.insB_ok (c.fact 126)
  ko_Place_Place := of_decide_eq_true (c.fact 127)
  cl_Program := He.cls_ok (c.fact 128)
  mk_Program := He.mkr_ok (c.fact 129)
  na_Program_places := He.noat_ok (c.fact 130)
  na_Program_names := He.noat_ok (c.fact 131)
  na_Program_start := He.noat_ok (c.fact 132)
  na_Program_links := He.noat_ok (c.fact 133)
  pr_Program_nexts := S.proB_ok (c.fact 134)
  me_Program___getitem__ := He.meth_ok (c.fact 135)
  cl_Sampler := He.cls_ok (c.fact 136)
  mk_Sampler := He.mkr_ok (c.fact 137)
  na_Sampler_period := He.noat_ok (c.fact 138)
  na_Sampler_jitter := He.noat_ok (c.fact 139)
  na_Sampler_phase := He.noat_ok (c.fact 140)
  fn_Program___getitem__ := (c.fact 141)
  fn_Profile___call__ := (c.fact 142)
theorem kb_is_integer_1 {K : S.Frag} {mg : Str → Option Value} (T : Txt K mg) : KBn K (S.fdA K ("is_integer", none)) ["value"] 1 [] (fun us _ => us ++ []) (fun vs _ => vs ++ []) :=
  S.kb_of_binds (T.F_is_integer.bindsN fun _ _ _ _ _ _ us hl => match us, hl with | [_], _ => rfl) .nil rfl
theorem kb_is_within_3 {K : S.Frag} {mg : Str → Option Value} (T : Txt K mg) : KBn K (S.fdA K ("is_within", none)) ["value", "low", "high"] 3 [] (fun us _ => us ++ []) (fun vs _ => vs ++ []) :=
  S.kb_of_binds (T.F_is_within.bindsN fun _ _ _ _ _ _ us hl => match us, hl with | [_, _, _], _ => rfl) .nil rfl
theorem kb_BadPhase___init___2 {K : S.Frag} {mg : Str → Option Value} (T : Txt K mg) : KBn K (S.fdA K ("BadPhase", some "__init__")) ["self", "phase"] 2 [] (fun us _ => us ++ []) (fun vs _ => vs ++ []) :=
  S.kb_of_binds (T.F_BadPhase___init__.bindsN fun _ _ _ _ _ _ us hl => match us, hl with | [_, _], _ => rfl) .nil rfl
theorem kb_Program___getitem___2 {K : S.Frag} {mg : Str → Option Value} (T : Txt K mg) : KBn K (S.fdA K ("Program", some "__getitem__")) ["self", "at"] 2 [] (fun us _ => us ++ []) (fun vs _ => vs ++ []) :=
  S.kb_of_binds (T.F_Program___getitem__.bindsN fun _ _ _ _ _ _ us hl => match us, hl with | [_, _], _ => rfl) .nil rfl
theorem kb_stay_fits_4 {K : S.Frag} {mg : Str → Option Value} (T : Txt K mg) : KBn K (S.fdA K ("stay_fits", none)) ["program", "stay", "allowed", "is_last"] 4 [] (fun us _ => us ++ []) (fun vs _ => vs ++ []) :=
  S.kb_of_binds (T.F_stay_fits.bindsN fun _ _ _ _ _ _ us hl => match us, hl with | [_, _, _, _], _ => rfl) .nil rfl
theorem kb_look_fits_4 {K : S.Frag} {mg : Str → Option Value} (T : Txt K mg) : KBn K (S.fdA K ("look_fits", none)) ["look", "low", "high", "jitter"] 4 [] (fun us _ => us ++ []) (fun vs _ => vs ++ []) :=
  S.kb_of_binds (T.F_look_fits.bindsN fun _ _ _ _ _ _ us hl => match us, hl with | [_, _, _, _], _ => rfl) .nil rfl
theorem kb_Record___init___2 {K : S.Frag} {mg : Str → Option Value} (T : Txt K mg) : KBn K (S.fdA K ("Record", some "__init__")) ["self", "names"] 2 [] (fun us _ => us ++ []) (fun vs _ => vs ++ []) :=
  S.kb_of_binds (T.F_Record___init__.bindsN fun _ _ _ _ _ _ us hl => match us, hl with | [_, _], _ => rfl) .nil rfl
theorem kb_Record_see_4 {K : S.Frag} {mg : Str → Option Value} (T : Txt K mg) : KBn K (S.fdA K ("Record", some "see")) ["self", "name", "let", "due"] 4 [] (fun us _ => us ++ []) (fun vs _ => vs ++ []) :=
  S.kb_of_binds (T.F_Record_see.bindsN fun _ _ _ _ _ _ us hl => match us, hl with | [_, _, _, _], _ => rfl) .nil rfl
theorem kb_BadStay___init___2 {K : S.Frag} {mg : Str → Option Value} (T : Txt K mg) : KBn K (S.fdA K ("BadStay", some "__init__")) ["self", "index"] 2 [] (fun us _ => us ++ []) (fun vs _ => vs ++ []) :=
  S.kb_of_binds (T.F_BadStay___init__.bindsN fun _ _ _ _ _ _ us hl => match us, hl with | [_, _], _ => rfl) .nil rfl
theorem kb_bad_stay_2 {K : S.Frag} {mg : Str → Option Value} (T : Txt K mg) : KBn K (S.fdA K ("bad_stay", none)) ["program", "stays"] 2 [] (fun us _ => us ++ []) (fun vs _ => vs ++ []) :=
  S.kb_of_binds (T.F_bad_stay.bindsN fun _ _ _ _ _ _ us hl => match us, hl with | [_, _], _ => rfl) .nil rfl
theorem kb_phase_of_2 {K : S.Frag} {mg : Str → Option Value} (T : Txt K mg) : KBn K (S.fdA K ("phase_of", none)) ["sampler", "phase"] 2 [] (fun us _ => us ++ []) (fun vs _ => vs ++ []) :=
  S.kb_of_binds (T.F_phase_of.bindsN fun _ _ _ _ _ _ us hl => match us, hl with | [_, _], _ => rfl) .nil rfl
theorem kb_bad_look_4 {K : S.Frag} {mg : Str → Option Value} (T : Txt K mg) : KBn K (S.fdA K ("bad_look", none)) ["sampler", "phase", "ticks", "looks"] 4 [] (fun us _ => us ++ []) (fun vs _ => vs ++ []) :=
  S.kb_of_binds (T.F_bad_look.bindsN fun _ _ _ _ _ _ us hl => match us, hl with | [_, _, _, _], _ => rfl) .nil rfl
theorem kb_BadLook___init___2 {K : S.Frag} {mg : Str → Option Value} (T : Txt K mg) : KBn K (S.fdA K ("BadLook", some "__init__")) ["self", "index"] 2 [] (fun us _ => us ++ []) (fun vs _ => vs ++ []) :=
  S.kb_of_binds (T.F_BadLook___init__.bindsN fun _ _ _ _ _ _ us hl => match us, hl with | [_, _], _ => rfl) .nil rfl
theorem kb_play_5 {K : S.Frag} {mg : Str → Option Value} (T : Txt K mg) : KBn K (S.fdA K ("play", none)) ["program", "sampler", "phase", "stays", "looks"] 5 [] (fun us _ => us ++ []) (fun vs _ => vs ++ []) :=
  S.kb_of_binds (T.F_play.bindsN fun _ _ _ _ _ _ us hl => match us, hl with | [_, _, _, _, _], _ => rfl) .nil rfl
theorem kb_Profile_options_1 {K : S.Frag} {mg : Str → Option Value} (T : Txt K mg) : KBn K (S.fdA K ("Profile", some "options")) ["self"] 1 [] (fun us _ => us ++ []) (fun vs _ => vs ++ []) :=
  S.kb_of_binds (T.F_Profile_options.bindsN fun _ _ _ _ _ _ us hl => match us, hl with | [_], _ => rfl) .nil rfl
theorem kb_settle_6 {K : S.Frag} {mg : Str → Option Value} (T : Txt K mg) : KBn K (S.fdA K ("settle", none)) ["place", "sampler", "spent", "slot", "before", "waited"] 6 [] (fun us _ => us ++ []) (fun vs _ => vs ++ []) :=
  S.kb_of_binds (T.F_settle.bindsN fun _ _ _ _ _ _ us hl => match us, hl with | [_, _, _, _, _, _], _ => rfl) .nil rfl
theorem kb_Profile_moves_1 {K : S.Frag} {mg : Str → Option Value} (T : Txt K mg) : KBn K (S.fdA K ("Profile", some "moves")) ["self"] 1 [] (fun us _ => us ++ []) (fun vs _ => vs ++ []) :=
  S.kb_of_binds (T.F_Profile_moves.bindsN fun _ _ _ _ _ _ us hl => match us, hl with | [_], _ => rfl) .nil rfl
theorem kb_is_name_1 {K : S.Frag} {mg : Str → Option Value} (T : Txt K mg) : KBn K (S.fdA K ("is_name", none)) ["value"] 1 [] (fun us _ => us ++ []) (fun vs _ => vs ++ []) :=
  S.kb_of_binds (T.F_is_name.bindsN fun _ _ _ _ _ _ us hl => match us, hl with | [_], _ => rfl) .nil rfl
theorem kb_BadPlace___init___2 {K : S.Frag} {mg : Str → Option Value} (T : Txt K mg) : KBn K (S.fdA K ("BadPlace", some "__init__")) ["self", "why"] 2 [] (fun us _ => us ++ []) (fun vs _ => vs ++ []) :=
  S.kb_of_binds (T.F_BadPlace___init__.bindsN fun _ _ _ _ _ _ us hl => match us, hl with | [_, _], _ => rfl) .nil rfl
theorem kb_has_equal_items_1 {K : S.Frag} {mg : Str → Option Value} (T : Txt K mg) : KBn K (S.fdA K ("has_equal_items", none)) ["items"] 1 [] (fun us _ => us ++ []) (fun vs _ => vs ++ []) :=
  S.kb_of_binds (T.F_has_equal_items.bindsN fun _ _ _ _ _ _ us hl => match us, hl with | [_], _ => rfl) .nil rfl
theorem kb_places_fit_1 {K : S.Frag} {mg : Str → Option Value} (T : Txt K mg) : KBn K (S.fdA K ("places_fit", none)) ["places"] 1 [] (fun us _ => us ++ []) (fun vs _ => vs ++ []) :=
  S.kb_of_binds (T.F_places_fit.bindsN fun _ _ _ _ _ _ us hl => match us, hl with | [_], _ => rfl) .nil rfl
theorem kb_BadProgram___init___2 {K : S.Frag} {mg : Str → Option Value} (T : Txt K mg) : KBn K (S.fdA K ("BadProgram", some "__init__")) ["self", "why"] 2 [] (fun us _ => us ++ []) (fun vs _ => vs ++ []) :=
  S.kb_of_binds (T.F_BadProgram___init__.bindsN fun _ _ _ _ _ _ us hl => match us, hl with | [_, _], _ => rfl) .nil rfl
theorem kb_nexts_fit_2 {K : S.Frag} {mg : Str → Option Value} (T : Txt K mg) : KBn K (S.fdA K ("nexts_fit", none)) ["names", "nexts"] 2 [] (fun us _ => us ++ []) (fun vs _ => vs ++ []) :=
  S.kb_of_binds (T.F_nexts_fit.bindsN fun _ _ _ _ _ _ us hl => match us, hl with | [_, _], _ => rfl) .nil rfl
theorem kb_BadSampler___init___2 {K : S.Frag} {mg : Str → Option Value} (T : Txt K mg) : KBn K (S.fdA K ("BadSampler", some "__init__")) ["self", "why"] 2 [] (fun us _ => us ++ []) (fun vs _ => vs ++ []) :=
  S.kb_of_binds (T.F_BadSampler___init__.bindsN fun _ _ _ _ _ _ us hl => match us, hl with | [_, _], _ => rfl) .nil rfl
theorem kb_observe_4 {K : S.Frag} {mg : Str → Option Value} (T : Txt K mg) : ∃ g, KBn K (S.fdA K ("observe", none)) ["program", "sampler", "stays", "looks", "phase"] 4 [] g (fun vs zs => vs ++ ((([V.non] : List V).drop 0).take 1)) := by
  obtain ⟨_, h⟩ := S.kbinds0 (ps := ["program", "sampler", "stays", "looks", "phase"]) T.F_observe 4 [] [("phase", V.non)] (fun us mv ws => us ++ ((mv.drop 0).take 1)) (List.cons_ne_nil _ _) (by simp [He.DefD.kws, He.Dv.v]) (fun a c d => (a.append ((c.drop 0).take 1)))
    (fun _ _ _ _ _ _ us mv ws l1 l3 l4 => match us, mv, ws, l1, l3, l4 with | [_, _, _, _], [_], [], _, _, _ => ⟨_, _, _, _, _, _, rfl, rfl, rfl⟩)
  exact ⟨_, h⟩
theorem kb_Profile___call___2 {K : S.Frag} {mg : Str → Option Value} (T : Txt K mg) : KBn K (S.fdA K ("Profile", some "__call__")) ["self", "choice"] 2 [] (fun us _ => us ++ []) (fun vs _ => vs ++ []) :=
  S.kb_of_binds (T.F_Profile___call__.bindsN fun _ _ _ _ _ _ us hl => match us, hl with | [_, _], _ => rfl) .nil rfl
theorem kb_Profile___init___3 {K : S.Frag} {mg : Str → Option Value} (T : Txt K mg) : ∃ g, KBn K (S.fdA K ("Profile", some "__init__")) ["self", "program", "sampler", "phase"] 3 [] g (fun vs zs => vs ++ ((([V.non] : List V).drop 0).take 1)) := by
  obtain ⟨_, h⟩ := S.kbinds0 (ps := ["self", "program", "sampler", "phase"]) T.F_Profile___init__ 3 [] [("phase", V.non)] (fun us mv ws => us ++ ((mv.drop 0).take 1)) (List.cons_ne_nil _ _) (by simp [He.DefD.kws, He.Dv.v]) (fun a c d => (a.append ((c.drop 0).take 1)))
    (fun _ _ _ _ _ _ us mv ws l1 l3 l4 => match us, mv, ws, l1, l3, l4 with | [_, _, _], [_], [], _, _, _ => ⟨_, _, _, _, _, _, rfl, rfl, rfl⟩)
  exact ⟨_, h⟩
theorem kb_Sampler___init___2 {K : S.Frag} {mg : Str → Option Value} (T : Txt K mg) : ∃ g, KBn K (S.fdA K ("Sampler", some "__init__")) ["self", "period", "jitter", "phase"] 2 [] g (fun vs zs => vs ++ (([V.int 0] : List V).drop 0) ++ ((([V.int 0] : List V).drop 0).take 1)) := by
  obtain ⟨_, _, h⟩ := T.F_Sampler___init__.kbinds (ps := ["self", "period", "jitter", "phase"]) 2 [] [("phase", V.int 0)] (fun us its mv ws => us ++ (its.drop 0) ++ ((mv.drop 0).take 1)) (List.cons_ne_nil _ _) (List.cons_ne_nil _ _) (by simp [He.DefD.kws, He.Dv.v]) (fun a b c d => ((a.append (b.drop 0)).append ((c.drop 0).take 1)))
    (fun _ _ _ _ _ _ _ us its mv ws l1 l2 l3 l4 => match us, its, mv, ws, l1, l2, l3, l4 with | [_, _], [_], [_], [], _, _, _, _ => ⟨_, rfl, ⟨_, _, _, _, _, _, rfl, rfl, rfl⟩⟩)
  exact ⟨_, h⟩
theorem kb__law_called_2 {K : S.Frag} {mg : Str → Option Value} (T : Txt K mg) : KBn K (S.fdA K ("_law_called", none)) ["_law_live", "_law_choice"] 2 [] (fun us _ => us ++ []) (fun vs _ => vs ++ []) :=
  S.kb_of_binds (T.F__law_called.bindsN fun _ _ _ _ _ _ us hl => match us, hl with | [_, _], _ => rfl) .nil rfl
theorem kb_Profile_choices_1 {K : S.Frag} {mg : Str → Option Value} (T : Txt K mg) : KBn K (S.fdA K ("Profile", some "choices")) ["self"] 1 [] (fun us _ => us ++ []) (fun vs _ => vs ++ []) :=
  S.kb_of_binds (T.F_Profile_choices.bindsN fun _ _ _ _ _ _ us hl => match us, hl with | [_], _ => rfl) .nil rfl
theorem kb_Profile_record_1 {K : S.Frag} {mg : Str → Option Value} (T : Txt K mg) : KBn K (S.fdA K ("Profile", some "record")) ["self"] 1 [] (fun us _ => us ++ []) (fun vs _ => vs ++ []) :=
  S.kb_of_binds (T.F_Profile_record.bindsN fun _ _ _ _ _ _ us hl => match us, hl with | [_], _ => rfl) .nil rfl
theorem kb_Profile_path_1 {K : S.Frag} {mg : Str → Option Value} (T : Txt K mg) : KBn K (S.fdA K ("Profile", some "path")) ["self"] 1 [] (fun us _ => us ++ []) (fun vs _ => vs ++ []) :=
  S.kb_of_binds (T.F_Profile_path.bindsN fun _ _ _ _ _ _ us hl => match us, hl with | [_], _ => rfl) .nil rfl
theorem kb__law_cell_2 {K : S.Frag} {mg : Str → Option Value} (T : Txt K mg) : KBn K (S.fdA K ("_law_cell", none)) ["_law_script", "_law_k"] 2 [] (fun us _ => us ++ []) (fun vs _ => vs ++ []) :=
  S.kb_of_binds (T.F__law_cell.bindsN fun _ _ _ _ _ _ us hl => match us, hl with | [_, _], _ => rfl) .nil rfl
theorem kb__law_take_2 {K : S.Frag} {mg : Str → Option Value} (T : Txt K mg) : KBn K (S.fdA K ("_law_take", none)) ["_law_draw", "_law_size"] 2 [] (fun us _ => us ++ []) (fun vs _ => vs ++ []) :=
  S.kb_of_binds (T.F__law_take.bindsN fun _ _ _ _ _ _ us hl => match us, hl with | [_, _], _ => rfl) .nil rfl
theorem kb_Place___init___4_let {K : S.Frag} {mg : Str → Option Value} (T : Txt K mg) : ∃ g, KBn K (S.fdA K ("Place", some "__init__")) ["self", "name", "least", "most", "let"] 4 ["let"] g (fun vs zs => vs ++ ((zs.drop 0).take 1)) := by
  obtain ⟨_, _, h⟩ := T.F_Place___init__.kbinds (ps := ["self", "name", "least", "most", "let"]) 4 ["let"] [] (fun us its mv ws => us ++ ((ws.drop 0).take 1)) (List.cons_ne_nil _ _) (List.cons_ne_nil _ _) (by simp [He.DefD.kws, He.Dv.v]) (fun a b c d => (a.append ((d.drop 0).take 1)))
    (fun _ _ _ _ _ _ _ us its mv ws l1 l2 l3 l4 => match us, its, mv, ws, l1, l2, l3, l4 with | [_, _, _, _], [_, _], [], [_], _, _, _, _ => ⟨_, rfl, rfl⟩)
  exact ⟨_, h⟩
theorem kb_Program___init___3_start {K : S.Frag} {mg : Str → Option Value} (T : Txt K mg) : ∃ g, KBn K (S.fdA K ("Program", some "__init__")) ["self", "places", "nexts", "start"] 3 ["start"] g (fun vs zs => vs ++ ((zs.drop 0).take 1)) := by
  obtain ⟨_, h⟩ := S.kbinds0 (ps := ["self", "places", "nexts", "start"]) T.F_Program___init__ 3 ["start"] [] (fun us mv ws => us ++ ((ws.drop 0).take 1)) (List.cons_ne_nil _ _) (by simp [He.DefD.kws, He.Dv.v]) (fun a c d => (a.append ((d.drop 0).take 1)))
    (fun _ _ _ _ _ _ us mv ws l1 l3 l4 => match us, mv, ws, l1, l3, l4 with | [_, _, _], [], [_], _, _, _ => rfl)
  exact ⟨_, h⟩
theorem kb__law_told_4 {K : S.Frag} {mg : Str → Option Value} (T : Txt K mg) : KBn K (S.fdA K ("_law_told", none)) ["_law_program", "_law_sampler", "_law_stays", "_law_looks"] 4 [] (fun us _ => us ++ []) (fun vs _ => vs ++ []) :=
  S.kb_of_binds (T.F__law_told.bindsN fun _ _ _ _ _ _ us hl => match us, hl with | [_, _, _, _], _ => rfl) .nil rfl
theorem kb__law_profile_fits_5 {K : S.Frag} {mg : Str → Option Value} (T : Txt K mg) : KBn K (S.fdA K ("_law_profile_fits", none)) ["_law_program", "_law_size", "_law_spec", "_law_many", "_law_opened"] 5 [] (fun us _ => us ++ []) (fun vs _ => vs ++ []) :=
  S.kb_of_binds (T.F__law_profile_fits.bindsN fun _ _ _ _ _ _ us hl => match us, hl with | [_, _, _, _, _], _ => rfl) .nil rfl
theorem kb__law_is_integer_1 {K : S.Frag} {mg : Str → Option Value} (T : Txt K mg) : KBn K (S.fdA K ("_law_is_integer", none)) ["_law_value"] 1 [] (fun us _ => us ++ []) (fun vs _ => vs ++ []) :=
  S.kb_of_binds (T.F__law_is_integer.bindsN fun _ _ _ _ _ _ us hl => match us, hl with | [_], _ => rfl) .nil rfl
theorem kb_NoPlace___init___2 {K : S.Frag} {mg : Str → Option Value} (T : Txt K mg) : KBn K (S.fdA K ("NoPlace", some "__init__")) ["self", "name"] 2 [] (fun us _ => us ++ []) (fun vs _ => vs ++ []) :=
  S.kb_of_binds (T.F_NoPlace___init__.bindsN fun _ _ _ _ _ _ us hl => match us, hl with | [_, _], _ => rfl) .nil rfl
theorem kb_BadChoice___init___2 {K : S.Frag} {mg : Str → Option Value} (T : Txt K mg) : KBn K (S.fdA K ("BadChoice", some "__init__")) ["self", "index"] 2 [] (fun us _ => us ++ []) (fun vs _ => vs ++ []) :=
  S.kb_of_binds (T.F_BadChoice___init__.bindsN fun _ _ _ _ _ _ us hl => match us, hl with | [_, _], _ => rfl) .nil rfl
end W

namespace W
open PySem PySem.W PySem.Calls PyProof.Rows
/-! the head: its run in four looks; the facts over all that the top made -/
abbrev R : PySem.W.OpenRow := PySem.W.OpenLaw.row PySem.Challenge.rw_seenshares_k16_long_runs
def obR (g : Addr → Option Obj) : He.AlD := S.obsX cks fns gts (He.frG g (List.range 2500))
def hk : PySem.W.Hook where
  α := He.AlD
  obs := fun s => obR s.heap.get?
  val := fun _ => S.valX fns gts
  says := fun _ h => ∃ K : S.Frag, K.In h ∧ S.SaysX cks fns gts K
  of := fun _ _ e => ⟨_, He.frG_in, e⟩
  keeps := fun _ _ _ ⟨K, hK, c⟩ k => ⟨K, PySem.W.Frag.In.keeps hK k, c⟩
def ob (s : PySem.W.SharedT) : He.AlD := obR (HandSHeadRun.getT s)
theorem ob_eq (s : PySem.W.SharedT) : ob s = hk.obs s.abs := by
  have e : HandSHeadRun.getT s = s.abs.heap.get? := funext (HandSHeadRun.getT_eq s)
  unfold ob
  rw [e]
  rfl
def lo0 : List PySem.Str := ["_wall", "LETTERS", "KEPT_WORDS", "is_integer", "is_within", "is_name", "has_equal_items", "SeenError", "BadPlace", "BadProgram", "NoPlace", "BadSampler", "BadStay", "BadPhase", "BadLook", "NoTicks", "BadChoice", "MOST_RUN", "Record", "phase_of", "stay_fits", "bad_stay", "look_fits", "bad_look", "play", "observe", "settle", "Saved", "Profile", "MOST_TICKS"]
def lo1 : List PySem.Str := ["MOST_PLACES", "Place", "places_fit", "nexts_fit", "Program", "MOST_PERIOD", "Sampler", "_law_cell", "_law_take", "_law_is_integer", "_law_told", "_law_called", "_law_profile_fits"]
def lo : List PySem.Str := lo0 ++ lo1
noncomputable abbrev endS (w : World) (os : OsState) : Option PySem.W.SharedT := HandSHeadRun.endF (HandSHeadRun.stepQ (HandSHeadRun.denQ HandSHeadRun.tabQ) R.prog w) 9000 R.prog w os
theorem map4 {α β γ δ ε : Type} {x : Option α} {f : α → β} {g : α → γ} {h : α → δ × ε} {a : β} {b : γ} {c : δ × ε} (e1 : x.map f = some a) (e2 : x.map g = some b) (e3 : x.map (fun s => (h s).1) = some c.1) (e4 : x.map (fun s => (h s).2) = some c.2) : x.map (fun s => (f s, g s, h s)) = some (a, b, c) := by
  cases x with
  | none => cases e1
  | some s =>
    injection e1 with e1
    injection e2 with e2
    injection e3 with e3
    injection e4 with e4
    show some (f s, g s, h s) = _
    rw [e1, e2, show h s = c from Prod.ext e3 e4]
set_option maxHeartbeats 0 in
theorem run1 (w : World) (os : OsState) : (endS w os).map (fun s => HandSHeadRun.looksF R.prog (boot_heap w.params) s.abs) = some true := by
  kernel_rfl
set_option maxHeartbeats 0 in
theorem run2 (w : World) (os : OsState) : (endS w os).map (fun s => HandSHeadRun.seenQ (PySem.W.view R.prog [51]) lo (importedModules R.prog.main.body) (fun s => xlAt (PySem.W.view R.prog [51]) [] s && recOk R.toRowW.records s) s.abs) = some (openGood (PySem.W.view R.prog [51]) lo) := by
  kernel_rfl
set_option maxHeartbeats 0 in
theorem run3 (w : World) (os : OsState) : (endS w os).map (fun s => (ob s).1) = some true := by
  kernel_rfl
set_option maxHeartbeats 0 in
theorem run4 (w : World) (os : OsState) : (endS w os).map (fun s => (ob s).2) = some (S.valX fns gts).2 := by
  kernel_rfl
theorem run (w : World) : HandSHeadRun.RunEq R (PySem.W.view R.prog [51]) hk ob 9000 lo w := fun os => map4 (run1 w os) (run2 w os) (run3 w os) (run4 w os)
end W

namespace W
open PySem PySem.Spec PyProof.Rows L2
section
variable {P : Program} {w : World} {K : S.Frag} {mg : Str → Option Value} {base : Heap}
open S
theorem isi_true {H : Hp} {i : Int} : TyX K H (.int i) (.type "int") := .base (.int i)
def sp_isint (K : S.Frag) : Sp := Sp1 fun x H Q _ => ∃ b, IsI K H x b ∧ Q (.bl b) H
theorem ok_is_integer (T : Txt K mg) : FnOk P w K mg base (L2.CX P w) 1 (He.fAd K ("is_integer", none)) (S.fdA K ("is_integer", none)) ["value"] (sp_isint K) := by
  refine FunD.ok T.F_is_integer sc_is_integer (fun vs H Q E h => S.splen1 h) (fun cdv A outer s H vs Q E hr h => ?_)
  have hu := hu_of hr
  refine ⟨_, (pss_one (ps_ret (pe_and (pe_callB (S.isiK (K := K) rfl) rfl T.n_isinstance S.boot_isinstance (pa_cons (pv 0) (pa_cons (pe_bltn (v := .ty "int") rfl T.n_int S.boot_int rfl) pa_nil))) (pe_one (pe_not (pe_callB (S.isiK (K := K) rfl) rfl T.n_isinstance S.boot_isinstance (pa_cons (pv 0) (pa_cons (pe_bltn (v := .ty "bool") rfl T.n_bool S.boot_bool rfl) pa_nil)))))))), ?_⟩
  obtain ⟨x, rfl, b, hb, q⟩ := h
  cases hb with
  | int i => exact ⟨_, rfl, _, _, _, _, true, rfl, .ty _, isi_true, kit_ty (by decide +kernel), _, rfl, _, rfl, _, _, _, _, false, rfl, .ty _, isi_true, kit_ty (by decide +kernel), _, rfl, q⟩
  | bl b => exact ⟨_, rfl, _, _, _, _, true, rfl, .ty _, .base (.bl b), kit_ty (by decide +kernel), _, rfl, _, rfl, _, _, _, _, true, rfl, .ty _, .base (.bl b), kit_ty (by decide +kernel), _, rfl, q⟩
  | oth h e => exact ⟨_, rfl, _, _, _, _, false, rfl, .ty _, h, e, _, rfl, q⟩
/-- x is an integer from a to c, or not, as b says -/
def Win (K : S.Frag) (H : Hp) (x : V) (a c : Int) (b : Bool) : Prop := (∃ i, x = .int i ∧ b = (decide (a ≤ i) && decide (i ≤ c))) ∨ (IsI K H x false ∧ b = false)
def sp_within (K : S.Frag) : Sp := Sp3 fun x lo hi H Q _ => ∃ a c b, lo = .int a ∧ hi = .int c ∧ Win K H x a c b ∧ Q (.bl b) H
theorem ok_is_within (T : Txt K mg) : FnOk P w K mg base (L2.CX P w) 2 (He.fAd K ("is_within", none)) (S.fdA K ("is_within", none)) ["value", "low", "high"] (sp_within K) := by
  have G_is_integer := ok_is_integer (P := P) (w := w) (base := base) T
  refine FunD.ok T.F_is_within sc_is_within (fun vs H Q E h => S.splen3 h) (fun cdv A outer s H vs Q E hr h => ?_)
  have hu := hu_of hr
  refine ⟨_, (pss_one (ps_ret (pe_and (S.pe_fnS G_is_integer (hr.mono (by decide)) rfl T.g_is_integer T.F_is_integer.kp (kb_is_integer_1 T) S.pas0 (pa_cons (pv 0) pa_nil) pk_nil rfl rfl) (pe_one (pe_chain op_le op_le (pv 1) (pv 0) (pv 2)))))), ?_⟩
  obtain ⟨x, _, _, rfl, a, c, b, rfl, rfl, h, q⟩ := h
  rcases h with ⟨i, rfl, rfl⟩ | ⟨hb, rfl⟩
  · refine ⟨_, rfl, rfl, rfl, _, rfl, true, .int i, _, rfl, _, rfl, _, rfl, _, _, rfl, rfl, _, rfl, ?_⟩
    by_cases e : a ≤ i
    · rw [if_pos (decide_eq_true e)]
      refine ⟨_, rfl, _, _, rfl, rfl, ?_⟩
      simpa [e] using q
    · rw [if_neg (by simpa using e)]
      simpa [e] using q
  · exact ⟨_, rfl, rfl, rfl, _, rfl, false, hb, _, rfl, q⟩
end
end W

namespace W
open PySem PySem.Spec PyProof.Rows L2
section
variable {P : Program} {w : World} {K : S.Frag} {mg : Str → Option Value} {base : Heap}
open S
/-- the values that the law hands about -/
inductive Od (H : Hp) : V → Prop where
  | int (i : Int) : Od H (.int i)
  | non : Od H .non
  | bl (b : Bool) : Od H (.bl b)
  | str (z : Str) : Od H (.str z)
  | tup {a : Addr} {xs : List V} (h : H a = some (.tup xs)) : Od H (.ref a)
  | lst {a : Addr} {xs : List V} (h : H a = some (.lst xs)) : Od H (.ref a)
  | dK {a : Addr} {xs : List (Key × V)} (h : H a = some (.dK xs)) : Od H (.ref a)
theorem Od.mono {H H' : Hp} {x : V} (h : Od H x) (s : Same H H') : Od H' x := by
  cases h with
  | int i => exact .int i
  | non => exact .non
  | bl b => exact .bl b
  | str z => exact .str z
  | tup h => exact .tup (s _ _ h)
  | lst h => exact .lst (s _ _ h)
  | dK h => exact .dK (s _ _ h)
def isInt : V → Bool
  | .int _ => true
  | _ => false
theorem Od.isi {H : Hp} {x : V} (h : Od H x) : IsI K H x (isInt x) := by
  cases h with
  | int i => exact .int i
  | non => exact .oth (.base .non) (kit_ty (by decide +kernel))
  | bl b => exact .bl b
  | str z => exact .oth (.base (.str z)) (kit_ty (by decide +kernel))
  | tup h => exact .oth (.base (.tup h)) (kit_ty (by decide +kernel))
  | lst h => exact .oth (.base (.lst h)) (kit_ty (by decide +kernel))
  | dK h => exact .oth (.base (.dK h)) (kit_ty (by decide +kernel))
/-- an integer from a to b -/
def inR (a b : Int) : V → Bool
  | .int i => decide (a ≤ i) && decide (i ≤ b)
  | _ => false
theorem Od.within {H : Hp} {x : V} {a b : Int} (h : Od H x) : Win K H x a b (inR a b x) := by
  cases h with
  | int i => exact .inl ⟨i, rfl, rfl⟩
  | non => exact .inr ⟨Od.isi .non, rfl⟩
  | bl b => exact .inr ⟨Od.isi (.bl b), rfl⟩
  | str z => exact .inr ⟨Od.isi (.str z), rfl⟩
  | tup h => exact .inr ⟨Od.isi (.tup h), rfl⟩
  | lst h => exact .inr ⟨Od.isi (.lst h), rfl⟩
  | dK h => exact .inr ⟨Od.isi (.dK h), rfl⟩
end
end W

namespace W
open PySem PySem.Spec PyProof.Rows L2
section
variable {P : Program} {w : World} {K : S.Frag} {mg : Str → Option Value} {base : Heap}
open S
theorem ok__law_cell (T : Txt K mg) : FnOk P w K mg base (L2.CX P w) 1 (He.fAd K ("_law_cell", none)) (S.fdA K ("_law_cell", none)) ["_law_script", "_law_k"] (spCellN K) := by
  refine FunD.ok T.F__law_cell sc__law_cell (fun vs H Q E h => S.splen2 h) (fun cdv A outer s H vs Q E hr h => ?_)
  have hu := hu_of hr
  refine ⟨_, (pss_cons (ps_set (i := 2) sc__law_cell.nd rfl (by first | exact Or.inl rfl | exact Or.inr rfl) pe_int)
      (S.pss_cut (ps_if (pt_cmpR op_lt (pv 1) (pe_callB (S.lenK (K := K) rfl) rfl T.n_len S.boot_len (pa_cons (pv 0) pa_nil)) (nomark _)) (pss_one (ps_set (i := 2) sc__law_cell.nd rfl (by first | exact Or.inl rfl | exact Or.inr rfl) (pe_ix (S.ixK (K := K) rfl) (pv 0) (pv 1) (fun _ _ => rfl)))) pss_nil)
      (pss_cons (ps_if (pt_cmpR op_ge (pv 2) (pe_op op_pow pe_int pe_int) (nomark _)) (pss_one (ps_ret (pv 2))) pss_nil)
      (pss_cons (ps_set (i := 3) sc__law_cell.nd rfl (by first | exact Or.inl rfl | exact Or.inr rfl) (pe_op op_mod (pe_callTy call_int1 rfl T.n_int S.boot_int (pa_cons (pe_op op_add (pe_op op_add (pe_op S.op_mulA (pv 2) pe_int) (pe_op S.op_mulA (pv 1) pe_int)) pe_int) pa_nil)) pe_int))
      (pss_cons (ps_set (i := 4) sc__law_cell.nd rfl (by first | exact Or.inl rfl | exact Or.inr rfl) pe_int)
      (pss_cons (ps_for (S.own_of rfl) rfl (pi_range1 rfl T.n_range (pa_cons pe_int pa_nil)) (pg_name (i := 5) sc__law_cell.nd rfl (by first | exact Or.inl rfl | exact Or.inr rfl))
        (pss_cons (ps_set (i := 3) sc__law_cell.nd rfl (by first | exact Or.inl rfl | exact Or.inr rfl) (pe_op op_mod (pe_callTy call_int1 rfl T.n_int S.boot_int (pa_cons (pe_op op_add (pe_op op_add (pe_op S.op_mulA (pv 3) pe_int) (pe_op S.op_mulA (pv 5) pe_int)) pe_int) pa_nil)) pe_int))
      (pss_cons (ps_set (i := 3) sc__law_cell.nd rfl (by first | exact Or.inl rfl | exact Or.inr rfl) (pe_op op_mod (pe_callTy call_int1 rfl T.n_int S.boot_int (pa_cons (pe_op S.op_mulA (pv 3) (pe_op op_add (pe_op op_fdivW (pv 3) pe_int) pe_int)) pa_nil)) pe_int))
      (pss_one (ps_set (i := 4) sc__law_cell.nd rfl (by first | exact Or.inl rfl | exact Or.inr rfl) (pe_op op_add (pe_op S.op_mulA (pv 4) pe_int) (pv 3)))))))
      (pss_one (ps_ret (pv 4))))))))), ?_⟩
  obtain ⟨_, _, rfl, a, ns, k, rfl, rfl, hk, hS, q⟩ := h
  refine ⟨fun τ J => J = H ∧ ∃ c : Int, τ = [some (.ref a), some (.int k), some (.int c), none, none, none], ?_, ?_⟩
  · refine ⟨_, rfl, _, rfl, _, (ns.map V.int).length, rfl, .inl ⟨_, hS, rfl⟩, _, _, rfl, rfl, _, rfl, ?_⟩
    by_cases c : k < ((ns.map V.int).length : Int)
    · obtain ⟨m, rfl⟩ : ∃ m : Nat, k = (m : Int) := ⟨k.toNat, by omega⟩
      rw [List.length_map] at c
      exact iteY (by simpa using c) ⟨_, rfl, _, rfl, .inl ⟨a, _, _, _, rfl, rfl, hS, int_at (by omega), rfl, _, rfl⟩⟩
    · exact iteN (by simpa using c) ⟨rfl, _, rfl⟩
  · rintro τ J ⟨rfl, c, rfl⟩
    refine ⟨_, rfl, _, _, rfl, rfl, ⟨by decide, by decide, by decide⟩, _, _, rfl, rfl, _, rfl, ?_⟩
    refine ite2 (fun h => ⟨_, rfl, q _ ?_⟩) (fun _ => ?_)
    · have h2 : (10 : Int) ^ 18 ≤ c := by simpa using h
      omega
    refine ⟨_, rfl, _, _, rfl, rfl, mul_small (by decide), _, rfl, _, _, rfl, rfl, mul_small (by decide), _, _, rfl, rfl, _, _, rfl, rfl, .inl ⟨_, rfl, _, _, rfl, rfl, (by show (0 : Int) < 2147483647; decide), ?_⟩⟩
    refine ⟨8, rfl, by decide, by decide, for_range (n := 8) (fun i σ J2 => J2 = J ∧ ∃ (x y : Int) (st : Option V), 0 ≤ x ∧ x < 2147483647 ∧ 0 ≤ y ∧ σ = [some (.ref a), some (.int k), some (.int c), some (.int x), some (.int y), st]) ⟨rfl, _, _, none, Int.emod_nonneg _ (by decide), Int.emod_lt_of_pos _ (by decide), Int.le_refl 0, rfl⟩ ?_ ?_⟩
    · rintro i σ J2 hi ⟨rfl, x, y, st, h0, h1, hy, rfl⟩
      refine ⟨_, rfl, _, _, rfl, rfl, mul_small (by decide), _, rfl, _, _, rfl, rfl, mul_small (by decide), _, _, rfl, rfl, _, _, rfl, rfl, .inl ⟨_, rfl, _, _, rfl, rfl, (by show (0 : Int) < 2147483647; decide), ?_⟩⟩
      refine ⟨_, rfl, _, rfl, _, _, rfl, rfl, div_small (by decide) (by decide), _, _, rfl, rfl, _, _, rfl, rfl, mul_smallL (mod_small _ (by decide) (by decide)), .inl ⟨_, rfl, _, _, rfl, rfl, (by show (0 : Int) < 2147483629; decide), ?_⟩⟩
      refine ⟨_, rfl, _, _, rfl, rfl, mul_small (by decide), _, rfl, _, _, rfl, rfl, rfl, _, _, some (.int (0 + (i : Int))), mod_lo _ (by decide), Int.lt_trans (mod_hi _ (by decide)) (by decide), ?_, rfl⟩
      exact Int.add_nonneg (Int.mul_nonneg hy (by decide)) (mod_lo _ (by decide))
    · rintro σ J2 ⟨rfl, x, y, st, _, _, hy, rfl⟩
      exact ⟨_, rfl, q y hy⟩
def spTake : Sp := Sp2 fun x y H Q _ => ∃ (a : Addr) (n m : Int), x = .ref a ∧ H a = some (.lst [.int n]) ∧ y = .int m ∧ 0 < m ∧ m < 2 ^ 64 ∧ ∀ t n', 0 ≤ t → t < m → Q (.int t) (upd H a (.lst [.int n']))
theorem ok__law_take (T : Txt K mg) : FnOk P w K mg base (L2.CX P w) 1 (He.fAd K ("_law_take", none)) (S.fdA K ("_law_take", none)) ["_law_draw", "_law_size"] (spTake) := by
  refine FunD.ok T.F__law_take sc__law_take (fun vs H Q E h => S.splen2 h) (fun cdv A outer s H vs Q E hr h => ?_)
  have hu := hu_of hr
  refine ⟨_, (pss_cons (ps_set (i := 2) sc__law_take.nd rfl (by first | exact Or.inl rfl | exact Or.inr rfl) (pe_op op_mod (pe_callTy call_int1 rfl T.n_int S.boot_int (pa_cons (pe_ix (S.ixK (K := K) rfl) (pv 0) pe_int (fun _ _ => rfl)) pa_nil)) (pv 1)))
      (pss_cons (ps_asg (pe_op op_fdivW (pe_ix (S.ixK (K := K) rfl) (pv 0) pe_int (fun _ _ => rfl)) (pv 1)) (pg_sub (pv 0) pe_int set_list))
      (pss_one (ps_ret (pv 2))))), ?_⟩
  obtain ⟨_, _, rfl, a, n, m, rfl, ha, rfl, h0, h1, q⟩ := h
  refine ⟨_, rfl, .inl ⟨a, _, 0, _, rfl, rfl, .inl (.inl ha), rfl, .inl ⟨_, rfl, _, rfl, _, _, rfl, rfl, h0, ?_⟩⟩⟩
  refine ⟨_, rfl, .inl ⟨a, _, 0, _, rfl, rfl, .inl (.inl ha), rfl, _, rfl, _, _, rfl, rfl, div_small h0 h1, ?_⟩⟩
  exact ⟨_, rfl, a, _, 0, 0, rfl, rfl, ha, rfl, _, rfl, q _ _ (mod_lo _ h0) (mod_hi _ h0)⟩
end
end W

namespace W
open PySem PySem.Spec PyProof.Rows L2
section
variable {P : Program} {w : World} {K : S.Frag} {mg : Str → Option Value} {base : Heap}
open S
/-- the draws at a went on, all else stands -/
structure Dr (a : Addr) (H H' : Hp) : Prop where
  at_ : ∃ m : Int, H' a = some (.lst [.int m])
  kp : ∀ b o, b ≠ a → H b = some o → H' b = some o
theorem Dr.trans {a : Addr} {H H1 H2 : Hp} (x : Dr a H H1) (y : Dr a H1 H2) : Dr a H H2 := ⟨y.at_, fun b o n h => y.kp b o n (x.kp b o n h)⟩
theorem Dr.upd {a : Addr} {H : Hp} {n : Int} : Dr a H (upd H a (.lst [.int n])) := ⟨⟨n, upd_same⟩, fun b o nb h => by rw [upd_ne nb]; exact h⟩
theorem Dr.same {a : Addr} {H H' : Hp} {n : Int} (h : H a = some (.lst [.int n])) (s : Same H H') : Dr a H H' := ⟨⟨n, s _ _ h⟩, fun b o _ h => s b o h⟩
/-- values that do not lean on the draws -/
inductive Oa (a : Addr) (H : Hp) : V → Prop where
  | int (i : Int) : Oa a H (.int i)
  | non : Oa a H .non
  | bl (b : Bool) : Oa a H (.bl b)
  | str (z : Str) : Oa a H (.str z)
  | tup {c : Addr} {xs : List V} (n : c ≠ a) (h : H c = some (.tup xs)) : Oa a H (.ref c)
  | lst {c : Addr} {xs : List V} (n : c ≠ a) (h : H c = some (.lst xs)) : Oa a H (.ref c)
  | dK {c : Addr} {xs : List (Key × V)} (n : c ≠ a) (h : H c = some (.dK xs)) : Oa a H (.ref c)
theorem Oa.od {a : Addr} {H : Hp} {x : V} (h : Oa a H x) : Od H x := by
  cases h with
  | int i => exact .int i
  | non => exact .non
  | bl b => exact .bl b
  | str z => exact .str z
  | tup n h => exact .tup h
  | lst n h => exact .lst h
  | dK n h => exact .dK h
theorem Oa.dr {a : Addr} {H H' : Hp} {x : V} (h : Oa a H x) (d : Dr a H H') : Oa a H' x := by
  cases h with
  | int i => exact .int i
  | non => exact .non
  | bl b => exact .bl b
  | str z => exact .str z
  | tup n h => exact .tup n (d.kp _ _ n h)
  | lst n h => exact .lst n (d.kp _ _ n h)
  | dK n h => exact .dK n (d.kp _ _ n h)
theorem ix3 {H : Hp} {a : Addr} {xs : List V} {v : V} {i : Int} {Q : VK} (ha : H a = some (.lst xs)) (e : atI xs i = some v) (q : Q v H) : rIx K (.ref a) (.int i) H Q := .inl ⟨a, _, _, _, rfl, rfl, .inl (.inl ha), e, q⟩
theorem ixT {H : Hp} {a : Addr} {xs : List V} {v : V} {i : Int} {Q : VK} (ha : H a = some (.tup xs)) (e : atI xs i = some v) (q : Q v H) : rIx K (.ref a) (.int i) H Q := .inr (.inl ⟨a, _, _, _, rfl, rfl, .inl (.inl ha), e, q⟩)
theorem isInt_int {x : V} (h : isInt x = true) : ∃ i, x = .int i := by cases x <;> first | exact ⟨_, rfl⟩ | cases h
theorem inR_not {x : V} {a b : Int} (h : isInt x = false) : inR a b x = false := by cases x <;> first | rfl | cases h
/-- one new thing at r beside what stood -/
theorem dr_same {r : Addr} {H H1 H2 : Hp} (h : Same H H1) (n : H r = none) (d : Dr r H1 H2) : Same H H2 := fun b o e => d.kp b o (ne_of_none e n) (h b o e)
end
end W

namespace W
open PySem PySem.Spec PyProof.Rows L2
section
variable {P : Program} {w : World} {K : S.Frag} {mg : Str → Option Value} {base : Heap}
open S
theorem ok__law_is_integer (T : Txt K mg) : FnOk P w K mg base (L2.CX P w) 1 (He.fAd K ("_law_is_integer", none)) (S.fdA K ("_law_is_integer", none)) ["_law_value"] (sp_isint K) := by
  refine FunD.ok T.F__law_is_integer sc__law_is_integer (fun vs H Q E h => S.splen1 h) (fun cdv A outer s H vs Q E hr h => ?_)
  have hu := hu_of hr
  refine ⟨_, (pss_one (ps_ret (pe_and (pe_callB (S.isiK (K := K) rfl) rfl T.n_isinstance S.boot_isinstance (pa_cons (pv 0) (pa_cons (pe_bltn (v := .ty "int") rfl T.n_int S.boot_int rfl) pa_nil))) (pe_one (pe_not (pe_callB (S.isiK (K := K) rfl) rfl T.n_isinstance S.boot_isinstance (pa_cons (pv 0) (pa_cons (pe_bltn (v := .ty "bool") rfl T.n_bool S.boot_bool rfl) pa_nil)))))))), ?_⟩
  obtain ⟨x, rfl, b, hb, q⟩ := h
  cases hb with
  | int i => exact ⟨_, rfl, _, _, _, _, true, rfl, .ty _, isi_true, kit_ty (by decide +kernel), _, rfl, _, rfl, _, _, _, _, false, rfl, .ty _, isi_true, kit_ty (by decide +kernel), _, rfl, q⟩
  | bl b => exact ⟨_, rfl, _, _, _, _, true, rfl, .ty _, .base (.bl b), kit_ty (by decide +kernel), _, rfl, _, rfl, _, _, _, _, true, rfl, .ty _, .base (.bl b), kit_ty (by decide +kernel), _, rfl, q⟩
  | oth h e => exact ⟨_, rfl, _, _, _, _, false, rfl, .ty _, h, e, _, rfl, q⟩
end
end W

namespace W
open PySem PySem.Spec PyProof.Rows L2
section
variable {P : Program} {w : World} {K : S.Frag} {mg : Str → Option Value} {base : Heap}
open S
/-! names -/
abbrev abc : Str := "abcdefghijklmnopqrstuvwxyz"
abbrev keptW : List V := [.str "any", .str "closed", .str "end", .str "open", .str "to"]
def isNm (z : Str) : Bool := (decide (1 ≤ z.length) && decide (z.length ≤ 8)) && (!inV (.str z) keptW && z.cps.toList.all fun c => decide (c ∈ abc.cps.toList))
def nmV : V → Bool
  | .str z => isNm z
  | _ => false
def isStr : V → Bool
  | .str _ => true
  | _ => false
def isBl : V → Bool
  | .bl _ => true
  | _ => false
/-- a text of bounded length, or none -/
def sml : V → Prop
  | .str z => z.length ≤ 1000
  | _ => True
theorem Od.str? {H : Hp} {x : V} (h : Od H x) : ∃ t, TyX K H x t ∧ PySem.W.kitOne K t (.type "str") = some (isStr x) := by
  cases h with
  | int i => exact ⟨_, .base (.int i), kit_ty (r := false) (by decide +kernel)⟩
  | non => exact ⟨_, .base .non, kit_ty (r := false) (by decide +kernel)⟩
  | bl b => exact ⟨_, .base (.bl b), kit_ty (r := false) (by decide +kernel)⟩
  | str z => exact ⟨_, .base (.str z), kit_ty (r := true) (by decide +kernel)⟩
  | tup h => exact ⟨_, .base (.tup h), kit_ty (r := false) (by decide +kernel)⟩
  | lst h => exact ⟨_, .base (.lst h), kit_ty (r := false) (by decide +kernel)⟩
  | dK h => exact ⟨_, .base (.dK h), kit_ty (r := false) (by decide +kernel)⟩
theorem Od.bl? {H : Hp} {x : V} (h : Od H x) : ∃ t, TyX K H x t ∧ PySem.W.kitOne K t (.type "bool") = some (isBl x) := by
  cases h with
  | int i => exact ⟨_, .base (.int i), kit_ty (r := false) (by decide +kernel)⟩
  | non => exact ⟨_, .base .non, kit_ty (r := false) (by decide +kernel)⟩
  | bl b => exact ⟨_, .base (.bl b), kit_ty (r := true) (by decide +kernel)⟩
  | str z => exact ⟨_, .base (.str z), kit_ty (r := false) (by decide +kernel)⟩
  | tup h => exact ⟨_, .base (.tup h), kit_ty (r := false) (by decide +kernel)⟩
  | lst h => exact ⟨_, .base (.lst h), kit_ty (r := false) (by decide +kernel)⟩
  | dK h => exact ⟨_, .base (.dK h), kit_ty (r := false) (by decide +kernel)⟩
theorem all_take {z : Str} {i c : Nat} (h : z.cps[i]? = some c) : z.cps.toList.take (i + 1) = z.cps.toList.take i ++ [c] := by
  rw [List.take_succ, ← Array.getElem?_toList] at *
  rw [h]
  rfl
def spNm (K : S.Frag) : Sp := Sp1 fun x H Q _ => Od H x ∧ sml x ∧ Q (.bl (nmV x)) H
theorem ok_is_name (T : Txt K mg) : FnOk P w K mg base (L2.CX P w) 1 (He.fAd K ("is_name", none)) (S.fdA K ("is_name", none)) ["value"] (spNm K) := by
  refine FunD.ok T.F_is_name sc_is_name (fun vs H Q E h => S.splen1 h) (fun cdv A outer s H vs Q E hr h => ?_)
  have hu := hu_of hr
  refine ⟨_, (pss_cons (ps_if (PW.pt (pw_or (pt_not (pt_val (pe_callB (S.isiK (K := K) rfl) rfl T.n_isinstance S.boot_isinstance (pa_cons (pv 0) (pa_cons (pe_bltn (v := .ty "str") rfl T.n_str S.boot_str rfl) pa_nil))))) (pw_or (pt_not (pt_chain op_le op_le pe_int (pe_callB (S.lenK (K := K) rfl) rfl T.n_len S.boot_len (pa_cons (pv 0) pa_nil)) pe_int)) (pw_or1 (pt_cmpR (S.inK (K := K) rfl) (pv 0) (pe_glob (v := .ref _) rfl T.g_KEPT_WORDS rfl) rfl))))) (pss_one (ps_ret pe_bl)) pss_nil)
      (pss_cons (ps_for (S.own_of rfl) rfl (pi_str (pv 0)) (pg_name (i := 1) sc_is_name.nd rfl (by first | exact Or.inl rfl | exact Or.inr rfl))
        (pss_one (ps_if (pt_cmpR op_notIn_sign (pv 1) (S.pe_globS rfl T.c_LETTERS) rfl) (pss_one (ps_ret pe_bl)) pss_nil)))
      (pss_one (ps_ret pe_bl)))), ?_⟩
  obtain ⟨x, rfl, ox, sx, q⟩ := h
  obtain ⟨t, ty, kt⟩ := ox.str? (K := K)
  refine ⟨_, rfl, _, _, _, _, _, rfl, .ty _, ty, kt, _, rfl, ?_⟩
  cases c1 : isStr x with
  | false =>
    have e : nmV x = false := by cases x <;> first | rfl | cases c1
    rw [e] at q
    exact iteT (iteT q)
  | true =>
    obtain ⟨z, rfl⟩ : ∃ z, x = .str z := by cases x <;> first | exact ⟨_, rfl⟩ | cases c1
    have sz : z.length ≤ 1000 := sx
    have bad : isNm z = false → Q (.bl false) H := fun e => by
      have e2 : nmV (.str z) = false := e
      rw [e2] at q
      exact q
    have q1 : ((1 : Int) ≤ (z.length : Int)) ↔ 1 ≤ z.length := by omega
    have q2 : ((z.length : Int) ≤ 8) ↔ z.length ≤ 8 := by omega
    refine iteF ⟨_, rfl, _, z.length, rfl, ⟨Nat.le_trans sz (by decide), rfl⟩, _, _, rfl, rfl, _, rfl, ?_⟩
    by_cases d1 : 1 ≤ z.length
    · refine iteY (decide_eq_true (by omega)) ⟨_, _, rfl, rfl, _, rfl, ?_⟩
      by_cases d2 : z.length ≤ 8
      · refine iteN (by simpa [q2] using d2) ⟨_, rfl, _, _, rfl, .inr (T.t_KEPT_WORDS H), rfl, rfl, _, rfl, ?_⟩
        cases d3 : inV (.str z) keptW with
        | true => exact iteY rfl (bad (by simp [isNm, d3]))
        | false =>
          refine iteN (by decide) ?_
          refine ⟨_, rfl, z, rfl, for_str (fun i σ J => J = H ∧ (∃ t, σ = [some (.str z), t]) ∧ (z.cps.toList.take i).all (fun c => decide (c ∈ abc.cps.toList)) = true) ⟨rfl, ⟨_, rfl⟩, rfl⟩ ?_ ?_⟩
          · rintro i c σ J hc ⟨rfl, ⟨t, rfl⟩, ha⟩
            refine ⟨_, rfl, _, _, rfl, rfl, _, rfl, ?_⟩
            by_cases d4 : c ∈ abc.cps.toList
            · refine iteN (by simp [d4]) ⟨rfl, ⟨_, rfl⟩, ?_⟩
              rw [all_take hc, List.all_append, ha, List.all_cons, decide_eq_true d4]
              rfl
            · refine iteY (by simp [d4]) (bad ?_)
              have m : c ∈ z.cps.toList := by
                rw [← Array.getElem?_toList] at hc
                exact List.mem_of_getElem? hc
              have e : (z.cps.toList.all fun c => decide (c ∈ abc.cps.toList)) = false := by
                rw [List.all_eq_false]
                exact ⟨c, m, by simp [d4]⟩
              simp only [isNm, e, Bool.and_false]
          · rintro σ J ⟨rfl, ⟨t, rfl⟩, ha⟩
            have e : nmV (.str z) = true := by
              have ha2 : (z.cps.toList.all fun c => decide (c ∈ abc.cps.toList)) = true := by
                rw [show z.cps.size = z.cps.toList.length by simp, List.take_length] at ha
                exact ha
              show isNm z = true
              simp only [isNm, ha2, d3, decide_eq_true d1, decide_eq_true d2]
              rfl
            rw [e] at q
            exact q
      · exact iteY (by simpa [q2] using d2) (bad (by simp [isNm, d2]))
    · exact iteN (fun c => d1 (by have := of_decide_eq_true c; omega)) ⟨_, rfl, iteT (bad (by simp [isNm, d1]))⟩
theorem ok_BadPlace___init__ (T : Txt K mg) : FnOk P w K mg base (L2.CX P w) 1 (He.fAd K ("BadPlace", some "__init__")) (S.fdA K ("BadPlace", some "__init__")) ["self", "why"] (sp_err (He.ga K "BadPlace") "why") := by
  refine FunD.ok T.F_BadPlace___init__ sc_BadPlace___init__ (fun vs H Q E h => S.splen2 h) (fun cdv A outer s H vs Q E hr h => ?_)
  have hu := hu_of hr
  refine ⟨_, (pss_one (S.ps_ostK (K := K) rfl (pv 0) (pv 1) rfl)), ?_⟩
  obtain ⟨_, y, rfl, a, rfl, ha, k⟩ := h
  exact ⟨_, rfl, _, rfl, a, _, rfl, T.ox_BadPlace, T.xn_BadPlace_why, .inl ⟨ha, k⟩⟩
def intOf : V → Int
  | .int i => i
  | _ => 0
def mostV (l m : V) : V := if m = .non then l else m
/-- what is wrong with these four, or "" -/
def dueP (n l m t : V) : Str := if !nmV n then "name" else if !inR 1 6 l then "least" else if !inR (intOf l) 6 (mostV l m) then "most" else if !isBl t then "let" else ""
def fldP (n l m t : V) : List (Str × V) := [("name", n), ("least", l), ("most", m), ("let", t)]
theorem inR_int {a b : Int} {x : V} (h : inR a b x = true) : ∃ i, x = .int i ∧ a ≤ i ∧ i ≤ b := by
  cases x with
  | int i => simp [inR] at h; exact ⟨i, rfl, h⟩
  | _ => cases h
def spPlace (K : S.Frag) : Sp := Sp5 fun self n l m t H Q E => ∃ p dx, self = .ref p ∧ H p = some (.ins (He.ga K "Place") dx []) ∧ Od H n ∧ sml n ∧ Od H l ∧ Od H m ∧ Od H t ∧
  (dueP n l m t = "" → ∀ H', (∀ b o, H b = some o → b ≠ p → H' b = some o) → H' p = some (.ins (He.ga K "Place") dx (fldP n l (mostV l m) t)) → Q .non H') ∧
  (dueP n l m t ≠ "" → ∀ d H', H d = none → Same H H' → H' d = some (.xd [("why", .str (dueP n l m t))]) → E (.ref (He.ga K "BadPlace")) (some d) H')
theorem ok_Place___init__ (T : Txt K mg) : FnOk P w K mg base (L2.CX P w) 3 (He.fAd K ("Place", some "__init__")) (S.fdA K ("Place", some "__init__")) ["self", "name", "least", "most", "let"] (spPlace K) := by
  have G_is_name := ok_is_name (P := P) (w := w) (base := base) T
  have G_BadPlace___init__ := ok_BadPlace___init__ (P := P) (w := w) (base := base) T
  have G_is_within := ok_is_within (P := P) (w := w) (base := base) T
  refine FunD.ok T.F_Place___init__ sc_Place___init__ (fun vs H Q E h => S.splen5 h) (fun cdv A outer s H vs Q E hr h => ?_)
  have hu := hu_of hr
  refine ⟨_, (pss_cons (ps_if (pt_not (pt_val (S.pe_fnS G_is_name (hr.mono (by decide)) rfl T.g_is_name T.F_is_name.kp (kb_is_name_1 T) S.pas0 (pa_cons (pv 1) pa_nil) pk_nil rfl rfl))) (pss_one (S.ps_raiseO rfl (takes_of rfl rfl rfl rfl) T.ox_BadPlace T.xi_BadPlace T.xt_BadPlace G_BadPlace___init__ (hr.mono (by decide)) (kb_BadPlace___init___2 T) rfl T.g_BadPlace (pa_cons pe_str pa_nil))) pss_nil)
      (pss_cons (ps_if (pt_not (pt_val (S.pe_fnS G_is_within (hr.mono (by decide)) rfl T.g_is_within T.F_is_within.kp (kb_is_within_3 T) S.pas0 (pa_cons (pv 2) (pa_cons pe_int (pa_cons (S.pe_globI rfl T.c_MOST_TICKS) pa_nil))) pk_nil rfl rfl))) (pss_one (S.ps_raiseO rfl (takes_of rfl rfl rfl rfl) T.ox_BadPlace T.xi_BadPlace T.xt_BadPlace G_BadPlace___init__ (hr.mono (by decide)) (kb_BadPlace___init___2 T) rfl T.g_BadPlace (pa_cons pe_str pa_nil))) pss_nil)
      (S.pss_cut (ps_if (pt_cmpR op_isN (pv 3) pe_non (nomark _)) (pss_one (ps_set (i := 3) sc_Place___init__.nd rfl (by first | exact Or.inl rfl | exact Or.inr rfl) (pv 2))) pss_nil)
      (pss_cons (ps_if (pt_not (pt_val (S.pe_fnS G_is_within (hr.mono (by decide)) rfl T.g_is_within T.F_is_within.kp (kb_is_within_3 T) S.pas0 (pa_cons (pv 3) (pa_cons (pv 2) (pa_cons (S.pe_globI rfl T.c_MOST_TICKS) pa_nil))) pk_nil rfl rfl))) (pss_one (S.ps_raiseO rfl (takes_of rfl rfl rfl rfl) T.ox_BadPlace T.xi_BadPlace T.xt_BadPlace G_BadPlace___init__ (hr.mono (by decide)) (kb_BadPlace___init___2 T) rfl T.g_BadPlace (pa_cons pe_str pa_nil))) pss_nil)
      (pss_cons (ps_if (pt_not (pt_val (pe_callB (S.isiK (K := K) rfl) rfl T.n_isinstance S.boot_isinstance (pa_cons (pv 4) (pa_cons (pe_bltn (v := .ty "bool") rfl T.n_bool S.boot_bool rfl) pa_nil))))) (pss_one (S.ps_raiseO rfl (takes_of rfl rfl rfl rfl) T.ox_BadPlace T.xi_BadPlace T.xt_BadPlace G_BadPlace___init__ (hr.mono (by decide)) (kb_BadPlace___init___2 T) rfl T.g_BadPlace (pa_cons pe_str pa_nil))) pss_nil)
      (pss_cons (S.ps_fldK (K := K) rfl (pv 0) (pv 1) rfl)
      (pss_cons (S.ps_fldK (K := K) rfl (pv 0) (pv 2) rfl)
      (pss_cons (S.ps_fldK (K := K) rfl (pv 0) (pv 3) rfl)
      (pss_one (S.ps_fldK (K := K) rfl (pv 0) (pv 4) rfl)))))))))), ?_⟩
  obtain ⟨_, n, l, m, t, rfl, p, dx, rfl, hp, on, sn, ol, om, ot, k1, k2⟩ := h
  refine ⟨_, rfl, rfl, rfl, n, rfl, on, sn, _, rfl, ?_⟩
  cases c1 : nmV n with
  | false =>
    have e : dueP n l m t = "name" := by simp [dueP, c1]
    rw [e] at k2
    exact iteT (raise_err (.str "name") (k2 (by decide +kernel)))
  | true =>
    refine iteF ⟨_, rfl, rfl, rfl, l, _, _, rfl, 1, 6, _, rfl, rfl, ol.within, _, rfl, ?_⟩
    cases c2 : inR 1 6 l with
    | false =>
      have e : dueP n l m t = "least" := by simp [dueP, c1, c2]
      rw [e] at k2
      exact iteT (raise_err (.str "least") (k2 (by decide +kernel)))
    | true =>
      obtain ⟨i, rfl, i1, i2⟩ := inR_int c2
      refine iteF ⟨fun τ J => J = H ∧ τ = [some (.ref p), some n, some (.int i), some (mostV (.int i) m), some t], ?_, ?_⟩
      · refine ⟨_, rfl, rfl, _, rfl, ?_⟩
        by_cases hm : m = .non
        · exact iteY (by simp [hm]) ⟨_, rfl, rfl, by simp [mostV, hm]; rfl⟩
        · exact iteN (by simp [hm]) ⟨rfl, by simp [mostV, hm]; rfl⟩
      · rintro τ J ⟨rfl, rfl⟩
        have om2 : Od J (mostV (.int i) m) := by
          unfold mostV
          split
          · exact .int i
          · exact om
        refine ⟨_, rfl, _, rfl, rfl, rfl, _, _, _, rfl, i, 6, _, rfl, rfl, om2.within, _, rfl, ?_⟩
        cases c3 : inR i 6 (mostV (.int i) m) with
        | false =>
          have e : dueP n (.int i) m t = "most" := by simp [dueP, c1, c2, c3, intOf]
          rw [e] at k2
          exact iteT (raise_err (.str "most") (k2 (by decide +kernel)))
        | true =>
          obtain ⟨ty, h1, h2⟩ := ot.bl? (K := K)
          refine iteF ⟨_, rfl, _, _, _, _, _, rfl, .ty _, h1, h2, _, rfl, ?_⟩
          cases c4 : isBl t with
          | false =>
            have e : dueP n (.int i) m t = "let" := by simp [dueP, c1, c2, c3, c4, intOf]
            rw [e] at k2
            exact iteT (raise_err (.str "let") (k2 (by decide +kernel)))
          | true =>
            refine iteF ⟨_, rfl, _, rfl, p, _, dx, _, rfl, hp, T.cl_Place, T.na_Place_name, (by show 0 < 1000; decide), ?_⟩
            refine ⟨_, rfl, _, rfl, p, _, dx, _, rfl, upd_same, T.cl_Place, T.na_Place_least, (by show 1 < 1000; decide), ?_⟩
            refine ⟨_, rfl, _, rfl, p, _, dx, _, rfl, upd_same, T.cl_Place, T.na_Place_most, (by show 2 < 1000; decide), ?_⟩
            refine ⟨_, rfl, _, rfl, p, _, dx, _, rfl, upd_same, T.cl_Place, T.na_Place_let, (by show 3 < 1000; decide), ?_⟩
            exact k1 (by simp [dueP, c1, c2, c3, c4, intOf]) _ (fun b o q nb => by rw [upd_ne nb, upd_ne nb, upd_ne nb, upd_ne nb]; exact q) upd_same
section
variable (n l m t : V)
theorem lk_name : (fldP n l m t).lookup ("name" : Str) = some n := by
  unfold fldP
  rw [lookup_put, if_pos rfl]
theorem lk_least : (fldP n l m t).lookup ("least" : Str) = some l := by
  unfold fldP
  rw [lookup_put, if_neg (by decide +kernel), lookup_put, if_pos rfl]
theorem lk_most : (fldP n l m t).lookup ("most" : Str) = some m := by
  unfold fldP
  rw [lookup_put, if_neg (by decide +kernel), lookup_put, if_neg (by decide +kernel), lookup_put, if_pos rfl]
theorem lk_let : (fldP n l m t).lookup ("let" : Str) = some t := by
  unfold fldP
  rw [lookup_put, if_neg (by decide +kernel), lookup_put, if_neg (by decide +kernel), lookup_put, if_neg (by decide +kernel), lookup_put, if_pos rfl]
theorem lk_key : (fldP n l m t).lookup ("place_key" : Str) = none := by
  unfold fldP
  rw [lookup_put, if_neg (by decide +kernel), lookup_put, if_neg (by decide +kernel), lookup_put, if_neg (by decide +kernel), lookup_put, if_neg (by decide +kernel)]
  rfl
end
/-- a place stands at p -/
def PlAt (K : S.Frag) (H : Hp) (p : Addr) (n l m t : V) : Prop := ∃ dx, H p = some (.ins (He.ga K "Place") dx (fldP n l m t))
theorem PlAt.same {H H' : Hp} {p : Addr} {n l m t : V} (h : PlAt K H p n l m t) (s : Same H H') : PlAt K H' p n l m t := let ⟨dx, e⟩ := h; ⟨dx, s _ _ e⟩
def spKey (K : S.Frag) : Sp := Sp1 fun x H Q _ => ∃ p n l m t, x = .ref p ∧ PlAt K H p n l m t ∧ ∀ k, H k = none → Q (.ref k) (upd H k (.tup [n, l, m, t]))
def spPEq (K : S.Frag) : Sp := Sp2 fun x y H Q _ => ∃ p n l m t q n' l' m' t', x = .ref p ∧ y = .ref q ∧ PlAt K H p n l m t ∧ PlAt K H q n' l' m' t' ∧ [n, l, m, t].all sca = true ∧ [n', l', m', t'].all sca = true ∧
  ∀ H', Same H H' → Q (.bl (PyData.eqvAll ([n, l, m, t].map dat) ([n', l', m', t'].map dat))) H'
end
end W

namespace W
open PySem PySem.Spec PyProof.Rows L2
section
variable {P : Program} {w : World} {K : S.Frag} {mg : Str → Option Value} {base : Heap}
open S
/-! drawn names -/
theorem str_len (z : Str) : z.length = z.cps.toList.length := by simp [Str.length]
theorem app_cps (x y : Str) : (x ++ y).cps.toList = x.cps.toList ++ y.cps.toList := by
  show ((⟨x.cps ++ y.cps⟩ : Str)).cps.toList = _
  simp
theorem app_len (x y : Str) : (x ++ y).length = x.length + y.length := by rw [str_len, str_len, str_len, app_cps, List.length_append]
theorem eqV_str (a b : Str) : eqV (.str a) (.str b) = decide (a = b) := by
  show (a == b) = _
  rw [Bool.eq_iff_iff]
  simp
theorem inV_str (z : Str) (ws : List Str) : inV (.str z) (ws.map V.str) = decide (z ∈ ws) := by
  unfold inV
  rw [List.any_map, Bool.eq_iff_iff]
  simp only [List.any_eq_true, Function.comp, eqV_str, decide_eq_true_eq]
  constructor
  · rintro ⟨x, h, rfl⟩
    exact h
  · intro h
    exact ⟨z, h, rfl⟩
theorem flat_strs (ws : List Str) : (ws.map V.str).all flatV = true := by
  rw [List.all_map, List.all_eq_true]
  exact fun _ _ => rfl
/-- as many holes as pigeons -/
theorem nodup_le {α : Type} [DecidableEq α] : ∀ {l m : List α}, l.Nodup → (∀ x ∈ l, x ∈ m) → l.length ≤ m.length
  | [], m, _, _ => Nat.zero_le _
  | a :: l, m, h, s => by
    have ha : a ∈ m := s a List.mem_cons_self
    have hn := List.nodup_cons.mp h
    have e : (m.erase a).length = m.length - 1 := List.length_erase_of_mem ha
    have p : 0 < m.length := List.length_pos_of_mem ha
    have r : l.length ≤ (m.erase a).length := nodup_le hn.2 fun x hx => by
      have hx2 := s x (List.mem_cons_of_mem _ hx)
      have ne : x ≠ a := fun z => hn.1 (z ▸ hx)
      exact (List.mem_erase_of_ne ne).mpr hx2
    rw [List.length_cons]
    omega
theorem atI_lt {α : Type} {xs : List α} {i : Int} {v : α} (h0 : 0 ≤ i) (h : xs[i.toNat]? = some v) : atI xs i = some v := by
  obtain ⟨k, rfl⟩ : ∃ k : Nat, i = (k : Int) := ⟨i.toNat, by omega⟩
  exact atI_nat (by simpa using h)
def signs : List Str := abc.cps.toList.map fun c => ⟨#[c]⟩
theorem signs_nd : signs.Nodup := by decide +kernel
theorem signs_len : signs.length = 26 := by decide +kernel
theorem signs_nm : signs.all isNm = true := by decide +kernel
/-- used at u: the texts ws, fewer than the letters -/
def spName (K : S.Frag) : Sp := Sp2 fun x y H Q _ => ∃ (a u : Addr) (n : Int) (ws : List Str), x = .ref a ∧ y = .ref u ∧ a ≠ u ∧ H a = some (.lst [.int n]) ∧ H u = some (.lst (ws.map V.str)) ∧ ws.length < 26 ∧
  ∀ z H', isNm z = true → z ∉ ws → Dr a H H' → Q (.str z) H'
end
end W

namespace W
open PySem PySem.Spec PyProof.Rows L2
section
variable {P : Program} {w : World} {K : S.Frag} {mg : Str → Option Value} {base : Heap}
open S
/-! equal items -/
def dupB (f : V → V → Bool) (xs : List V) : Bool := (List.range xs.length).any fun i => match xs[i]? with | some y => (xs.take i).any fun z => f z y | none => false
def spEqI (K : S.Frag) : Sp := Sp1 fun x H Q _ => ∃ p xs n f, x = .ref p ∧ SqX K H p xs ∧ n ≤ 60 ∧ xs.length < 1000 ∧ (∀ H', Same H H' → ∀ y ∈ xs, ∀ z ∈ xs, EqOk K H' n z y (f z y)) ∧ ∀ H', Same H H' → Q (.bl (dupB f xs)) H'
theorem ok_has_equal_items (T : Txt K mg) : FnOk P w K mg base (L2.CX P w) 1 (He.fAd K ("has_equal_items", none)) (S.fdA K ("has_equal_items", none)) ["items"] (spEqI K) := by
  refine FunD.ok T.F_has_equal_items sc_has_equal_items (fun vs H Q E h => S.splen1 h) (fun cdv A outer s H vs Q E hr h => ?_)
  have hu := hu_of hr
  refine ⟨_, (pss_cons (ps_for (S.own_of rfl) rfl (pi_range1 rfl T.n_range (pa_cons (pe_callB (S.lenK (K := K) rfl) rfl T.n_len S.boot_len (pa_cons (pv 0) pa_nil)) pa_nil)) (pg_name (i := 1) sc_has_equal_items.nd rfl (by first | exact Or.inl rfl | exact Or.inr rfl))
        (pss_one (ps_if (pt_cmpR (S.inGK (K := K) rfl (S.hu64 hr)) (pe_ix (S.ixK (K := K) rfl) (pv 0) (pv 1) (fun _ _ => rfl)) (pe_slice (S.slSeqK (K := K) rfl) (pv 0) po_none (po_some (pv 1))) rfl) (pss_one (ps_ret pe_bl)) pss_nil)))
      (pss_one (ps_ret pe_bl))), ?_⟩
  obtain ⟨_, rfl, p, xs, n, f, rfl, hS, hn, hl, he, q⟩ := h
  refine ⟨_, rfl, _, _, rfl, lenVX hS, _, rfl, by omega, by omega, ?_⟩
  refine for_range (n := xs.length) (fun i σ J => Same H J ∧ (∃ t, σ = [some (.ref p), t]) ∧ ∀ j y, j < i → xs[j]? = some y → (xs.take j).any (fun z => f z y) = false) ⟨fun _ _ h => h, ⟨_, rfl⟩, fun _ _ h => absurd h (Nat.not_lt_zero _)⟩ ?_ ?_
  · rintro i σ J hi ⟨sJ, ⟨t, rfl⟩, no⟩
    have ey := List.getElem?_eq_getElem hi
    have e0 : ((0 : Int) + (i : Int)) = (i : Int) := by omega
    rw [e0]
    refine ⟨_, rfl, _, rfl, ixX (hS.same sJ) (atI_nat ey) ⟨_, rfl, _, rfl, _, rfl, sl_takeX (hS.same sJ) hi fun p' J2 hp s2 h2 => ⟨p', _, n, fun z => f z xs[i], rfl, h2, hn, fun z hz => he J2 (sJ.trans s2) _ (List.getElem_mem hi) _ (List.mem_of_mem_take hz), _, rfl, ?_⟩⟩⟩
    cases c : (xs.take i).any fun z => f z xs[i] with
    | true =>
      refine iteY rfl ?_
      have e : dupB f xs = true := by
        unfold dupB
        rw [List.any_eq_true]
        exact ⟨i, List.mem_range.mpr hi, by rw [ey]; exact c⟩
      rw [← e]
      exact q J2 (sJ.trans s2)
    | false =>
      refine iteN (by decide) ⟨sJ.trans s2, ⟨_, rfl⟩, fun j y hj hy => ?_⟩
      rcases Nat.lt_succ_iff_lt_or_eq.mp hj with h | rfl
      · exact no j y h hy
      · rw [ey] at hy
        cases hy
        exact c
  · rintro σ J ⟨sJ, ⟨t, rfl⟩, no⟩
    have e : dupB f xs = false := by
      unfold dupB
      rw [List.any_eq_false]
      intro i hi
      rw [List.mem_range] at hi
      rw [List.getElem?_eq_getElem hi]
      simpa using no i _ (by omega) (List.getElem?_eq_getElem hi)
    rw [← e]
    exact q J sJ
end
end W

namespace W
open PySem PySem.Spec PyProof.Rows L2
section
variable {P : Program} {w : World} {K : S.Frag} {mg : Str → Option Value} {base : Heap}
open S
/-! places and rows, as data -/
structure Pl where
  n : Str
  l : Int
  m : Int
  t : Bool
  deriving DecidableEq
abbrev PlA (K : S.Frag) (H : Hp) (p : Addr) (d : Pl) : Prop := PlAt K H p (.str d.n) (.int d.l) (.int d.m) (.bl d.t)
/-- a tracked list or tuple -/
def SqH (H : Hp) (a : Addr) (xs : List V) : Prop := H a = some (.lst xs) ∨ H a = some (.tup xs)
theorem SqH.x {H : Hp} {a : Addr} {xs : List V} (h : SqH H a xs) : SqX K H a xs := by
  rcases h with h | h
  · exact .inl (.inl (.inl h))
  · exact .inr (.inl (.inl h))
theorem SqH.same {H H' : Hp} {a : Addr} {xs : List V} (h : SqH H a xs) (s : Same H H') : SqH H' a xs := by
  rcases h with h | h
  · exact .inl (s _ _ h)
  · exact .inr (s _ _ h)
theorem SqH.ty {H : Hp} {a : Addr} {xs : List V} (h : SqH H a xs) : ∃ t, TyX K H (.ref a) t ∧ PySem.W.kitAny K t [.type "list", .type "tuple"] = some true := by
  rcases h with h | h
  · exact ⟨_, .base (.lst h), kitAny_cons (kit_ty (r := true) (by decide +kernel)) (fun z => nomatch z) (fun _ => rfl)⟩
  · exact ⟨_, .base (.tup h), kitAny_cons (kit_ty (r := false) (by decide +kernel)) (fun _ => kitAny_cons (kit_ty (r := true) (by decide +kernel)) (fun z => nomatch z) (fun _ => rfl)) (fun z => nomatch z)⟩
theorem nodup_dup {ws : List Str} (h : ws.Nodup) : dupB eqV (ws.map V.str) = false := by
  unfold dupB
  rw [List.any_eq_false]
  intro i hi
  rw [List.mem_range, List.length_map] at hi
  rw [List.getElem?_map, List.getElem?_eq_getElem hi]
  simp only [Option.map_some, Bool.not_eq_true, List.any_eq_false]
  intro z hz
  rw [← List.map_take] at hz
  obtain ⟨y, hy, rfl⟩ := List.mem_map.mp hz
  rw [eqV_str, decide_eq_false_iff_not]
  intro e
  obtain ⟨j, hj, ej⟩ := List.mem_iff_getElem.mp hy
  rw [List.length_take] at hj
  rw [List.getElem_take] at ej
  have := (List.pairwise_iff_getElem.mp h) j i (by omega) hi (by omega)
  exact this (ej.trans e)
theorem eq_strs {H : Hp} {n : Nat} {ws : List Str} : ∀ y ∈ ws.map V.str, ∀ z ∈ ws.map V.str, EqOk K H n z y (eqV z y) := fun y hy z hz => by
  obtain ⟨a, _, rfl⟩ := List.mem_map.mp hy
  obtain ⟨b, _, rfl⟩ := List.mem_map.mp hz
  exact eg_flat rfl rfl
def spPF (K : S.Frag) : Sp := Sp1 fun x H Q _ => ∃ (a : Addr) (ps : List (Addr × Pl)), x = .ref a ∧ SqH H a (ps.map fun z => .ref z.1) ∧ (∀ z ∈ ps, PlA K H z.1 z.2) ∧ 1 ≤ ps.length ∧ ps.length ≤ 6 ∧ (ps.map fun z => z.2.n).Nodup ∧ ∀ H', Same H H' → Q (.bl true) H'
theorem ok_places_fit (T : Txt K mg) : FnOk P w K mg base (L2.CX P w) 2 (He.fAd K ("places_fit", none)) (S.fdA K ("places_fit", none)) ["places"] (spPF K) := by
  have G_has_equal_items := ok_has_equal_items (P := P) (w := w) (base := base) T
  refine FunD.ok T.F_places_fit sc_places_fit (fun vs H Q E h => S.splen1 h) (fun cdv A outer s H vs Q E hr h => ?_)
  have hu := hu_of hr
  refine ⟨_, (pss_cons (ps_if (PW.pt (pw_or (pt_not (pt_val (pe_callB (S.isiTK (K := K) rfl) rfl T.n_isinstance S.boot_isinstance (pa_cons (pv 0) (pa_cons (pe_tup (pa_cons (pe_bltn (v := .ty "list") rfl T.n_list S.boot_list rfl) (pa_cons (pe_bltn (v := .ty "tuple") rfl T.n_tuple S.boot_tuple rfl) pa_nil))) pa_nil))))) (pw_or1 (pt_not (pt_chain op_le op_le pe_int (pe_callB (S.lenK (K := K) rfl) rfl T.n_len S.boot_len (pa_cons (pv 0) pa_nil)) (S.pe_globI rfl T.c_MOST_PLACES)))))) (pss_one (ps_ret pe_bl)) pss_nil)
      (pss_cons (ps_for (S.own_of rfl) rfl (S.pi_seqK (K := K) rfl (pv 0)) (pg_name (i := 1) sc_places_fit.nd rfl (by first | exact Or.inl rfl | exact Or.inr rfl))
        (pss_one (ps_if (pt_not (pt_val (pe_callB (S.isiK (K := K) rfl) rfl T.n_isinstance S.boot_isinstance (pa_cons (pv 1) (pa_cons (pe_glob (v := .ref _) rfl T.g_Place rfl) pa_nil))))) (pss_one (ps_ret pe_bl)) pss_nil)))
      (pss_one (ps_ret (pe_not (S.pe_fnS G_has_equal_items (hr.mono (by decide)) rfl T.g_has_equal_items T.F_has_equal_items.kp (kb_has_equal_items_1 T) S.pas0 (pa_cons (pe_lc (own := [("place", 1)]) (g := gName 1) (tt := tYes) rfl sc_places_fit.nd (S.pi_seqK (K := K) rfl (pv 0)) (blkOk_by (N := ["places", "place"]) (sc := defScope s_places_fit) (by decide +kernel)) (fun _ _ _ _ _ => (pg_name (i := 1) sc_places_fit.nd rfl (by first | exact Or.inl rfl | exact Or.inr rfl))) (fun _ _ _ _ _ => pts_nil) (fun _ _ _ _ _ => (S.pe_fldK (K := K) rfl (pv 1) rfl))) pa_nil) pk_nil rfl rfl)))))), ?_⟩
  obtain ⟨_, rfl, a, ps, rfl, hS, hp, l1, l6, nd, q⟩ := h
  refine ⟨_, rfl, by show 2 ≤ sizeLine; decide, fun tp htp => ?_⟩
  have s1 := Same.new (o := .tup [.ty "list", .ty "tuple"]) htp
  obtain ⟨t, ty, kt⟩ := (hS.same s1).ty (K := K)
  refine ⟨_, tp, _, _, _, true, rfl, upd_same, .cons (.ty _) (.cons (.ty _) .nil), ty, kt, _, rfl, iteF ?_⟩
  refine ⟨_, rfl, _, _, rfl, lenVX (hS.same s1).x, _, _, rfl, rfl, _, rfl, ?_⟩
  rw [List.length_map]
  refine iteY (decide_eq_true (by omega)) ⟨_, _, rfl, rfl, _, rfl, iteN (by simp; omega) ?_⟩
  refine ⟨_, rfl, a, _, rfl, (hS.same s1).x, fun J w => for_seq w (fun i σ J => Same (upd H tp (.tup [.ty "list", .ty "tuple"])) J ∧ ∃ v, σ = [some (.ref a), v]) ⟨fun _ _ h => h, _, rfl⟩ (fun i σ J _ h => h.1) ?_ ?_⟩
  · rintro i x σ J hx ⟨sJ, v, rfl⟩
    rw [List.getElem?_map] at hx
    obtain ⟨z, hz, rfl⟩ := Option.map_eq_some_iff.mp hx
    obtain ⟨dx, ez⟩ := (hp z (List.mem_of_getElem? hz)).same (s1.trans sJ)
    exact ⟨_, rfl, _, _, _, _, true, rfl, .own _, T.is_Place.ty T.cl_Place ez, T.ko_Place_Place, _, rfl, iteF ⟨sJ, _, rfl⟩⟩
  · rintro σ J ⟨sJ, v, rfl⟩
    have s2 := s1.trans sJ
    refine ⟨_, rfl, a, _, rfl, (hS.same s2).x, fun It wk D hD => lc_seq wk (fun i J' => Same J J' ∧ J' D = some (.lst (((ps.take i).map fun z => z.2.n).map V.str))) ⟨Same.new hD, upd_same⟩ (fun i J' _ h => h.1) ?_ ?_⟩
    · rintro i x J' hx ⟨sJ', eD⟩
      rw [List.getElem?_map] at hx
      obtain ⟨z, hz, rfl⟩ := Option.map_eq_some_iff.mp hx
      obtain ⟨dx, ez⟩ := ((hp z (List.mem_of_getElem? hz)).same s2).same sJ'
      refine ⟨rfl, yesT ?_⟩
      refine iteT ⟨_, rfl, z.1, _, dx, _, _, rfl, ez, T.cl_Place, T.na_Place_name, lk_name _ _ _ _, _, eD, ?_, ?_⟩
      · rw [List.length_map, List.length_map, List.length_take]
        exact Nat.lt_of_le_of_lt (show min i ps.length ≤ 100 by omega) (by decide)
      · refine ⟨Same.upd sJ' hD, ?_⟩
        rw [upd_same, List.take_add_one, hz, List.map_append, List.map_append]
        rfl
    · rintro J' ⟨sJ', eD⟩
      rw [List.length_map, List.take_length] at eD
      refine ⟨rfl, rfl, _, rfl, D, _, 0, eqV, rfl, .inl (.inl (.inl eD)), by decide, ?_, fun J2 _ => eq_strs, fun J2 s3 => ⟨_, rfl, ?_⟩⟩
      · rw [List.length_map, List.length_map]; omega
      · rw [nodup_dup nd]
        exact q J2 ((s2.trans sJ').trans s3)
/-- the nexts of these names, told by a dict -/
def spNF (K : S.Frag) : Sp := Sp2 fun x y H Q _ => ∃ (a d : Addr) (ws : List Str) (kvs : List (Key × V)), x = .ref a ∧ y = .ref d ∧ SqH H a (ws.map V.str) ∧ H d = some (.dK kvs) ∧ ws.length < 100 ∧ kvs.length = ws.length ∧
  (∀ z ∈ ws, ∃ (t : Addr) (ns : List Str), valV kvs (.inr z) = some (.ref t) ∧ H t = some (.tup (ns.map V.str)) ∧ ns.length < 100 ∧ ns.Nodup ∧ ∀ u ∈ ns, u ∈ ws) ∧ ∀ H', Same H H' → Q (.bl true) H'
theorem any_str {ws : List Str} {z : Str} (h : z ∈ ws) : ((ws.map V.str).any fun y => eqV y (.str z)) = true := by
  rw [List.any_eq_true]
  exact ⟨_, List.mem_map.mpr ⟨z, h, rfl⟩, by rw [eqV_str]; simp⟩
theorem mem_any {ws : List Str} {z : Str} : ((ws.map V.str).any fun y => eqV y (.str z)) = decide (z ∈ ws) := by
  rw [List.any_map, Bool.eq_iff_iff]
  simp only [List.any_eq_true, Function.comp, eqV_str, decide_eq_true_eq]
  constructor
  · rintro ⟨x, h, rfl⟩
    exact h
  · intro h
    exact ⟨z, h, rfl⟩
theorem ok_nexts_fit (T : Txt K mg) : FnOk P w K mg base (L2.CX P w) 2 (He.fAd K ("nexts_fit", none)) (S.fdA K ("nexts_fit", none)) ["names", "nexts"] (spNF K) := by
  have G_has_equal_items := ok_has_equal_items (P := P) (w := w) (base := base) T
  refine FunD.ok T.F_nexts_fit sc_nexts_fit (fun vs H Q E h => S.splen2 h) (fun cdv A outer s H vs Q E hr h => ?_)
  have hu := hu_of hr
  refine ⟨_, (pss_cons (ps_if (PW.pt (pw_or (pt_not (pt_val (pe_callB (S.isiK (K := K) rfl) rfl T.n_isinstance S.boot_isinstance (pa_cons (pv 1) (pa_cons (pe_bltn (v := .ty "dict") rfl T.n_dict S.boot_dict rfl) pa_nil))))) (pw_or1 (pt_cmpR op_ne (pe_callB call_lenD rfl T.n_len S.boot_len (pa_cons (pv 1) pa_nil)) (pe_callB (S.lenK (K := K) rfl) rfl T.n_len S.boot_len (pa_cons (pv 0) pa_nil)) (nomark _))))) (pss_one (ps_ret pe_bl)) pss_nil)
      (pss_cons (ps_for (S.own_of rfl) rfl (S.pi_seqK (K := K) rfl (pv 0)) (pg_name (i := 2) sc_nexts_fit.nd rfl (by first | exact Or.inl rfl | exact Or.inr rfl))
        (pss_cons (ps_if (pt_cmp (pc_dnotin hu (pv 2) (pv 1))) (pss_one (ps_ret pe_bl)) pss_nil)
      (pss_cons (ps_set (i := 3) sc_nexts_fit.nd rfl (by first | exact Or.inl rfl | exact Or.inr rfl) (pe_dget hu (pv 1) (pv 2) (fun _ _ => rfl)))
      (pss_cons (ps_if (PW.pt (pw_or (pt_not (pt_val (pe_callB (S.isiK (K := K) rfl) rfl T.n_isinstance S.boot_isinstance (pa_cons (pv 3) (pa_cons (pe_bltn (v := .ty "tuple") rfl T.n_tuple S.boot_tuple rfl) pa_nil))))) (pw_or1 (pt_val (S.pe_fnS G_has_equal_items (hr.mono (by decide)) rfl T.g_has_equal_items T.F_has_equal_items.kp (kb_has_equal_items_1 T) S.pas0 (pa_cons (pv 3) pa_nil) pk_nil rfl rfl))))) (pss_one (ps_ret pe_bl)) pss_nil)
      (pss_one (ps_for (S.own_of rfl) rfl (S.pi_seqK (K := K) rfl (pv 3)) (pg_name (i := 4) sc_nexts_fit.nd rfl (by first | exact Or.inl rfl | exact Or.inr rfl))
        (pss_one (ps_if (pt_cmpR (S.notInGK (K := K) rfl (S.hu64 hr)) (pv 4) (pv 0) rfl) (pss_one (ps_ret pe_bl)) pss_nil))))))))
      (pss_one (ps_ret pe_bl)))), ?_⟩
  obtain ⟨_, _, rfl, a, d, ws, kvs, rfl, rfl, hS, hd, lw, lk, hr', q⟩ := h
  refine ⟨_, rfl, _, _, _, _, true, rfl, .ty _, .base (.dK hd), kit_ty (by decide +kernel), _, rfl, iteF ?_⟩
  refine ⟨_, rfl, d, kvs, rfl, hd, _, rfl, _, _, rfl, lenVX hS.x, rfl, _, rfl, ?_⟩
  rw [List.length_map]
  refine iteN (by simp [lk]) ?_
  refine ⟨_, rfl, a, _, rfl, hS.x, fun J w => for_seq w (fun i σ J => Same H J ∧ ∃ v1 v2 v3, σ = [some (.ref a), some (.ref d), v1, v2, v3]) ⟨fun _ _ h => h, _, _, _, rfl⟩ (fun i σ J _ h => h.1) ?_ ?_⟩
  · rintro i x σ J hx ⟨sJ, v1, v2, v3, rfl⟩
    rw [List.getElem?_map] at hx
    obtain ⟨z, hz, rfl⟩ := Option.map_eq_some_iff.mp hx
    obtain ⟨t, ns, e1, e2, ln, nn, sub⟩ := hr' z (List.mem_of_getElem? hz)
    have g : DGet J d (.str z) (some (.ref t)) := by
      have := DGet.k (k := .inr z) (sJ _ _ hd)
      rw [e1] at this
      exact this
    have et := sJ _ _ e2
    refine ⟨_, rfl, _, rfl, d, _, rfl, g, _, rfl, iteF ?_⟩
    refine ⟨_, rfl, _, rfl, d, _, rfl, g, ?_⟩
    refine ⟨_, rfl, _, _, _, _, true, rfl, .ty _, .base (.tup et), kit_ty (by decide +kernel), _, rfl, iteF ?_⟩
    refine ⟨_, rfl, rfl, rfl, _, rfl, t, _, 0, eqV, rfl, .inr (.inl (.inl et)), by decide, by rw [List.length_map]; omega, fun J2 _ => eq_strs, fun J2 s2 => ⟨_, rfl, ?_⟩⟩
    rw [nodup_dup nn]
    refine iteF ⟨_, rfl, t, _, rfl, .inr (.inl (.inl (s2 _ _ et))), fun It wk => for_seq wk (fun i σ J' => Same J2 J' ∧ ∃ v3, σ = [some (.ref a), some (.ref d), some (.str z), some (.ref t), v3]) ⟨fun _ _ h => h, _, rfl⟩ (fun i σ J' _ h => h.1) ?_ ?_⟩
    · rintro j y σ J' hy ⟨sJ', v3, rfl⟩
      rw [List.getElem?_map] at hy
      obtain ⟨u, hu', rfl⟩ := Option.map_eq_some_iff.mp hy
      have um := sub u (List.mem_of_getElem? hu')
      refine ⟨_, rfl, _, rfl, a, _, 0, fun y => eqV y (.str u), rfl, (hS.same ((sJ.trans s2).trans sJ')).x, by decide, fun y hy => ?_, _, rfl, ?_⟩
      · obtain ⟨b, _, rfl⟩ := List.mem_map.mp hy
        exact eg_flat rfl rfl
      · rw [any_str um]
        exact iteN (by decide) ⟨sJ', _, rfl⟩
    · rintro σ J' ⟨sJ', v3, rfl⟩
      exact ⟨(sJ.trans s2).trans sJ', _, _, _, rfl⟩
  · rintro σ J ⟨sJ, v1, v2, v3, rfl⟩
    exact q J sJ
end
end W

namespace W
open PySem PySem.Spec PyProof.Rows L2
section
variable {P : Program} {w : World} {K : S.Frag} {mg : Str → Option Value} {base : Heap}
open S
theorem ok_BadProgram___init__ (T : Txt K mg) : FnOk P w K mg base (L2.CX P w) 1 (He.fAd K ("BadProgram", some "__init__")) (S.fdA K ("BadProgram", some "__init__")) ["self", "why"] (sp_err (He.ga K "BadProgram") "why") := by
  refine FunD.ok T.F_BadProgram___init__ sc_BadProgram___init__ (fun vs H Q E h => S.splen2 h) (fun cdv A outer s H vs Q E hr h => ?_)
  have hu := hu_of hr
  refine ⟨_, (pss_one (S.ps_ostK (K := K) rfl (pv 0) (pv 1) rfl)), ?_⟩
  obtain ⟨_, y, rfl, a, rfl, ha, k⟩ := h
  exact ⟨_, rfl, _, rfl, a, _, rfl, T.ox_BadProgram, T.xn_BadProgram_why, .inl ⟨ha, k⟩⟩
theorem ok_NoPlace___init__ (T : Txt K mg) : FnOk P w K mg base (L2.CX P w) 1 (He.fAd K ("NoPlace", some "__init__")) (S.fdA K ("NoPlace", some "__init__")) ["self", "name"] (sp_err (He.ga K "NoPlace") "name") := by
  refine FunD.ok T.F_NoPlace___init__ sc_NoPlace___init__ (fun vs H Q E h => S.splen2 h) (fun cdv A outer s H vs Q E hr h => ?_)
  have hu := hu_of hr
  refine ⟨_, (pss_one (S.ps_ostK (K := K) rfl (pv 0) (pv 1) rfl)), ?_⟩
  obtain ⟨_, y, rfl, a, rfl, ha, k⟩ := h
  exact ⟨_, rfl, _, rfl, a, _, rfl, T.ox_NoPlace, T.xn_NoPlace_name, .inl ⟨ha, k⟩⟩
/-- a row: where its object stands, its place, where its nexts stand, its nexts -/
structure Rw where
  a : Addr
  d : Pl
  ta : Addr
  nx : List Str
def rNames (rows : List Rw) : List Str := rows.map fun r => r.d.n
def fldG (l u k : Addr) (s : Str) : List (Str × V) := [("places", .ref l), ("names", .ref u), ("start", .str s), ("links", .ref k)]
def RwA (K : S.Frag) (H : Hp) (r : Rw) : Prop := PlA K H r.a r.d ∧ H r.ta = some (.tup (r.nx.map V.str))
/-- a program stands at p -/
structure PgF (K : S.Frag) (H : Hp) (p dx l u k : Addr) (rows : List Rw) (s : Str) : Prop where
  at_ : H p = some (.ins (He.ga K "Program") dx (fldG l u k s))
  pl : H l = some (.lst (rows.map fun r => .ref r.a))
  nm : H u = some (.tup ((rNames rows).map V.str))
  lk : H k = some (.dK (rows.map fun r => (.inr r.d.n, .ref r.ta)))
  rw_ : ∀ r ∈ rows, RwA K H r
def PgAt (K : S.Frag) (H : Hp) (p : Addr) (rows : List Rw) (s : Str) : Prop := ∃ dx l u k, PgF K H p dx l u k rows s
theorem RwA.same {H H' : Hp} {r : Rw} (h : RwA K H r) (e : Same H H') : RwA K H' r := ⟨h.1.same e, e _ _ h.2⟩
theorem PgF.same {H H' : Hp} {p dx l u k : Addr} {rows : List Rw} {s : Str} (h : PgF K H p dx l u k rows s) (e : Same H H') : PgF K H' p dx l u k rows s :=
  ⟨e _ _ h.at_, e _ _ h.pl, e _ _ h.nm, e _ _ h.lk, fun r hr => (h.rw_ r hr).same e⟩
theorem PgAt.same {H H' : Hp} {p : Addr} {rows : List Rw} {s : Str} (h : PgAt K H p rows s) (e : Same H H') : PgAt K H' p rows s := let ⟨dx, l, u, k, f⟩ := h; ⟨dx, l, u, k, f.same e⟩
/-- all but p stands -/
def Kp (p : Addr) (H H' : Hp) : Prop := ∀ b o, b ≠ p → H b = some o → H' b = some o
theorem Kp.trans {p : Addr} {H H1 H2 : Hp} (x : Kp p H H1) (y : Kp p H1 H2) : Kp p H H2 := fun b o n h => y b o n (x b o n h)
theorem Kp.of {p : Addr} {H H' : Hp} (s : Same H H') : Kp p H H' := fun b o _ h => s b o h
theorem Kp.put {p : Addr} {H : Hp} {o : HO} : Kp p H (upd H p o) := fun b u n h => by rw [upd_ne n]; exact h
/-- right rows: distinct right names, their nexts among them -/
structure okRows (rows : List Rw) : Prop where
  l1 : 1 ≤ rows.length
  l6 : rows.length ≤ 6
  nd : (rNames rows).Nodup
  pl : ∀ r ∈ rows, isNm r.d.n = true ∧ 1 ≤ r.d.l ∧ r.d.l ≤ r.d.m ∧ r.d.m ≤ 6
  nx : ∀ r ∈ rows, r.nx.Nodup ∧ ∀ z ∈ r.nx, z ∈ rNames rows
theorem okRows.nxl {rows : List Rw} (o : okRows rows) {r : Rw} (h : r ∈ rows) : r.nx.length < 100 := by
  have := nodup_le (o.nx r h).1 (o.nx r h).2
  have l6 := o.l6
  unfold rNames at this
  rw [List.length_map] at this
  omega
theorem putK_new {kvs : List (Key × V)} {k : Key} {v : V} (h : ∀ q ∈ kvs, q.1 ≠ k) : putK kvs k v = kvs ++ [(k, v)] := by
  unfold putK
  rw [if_neg]
  rw [List.any_eq_true]
  rintro ⟨q, hq, e⟩
  exact h q hq (by simpa using e)
theorem get_lt {α : Type} {l : List α} {i : Nat} {x : α} (h : l[i]? = some x) : i < l.length := (List.getElem?_eq_some_iff.mp h).1
/-- the key at a place is none of those before it -/
theorem nodup_take {ws : List Str} {i : Nat} {z : Str} (nd : ws.Nodup) (h : ws[i]? = some z) : z ∉ ws.take i := by
  intro hm
  obtain ⟨j, hj, ej⟩ := List.mem_iff_getElem.mp hm
  rw [List.length_take] at hj
  rw [List.getElem_take] at ej
  obtain ⟨hi, ei⟩ := List.getElem?_eq_some_iff.mp h
  exact (List.pairwise_iff_getElem.mp nd) j i (by omega) hi (by omega) (ej.trans ei.symm)
def spProg (K : S.Frag) : Sp := Sp4 fun self x y z H Q _ => ∃ (p dx a d : Addr) (rows : List Rw) (kvs : List (Key × V)) (s : Str), self = .ref p ∧ H p = some (.ins (He.ga K "Program") dx []) ∧ x = .ref a ∧ SqH H a (rows.map fun r => .ref r.a) ∧ y = .ref d ∧ H d = some (.dK kvs) ∧
  kvs.length = rows.length ∧ okRows rows ∧ (∀ r ∈ rows, valV kvs (.inr r.d.n) = some (.ref r.ta) ∧ RwA K H r) ∧ ((z = .non ∧ (rNames rows)[0]? = some s) ∨ (z = .str s ∧ s ∈ rNames rows)) ∧
  ∀ H', Kp p H H' → PgAt K H' p rows s → Q .non H'
theorem ok_Program___init__ (T : Txt K mg) : FnOk P w K mg base (L2.CX P w) 3 (He.fAd K ("Program", some "__init__")) (S.fdA K ("Program", some "__init__")) ["self", "places", "nexts", "start"] (spProg K) := by
  have G_places_fit := ok_places_fit (P := P) (w := w) (base := base) T
  have G_BadProgram___init__ := ok_BadProgram___init__ (P := P) (w := w) (base := base) T
  have G_nexts_fit := ok_nexts_fit (P := P) (w := w) (base := base) T
  refine FunD.ok T.F_Program___init__ sc_Program___init__ (fun vs H Q E h => S.splen4 h) (fun cdv A outer s H vs Q E hr h => ?_)
  have hu := hu_of hr
  refine ⟨_, (pss_cons (ps_if (pt_not (pt_val (S.pe_fnS G_places_fit (hr.mono (by decide)) rfl T.g_places_fit T.F_places_fit.kp (kb_places_fit_1 T) S.pas0 (pa_cons (pv 1) pa_nil) pk_nil rfl rfl))) (pss_one (S.ps_raiseO rfl (takes_of rfl rfl rfl rfl) T.ox_BadProgram T.xi_BadProgram T.xt_BadProgram G_BadProgram___init__ (hr.mono (by decide)) (kb_BadProgram___init___2 T) rfl T.g_BadProgram (pa_cons pe_str pa_nil))) pss_nil)
      (pss_cons (ps_setLc (i := 4) (own := [("place", 5)]) (g := gName 5) (tt := tYes) rfl sc_Program___init__.nd rfl rfl (sw_true rfl rfl rfl (by decide +kernel)) (S.pi_seqK (K := K) rfl (pv 1)) (blkOk_by (N := ["self", "places", "nexts", "start", "names", "place", "name"]) (sc := defScope s_Program___init__) (by decide +kernel)) (fun _ _ _ _ _ => (pg_name (i := 5) sc_Program___init__.nd rfl (by first | exact Or.inl rfl | exact Or.inr rfl))) (fun _ _ _ _ _ => pts_nil) (fun _ _ _ _ _ => (S.pe_fldK (K := K) rfl (pv 5) rfl)))
      (pss_cons (ps_if (pt_not (pt_val (S.pe_fnS G_nexts_fit (hr.mono (by decide)) rfl T.g_nexts_fit T.F_nexts_fit.kp (kb_nexts_fit_2 T) S.pas0 (pa_cons (pv 4) (pa_cons (pv 2) pa_nil)) pk_nil rfl rfl))) (pss_one (S.ps_raiseO rfl (takes_of rfl rfl rfl rfl) T.ox_BadProgram T.xi_BadProgram T.xt_BadProgram G_BadProgram___init__ (hr.mono (by decide)) (kb_BadProgram___init___2 T) rfl T.g_BadProgram (pa_cons pe_str pa_nil))) pss_nil)
      (S.pss_cut (ps_if (pt_cmpR op_isN (pv 3) pe_non (nomark _)) (pss_one (ps_set (i := 3) sc_Program___init__.nd rfl (by first | exact Or.inl rfl | exact Or.inr rfl) (pe_ix (S.ixK (K := K) rfl) (pv 4) pe_int (fun _ _ => rfl)))) pss_nil)
      (pss_cons (ps_if (pt_cmpR (S.notInGK (K := K) rfl (S.hu64 hr)) (pv 3) (pv 4) rfl) (pss_one (S.ps_raiseO rfl (takes_of rfl rfl rfl rfl) T.ox_BadProgram T.xi_BadProgram T.xt_BadProgram G_BadProgram___init__ (hr.mono (by decide)) (kb_BadProgram___init___2 T) rfl T.g_BadProgram (pa_cons pe_str pa_nil))) pss_nil)
      (pss_cons (S.ps_fldK (K := K) rfl (pv 0) (pe_callTy (S.listOfK (K := K) rfl) rfl T.n_list S.boot_list (pa_cons (pv 1) pa_nil)) rfl)
      (pss_cons (S.ps_fldK (K := K) rfl (pv 0) (pe_callTy (S.tupOfK (K := K) rfl) rfl T.n_tuple S.boot_tuple (pa_cons (pv 4) pa_nil)) rfl)
      (pss_cons (S.ps_fldK (K := K) rfl (pv 0) (pv 3) rfl)
      (pss_one (S.ps_fldK (K := K) rfl (pv 0) (pe_dc (own := [("name", 6)]) (g := gName 6) (tt := tYes) rfl sc_Program___init__.nd (S.pi_seqK (K := K) rfl (pv 4)) (blkOk_by (N := ["self", "places", "nexts", "start", "names", "place", "name"]) (sc := defScope s_Program___init__) (by decide +kernel)) (fun _ _ _ _ _ => (pg_name (i := 6) sc_Program___init__.nd rfl (by first | exact Or.inl rfl | exact Or.inr rfl))) (fun _ _ _ _ _ => pts_nil) (fun _ _ _ _ _ => (pv 6)) (fun _ _ _ _ _ => (pe_dget hu (pv 2) (pv 6) (fun _ _ => rfl)))) rfl)))))))))), ?_⟩
  obtain ⟨_, x, y, z, rfl, p, dx, a, d, rows, kvs, st, rfl, hp, rfl, hS, rfl, hd, lk, ok, hrw, hst, q⟩ := h
  have hS' : SqH H a ((rows.map fun r => (r.a, r.d)).map fun z => .ref z.1) := by rw [List.map_map]; exact hS
  refine ⟨_, rfl, rfl, rfl, _, rfl, a, _, rfl, hS', fun z hz => ?_, by rw [List.length_map]; exact ok.l1, by rw [List.length_map]; exact ok.l6, by rw [List.map_map]; exact ok.nd, fun J0 s0 => ⟨_, rfl, iteF ?_⟩⟩
  · obtain ⟨r, hr', rfl⟩ := List.mem_map.mp hz
    exact (hrw r hr').2.1
  have l6 := ok.l6
  -- the names
  refine ⟨_, rfl, a, _, rfl, (hS.same s0).x, fun It wk D hD => lc_seq wk (fun i J => Same J0 J ∧ J D = some (.lst (((rNames rows).take i).map V.str))) ⟨Same.new hD, upd_same⟩ (fun i J _ h => h.1) ?_ ?_⟩
  · rintro i v J hv ⟨sJ, eD⟩
    rw [List.getElem?_map] at hv
    obtain ⟨r, hr', rfl⟩ := Option.map_eq_some_iff.mp hv
    obtain ⟨dr, er⟩ := (hrw r (List.mem_of_getElem? hr')).2.1.same (s0.trans sJ)
    refine ⟨rfl, yesT ?_⟩
    refine iteT ⟨_, rfl, r.a, _, dr, _, _, rfl, er, T.cl_Place, T.na_Place_name, lk_name _ _ _ _, _, eD, ?_, Same.upd sJ hD, ?_⟩
    · rw [List.length_map, List.length_take]
      unfold rNames
      rw [List.length_map]
      exact Nat.lt_of_le_of_lt (show min i rows.length ≤ 100 by omega) (by decide)
    · have e : (rNames rows)[i]? = some r.d.n := by unfold rNames; rw [List.getElem?_map, hr']; rfl
      rw [upd_same, List.take_add_one, e, List.map_append]
      rfl
  rintro J1 ⟨s1, eD⟩
  have eD : J1 D = some (.lst ((rNames rows).map V.str)) := by
    have e : (rows.map fun r => V.ref r.a).length = (rNames rows).length := by unfold rNames; rw [List.length_map, List.length_map]
    rw [e, List.take_length] at eD
    exact eD
  have s01 := s0.trans s1
  have ln : (rNames rows).length = rows.length := by unfold rNames; rw [List.length_map]
  -- the nexts
  refine ⟨_, rfl, _, rfl, rfl, rfl, _, _, rfl, D, d, rNames rows, kvs, rfl, rfl, .inl eD, s01 _ _ hd, by omega, by omega, fun z hz => ?_, fun J2 s2 => ⟨_, rfl, iteF ?_⟩⟩
  · obtain ⟨r, hr', rfl⟩ := List.mem_map.mp hz
    exact ⟨r.ta, r.nx, (hrw r hr').1, s01 _ _ (hrw r hr').2.2, ok.nxl hr', (ok.nx r hr').1, (ok.nx r hr').2⟩
  have s02 := s01.trans s2
  have eD2 := s2 _ _ eD
  -- the start
  have hsm : st ∈ rNames rows := by
    rcases hst with ⟨_, e⟩ | ⟨_, e⟩
    · exact List.mem_of_getElem? e
    · exact e
  refine ⟨fun τ J => J = J2 ∧ τ = [some (.ref p), some (.ref a), some (.ref d), some (.str st), some (.ref D), none, none], ?_, ?_⟩
  · refine ⟨_, rfl, rfl, _, rfl, ?_⟩
    rcases hst with ⟨rfl, e⟩ | ⟨rfl, e⟩
    · refine iteY (by simp) ⟨_, rfl, .inl ⟨D, _, _, _, rfl, rfl, .inl (.inl eD2), atI_lt (by decide) ?_, rfl, rfl⟩⟩
      show ((rNames rows).map V.str)[0]? = some (.str st)
      rw [List.getElem?_map, e]
      rfl
    · exact iteN (by simp) ⟨rfl, rfl⟩
  rintro τ J ⟨rfl, rfl⟩
  refine ⟨_, rfl, _, rfl, D, _, 0, fun y => eqV y (.str st), rfl, .inl (.inl (.inl eD2)), by decide, fun y hy => ?_, _, rfl, ?_⟩
  · obtain ⟨b, _, rfl⟩ := List.mem_map.mp hy
    exact eg_flat rfl rfl
  rw [any_str hsm]
  refine iteN (by decide) ?_
  have hp2 := s02 _ _ hp
  -- the fields
  refine ⟨_, rfl, a, _, rfl, (hS.same s02).x, fun l hl => ⟨_, rfl, p, _, dx, _, rfl, Same.new hl _ _ hp2, T.cl_Program, T.na_Program_places, (by show 0 < 1000; decide), ?_⟩⟩
  have npl : l ≠ p := (ne_of_none hp2 hl).symm
  have k1 : Kp p J (upd (upd J l (.lst (rows.map fun r => .ref r.a))) p (.ins (He.ga K "Program") dx (putF "places" (.ref l) []))) := (Kp.of (Same.new hl)).trans Kp.put
  have npD : D ≠ p := (ne_of_none (s0 _ _ hp) hD).symm
  refine ⟨_, rfl, D, _, rfl, .inl ⟨.inl (.inl (k1 _ _ npD eD2)), fun u hu' => ⟨_, rfl, p, _, dx, _, rfl, Same.new hu' _ _ upd_same, T.cl_Program, T.na_Program_names, (by show 1 < 1000; decide), ?_⟩⟩⟩
  have npu : u ≠ p := (ne_of_none upd_same hu').symm
  refine ⟨_, rfl, _, rfl, p, _, dx, _, rfl, upd_same, T.cl_Program, T.na_Program_start, (by show 2 < 1000; decide), ?_⟩
  generalize hJ3 : upd (upd (upd (upd (upd J l (.lst (rows.map fun r => .ref r.a))) p (.ins (He.ga K "Program") dx (putF "places" (.ref l) []))) u (.tup ((rNames rows).map V.str))) p (.ins (He.ga K "Program") dx (putF "names" (.ref u) (putF "places" (.ref l) [])))) p (.ins (He.ga K "Program") dx (putF "start" (.str st) (putF "names" (.ref u) (putF "places" (.ref l) [])))) = J3
  have e3p : J3 p = some (.ins (He.ga K "Program") dx (putF "start" (.str st) (putF "names" (.ref u) (putF "places" (.ref l) [])))) := by rw [← hJ3]; exact upd_same
  have nlu : l ≠ u := ne_of_none (by rw [upd_ne npl]; exact upd_same) hu'
  have k3 : Kp p J J3 := by rw [← hJ3]; exact (((k1.trans (Kp.of (Same.new hu'))).trans Kp.put).trans Kp.put)
  have e3l : J3 l = some (.lst (rows.map fun r => .ref r.a)) := by rw [← hJ3, upd_ne npl, upd_ne npl, upd_ne nlu, upd_ne npl, upd_same]
  have e3u : J3 u = some (.tup ((rNames rows).map V.str)) := by rw [← hJ3, upd_ne npu, upd_ne npu, upd_same]
  have npd : d ≠ p := ne_of hd hp (by intro z; cases z)
  have e3D := k3 _ _ npD eD2
  have e3d := k3 _ _ npd (s02 _ _ hd)
  clear hJ3
  refine ⟨_, rfl, D, _, rfl, .inl (.inl (.inl e3D)), fun It wk k hk => dc_it wk (fun i J' => Same J3 J' ∧ J' k = some (.dK ((rows.take i).map fun r => (.inr r.d.n, .ref r.ta)))) ⟨Same.new hk, upd_same⟩ (fun i J' _ h => h.1) ?_ ?_⟩
  · rintro i v J' J'' hi ⟨sJ, ek⟩ ⟨rfl, hv⟩
    rw [List.getElem?_map] at hv
    obtain ⟨z, hz, rfl⟩ := Option.map_eq_some_iff.mp hv
    obtain ⟨r, hr', rfl⟩ : ∃ r, rows[i]? = some r ∧ r.d.n = z := by
      unfold rNames at hz
      rw [List.getElem?_map] at hz
      exact Option.map_eq_some_iff.mp hz
    have g : DGet J'' d (.str r.d.n) (some (.ref r.ta)) := by
      have := DGet.k (k := .inr r.d.n) (sJ _ _ e3d)
      rw [(hrw r (List.mem_of_getElem? hr')).1] at this
      exact this
    refine ⟨rfl, yesT ?_⟩
    refine iteT ⟨_, rfl, _, rfl, _, rfl, d, _, rfl, g, _, .inr r.d.n, rfl, ek, ?_, Same.upd sJ hk, ?_⟩
    · rw [List.length_map, List.length_take]
      exact Nat.lt_of_le_of_lt (show min i rows.length ≤ 100 by omega) (by decide)
    · rw [upd_same, putK_new, List.take_add_one, hr', List.map_append]
      · rfl
      · intro q' hq' e
        obtain ⟨r', hr2, rfl⟩ := List.mem_map.mp hq'
        have en : r'.d.n = r.d.n := by injection e
        refine nodup_take ok.nd hz ?_
        rw [← en]
        unfold rNames
        rw [← List.map_take]
        exact List.mem_map.mpr ⟨r', hr2, rfl⟩
  · rintro J4 ⟨s4, ek⟩
    have ek : J4 k = some (.dK (rows.map fun r => (.inr r.d.n, .ref r.ta))) := by
      have e : ((rNames rows).map V.str).length = rows.length := by rw [List.length_map, ln]
      rw [e, List.take_length] at ek
      exact ek
    have npk : k ≠ p := (ne_of_none e3p hk).symm
    refine ⟨_, rfl, p, _, dx, _, rfl, s4 _ _ e3p, T.cl_Program, T.na_Program_links, (by show 3 < 1000; decide), q _ ((Kp.of s02).trans (k3.trans ((Kp.of s4).trans Kp.put))) ⟨dx, l, u, k, upd_same, ?_, ?_, ?_, fun r hr' => ?_⟩⟩
    · rw [upd_ne npl]; exact s4 _ _ e3l
    · rw [upd_ne npu]; exact s4 _ _ e3u
    · rw [upd_ne npk]; exact ek
    · obtain ⟨⟨dr, er⟩, et⟩ := (hrw r hr').2
      have n1 : r.a ≠ p := ne_of er hp (by intro z; injection z with _ _ z3; exact absurd z3 (List.cons_ne_nil _ _))
      have n2 : r.ta ≠ p := ne_of et hp (by intro z; cases z)
      exact ⟨⟨dr, ((Kp.of s02).trans (k3.trans ((Kp.of s4).trans Kp.put))) _ _ n1 er⟩, ((Kp.of s02).trans (k3.trans ((Kp.of s4).trans Kp.put))) _ _ n2 et⟩
def spGet (K : S.Frag) : Sp := Sp2 fun x y H Q _ => ∃ (p : Addr) (rows : List Rw) (s : Str) (r : Rw), x = .ref p ∧ PgAt K H p rows s ∧ y = .str r.d.n ∧ r ∈ rows ∧ (rNames rows).Nodup ∧ Q (.ref r.a) H
theorem lg_places (l u k : Addr) (s : Str) : (fldG l u k s).lookup ("places" : Str) = some (.ref l) := by
  unfold fldG
  rw [lookup_put, if_pos rfl]
theorem lg_names (l u k : Addr) (s : Str) : (fldG l u k s).lookup ("names" : Str) = some (.ref u) := by
  unfold fldG
  rw [lookup_put, if_neg (by decide +kernel), lookup_put, if_pos rfl]
theorem lg_start (l u k : Addr) (s : Str) : (fldG l u k s).lookup ("start" : Str) = some (.str s) := by
  unfold fldG
  rw [lookup_put, if_neg (by decide +kernel), lookup_put, if_neg (by decide +kernel), lookup_put, if_pos rfl]
theorem lg_links (l u k : Addr) (s : Str) : (fldG l u k s).lookup ("links" : Str) = some (.ref k) := by
  unfold fldG
  rw [lookup_put, if_neg (by decide +kernel), lookup_put, if_neg (by decide +kernel), lookup_put, if_neg (by decide +kernel), lookup_put, if_pos rfl]
theorem nm_one {rows : List Rw} (nd : (rNames rows).Nodup) {r r' : Rw} (h : r ∈ rows) (h' : r' ∈ rows) (e : r.d.n = r'.d.n) : r = r' := by
  unfold rNames at nd
  obtain ⟨i, hi, rfl⟩ := List.mem_iff_getElem.mp h
  obtain ⟨j, hj, rfl⟩ := List.mem_iff_getElem.mp h'
  have q := List.pairwise_iff_getElem.mp nd
  simp only [List.length_map, List.getElem_map] at q
  rcases Nat.lt_trichotomy i j with g | g | g
  · exact absurd e (q i j hi hj g)
  · subst g; rfl
  · exact absurd e.symm (q j i hj hi g)
theorem ok_Program___getitem__ (T : Txt K mg) : FnOk P w K mg base (L2.CX P w) 3 (He.fAd K ("Program", some "__getitem__")) (S.fdA K ("Program", some "__getitem__")) ["self", "at"] (spGet K) := by
  have G_NoPlace___init__ := ok_NoPlace___init__ (P := P) (w := w) (base := base) T
  refine FunD.ok T.F_Program___getitem__ sc_Program___getitem__ (fun vs H Q E h => S.splen2 h) (fun cdv A outer s H vs Q E hr h => ?_)
  have hu := hu_of hr
  refine ⟨_, (pss_cons (ps_for (S.own_of rfl) rfl (S.pi_seqK (K := K) rfl (S.pe_fldK (K := K) rfl (pv 0) rfl)) (pg_name (i := 2) sc_Program___getitem__.nd rfl (by first | exact Or.inl rfl | exact Or.inr rfl))
        (pss_one (ps_if (pt_cmpR (S.eqGK (K := K) rfl (S.hu64 hr)) (S.pe_fldK (K := K) rfl (pv 2) rfl) (pv 1) (nomark _)) (pss_one (ps_ret (pv 2))) pss_nil)))
      (pss_one (S.ps_raiseO rfl (takes_of rfl rfl rfl rfl) T.ox_NoPlace T.xi_NoPlace T.xt_NoPlace G_NoPlace___init__ (hr.mono (by decide)) (kb_NoPlace___init___2 T) rfl T.g_NoPlace (pa_cons (pv 1) pa_nil)))), ?_⟩
  obtain ⟨_, _, rfl, p, rows, st, r, rfl, ⟨dx, l, u, k, F⟩, rfl, hr', nd, q⟩ := h
  refine ⟨_, rfl, p, _, dx, _, _, rfl, F.at_, T.cl_Program, T.na_Program_places, lg_places _ _ _ _, l, _, rfl, .inl (.inl (.inl F.pl)), fun It wk => for_seq wk (fun i σ J => J = H ∧ (∃ v, σ = [some (.ref p), some (.str r.d.n), v]) ∧ ∀ r' ∈ rows.take i, r' ≠ r) ⟨rfl, ⟨_, rfl⟩, fun _ h => by simp at h⟩ (fun i σ J _ h => by rw [h.1]; exact fun _ _ z => z) ?_ ?_⟩
  · rintro i x σ J hx ⟨rfl, ⟨v, rfl⟩, no⟩
    rw [List.getElem?_map] at hx
    obtain ⟨r1, h1, rfl⟩ := Option.map_eq_some_iff.mp hx
    have m1 := List.mem_of_getElem? h1
    obtain ⟨⟨dr, er⟩, _⟩ := F.rw_ r1 m1
    refine ⟨_, rfl, r1.a, _, dr, _, _, rfl, er, T.cl_Place, T.na_Place_name, lk_name _ _ _ _, _, rfl, 0, _, by decide, eg_str.eq, _, rfl, ?_⟩
    by_cases c : r1.d.n = r.d.n
    · have e := nm_one nd m1 hr' c
      subst e
      exact iteY (by simp) ⟨_, rfl, q⟩
    · refine iteN (by simpa using c) ⟨rfl, ⟨_, rfl⟩, fun r' h e => ?_⟩
      rw [List.take_add_one, h1] at h
      rcases List.mem_append.mp h with h | h
      · exact no r' h e
      · rw [show r' = r1 by simpa using h] at e
        exact c (by rw [e])
  · rintro σ J ⟨rfl, ⟨v, rfl⟩, no⟩
    rw [List.length_map, List.take_length] at no
    exact absurd rfl (no r hr')
end
end W

namespace W
open PySem PySem.Spec PyProof.Rows L2
section
variable {P : Program} {w : World} {K : S.Frag} {mg : Str → Option Value} {base : Heap}
open S
/-! equal programs -/
def vw (rows : List Rw) : List (Pl × List Str) := rows.map fun r => (r.d, r.nx)
def tupOf (H : Hp) : V → List V
  | .ref a => match H a with
    | some (.tup xs) => xs
    | _ => []
  | _ => []
def lkOf (rows : List Rw) : List (Key × V) := rows.map fun r => (.inr r.d.n, .ref r.ta)
theorem valV_rows {rows : List Rw} (nd : (rNames rows).Nodup) {r : Rw} (h : r ∈ rows) : valV (lkOf rows) (.inr r.d.n) = some (.ref r.ta) := by
  unfold valV
  cases e : (lkOf rows).find? fun kv => decide (kv.1 = Sum.inr r.d.n) with
  | none =>
    have := List.find?_eq_none.mp e (.inr r.d.n, .ref r.ta) (List.mem_map.mpr ⟨r, h, rfl⟩)
    simp at this
  | some kv =>
    have h1 := List.find?_some e
    obtain ⟨r', hr', rfl⟩ := List.mem_map.mp (List.mem_of_find?_eq_some e)
    have h2 : r'.d.n = r.d.n := by simpa using h1
    have := nm_one nd hr' h h2
    subst this
    rfl
theorem valV_out {rows : List Rw} {z : Str} {y : V} (h : valV (lkOf rows) (.inr z) = some y) : ∃ r ∈ rows, r.d.n = z ∧ y = .ref r.ta := by
  unfold valV at h
  obtain ⟨kv, e, rfl⟩ := Option.map_eq_some_iff.mp h
  have h1 := List.find?_some e
  obtain ⟨r', hr', rfl⟩ := List.mem_map.mp (List.mem_of_find?_eq_some e)
  exact ⟨r', hr', by simpa using h1, rfl⟩
def fTup (H : Hp) (x y : V) : Bool := decide (tupOf H x = tupOf H y)
theorem tupOf_at {H : Hp} {a : Addr} {xs : List V} (h : H a = some (.tup xs)) : tupOf H (.ref a) = xs := by
  simp only [tupOf, h]
theorem names_at {rows rows' : List Rw} (e : rNames rows = rNames rows') {i : Nat} {r : Rw} (h : rows[i]? = some r) : ∃ r', rows'[i]? = some r' ∧ r'.d.n = r.d.n := by
  have : (rNames rows')[i]? = some r.d.n := by
    rw [← e]
    unfold rNames
    rw [List.getElem?_map, h]
    rfl
  unfold rNames at this
  rw [List.getElem?_map] at this
  exact Option.map_eq_some_iff.mp this
theorem hits_rows {H : Hp} {rows rows' : List Rw} (nd : (rNames rows').Nodup) (e : rNames rows = rNames rows') (h : ∀ r ∈ rows, H r.ta = some (.tup (r.nx.map V.str))) (h' : ∀ r ∈ rows', H r.ta = some (.tup (r.nx.map V.str))) :
    hitsV (fTup H) (lkOf rows) (lkOf rows') = decide (rows.map (·.nx) = rows'.map (·.nx)) := by
  unfold hitsV
  rw [Bool.eq_iff_iff, List.all_eq_true, decide_eq_true_eq]
  have one : ∀ (i : Nat) (r r' : Rw), rows[i]? = some r → rows'[i]? = some r' → ((match valV (lkOf rows') (.inr r.d.n) with | some y => fTup H (.ref r.ta) y | none => false) = true ↔ r.nx = r'.nx) := fun i r r' hr hr' => by
    obtain ⟨r2, e2, n2⟩ := names_at e hr
    rw [hr'] at e2
    cases e2
    rw [← n2, valV_rows nd (List.mem_of_getElem? hr')]
    show fTup H (.ref r.ta) (.ref r'.ta) = true ↔ _
    unfold fTup
    rw [decide_eq_true_eq, tupOf_at (h r (List.mem_of_getElem? hr)), tupOf_at (h' r' (List.mem_of_getElem? hr'))]
    exact ⟨mapS_inj, fun z => by rw [z]⟩
  have ln : rows.length = rows'.length := by
    have := congrArg List.length e
    unfold rNames at this
    rwa [List.length_map, List.length_map] at this
  constructor
  · intro al
    refine List.ext_getElem? fun i => ?_
    rw [List.getElem?_map, List.getElem?_map]
    cases hr : rows[i]? with
    | none =>
      rw [List.getElem?_eq_none (by have := List.getElem?_eq_none_iff.mp hr; omega)]
    | some r =>
      obtain ⟨r', e', _⟩ := names_at e hr
      rw [e']
      have := (one i r r' hr e').mp (al (.inr r.d.n, .ref r.ta) (List.mem_map.mpr ⟨r, List.mem_of_getElem? hr, rfl⟩))
      simp [this]
  · rintro eq p hp
    obtain ⟨r, hm, rfl⟩ := List.mem_map.mp hp
    obtain ⟨i, hi⟩ := List.getElem?_of_mem hm
    obtain ⟨r', e', _⟩ := names_at e hi
    refine (one i r r' hi e').mpr ?_
    have := congrArg (fun l => l[i]?) eq
    simp only [List.getElem?_map, hi, e', Option.map_some, Option.some.injEq] at this
    exact this
theorem eg_key {H : Hp} {k k' : Addr} {d d' : Pl} (h : H k = some (.tup [.str d.n, .int d.l, .int d.m, .bl d.t])) (h' : H k' = some (.tup [.str d'.n, .int d'.l, .int d'.m, .bl d'.t])) : EqG K H 5 (.ref k) (.ref k') (decide (d = d')) := by
  have q := eg_dat (K := K) (H := H) (.tup (.inl (.inl h)) (.cons (.str _) (.cons (.int _) (.cons (.int _) (.cons (.bl _) .nil))))) (.tup (.inl (.inl h')) (.cons (.str _) (.cons (.int _) (.cons (.int _) (.cons (.bl _) .nil))))) rfl rfl
  refine (q.to ?_).up (by simp [PyData.depth, PyData.depthAll])
  obtain ⟨a, b, c, e⟩ := d
  obtain ⟨a', b', c', e'⟩ := d'
  simp only [PyData.eqv, PyData.eqvAll]
  rw [Bool.eq_iff_iff]
  simp
def spPgEq (K : S.Frag) : Sp := Sp2 fun x y H Q _ => ∃ (p p' : Addr) (rows rows' : List Rw) (s s' : Str), x = .ref p ∧ y = .ref p' ∧ PgAt K H p rows s ∧ PgAt K H p' rows' s' ∧ okRows rows ∧ okRows rows' ∧
  ∀ H', Same H H' → Q (.bl (decide (vw rows = vw rows' ∧ s = s'))) H'
theorem vw_names {rows rows' : List Rw} (h : vw rows = vw rows') : rNames rows = rNames rows' := by
  have := congrArg (List.map fun z : Pl × List Str => z.1.n) h
  unfold vw at this
  rw [List.map_map, List.map_map] at this
  exact this
theorem vw_nx {rows rows' : List Rw} (h : vw rows = vw rows') : rows.map (·.nx) = rows'.map (·.nx) := by
  have := congrArg (List.map Prod.snd) h
  unfold vw at this
  rw [List.map_map, List.map_map] at this
  exact this
theorem vw_of {rows rows' : List Rw} (hl : rows.length = rows'.length) (h1 : ∀ (i : Nat) (r r' : Rw), i < rows.length → rows[i]? = some r → rows'[i]? = some r' → r.d = r'.d) (h2 : rows.map (·.nx) = rows'.map (·.nx)) : vw rows = vw rows' := by
  unfold vw
  refine List.ext_getElem? fun i => ?_
  rw [List.getElem?_map, List.getElem?_map]
  by_cases c : i < rows.length
  · have e1 := List.getElem?_eq_getElem c
    have e2 := List.getElem?_eq_getElem (show i < rows'.length by omega)
    have n := congrArg (fun l => l[i]?) h2
    simp only [List.getElem?_map, e1, e2, Option.map_some, Option.some.injEq] at n
    rw [e1, e2]
    simp [h1 i _ _ c e1 e2, n]
  · rw [List.getElem?_eq_none (by omega), List.getElem?_eq_none (by omega)]
end
end W

namespace W
open PySem PySem.Spec PyProof.Rows L2
section
variable {P : Program} {w : World} {K : S.Frag} {mg : Str → Option Value} {base : Heap}
open S
/-! draws go on, all else stands -/
structure Dw (H H' : Hp) : Prop where
  kp : ∀ b o, (∀ n : Int, o ≠ .lst [.int n]) → H b = some o → H' b = some o
  dr : ∀ (b : Addr) (n : Int), H b = some (.lst [.int n]) → ∃ m : Int, H' b = some (.lst [.int m])
theorem Dw.refl {H : Hp} : Dw H H := ⟨fun _ _ _ h => h, fun _ n h => ⟨n, h⟩⟩
theorem Dw.trans {H H1 H2 : Hp} (x : Dw H H1) (y : Dw H1 H2) : Dw H H2 := ⟨fun b o n h => y.kp b o n (x.kp b o n h), fun b n h => let ⟨m, e⟩ := x.dr b n h; y.dr b m e⟩
theorem Dw.of {H H' : Hp} (s : Same H H') : Dw H H' := ⟨fun b o _ h => s b o h, fun b n h => ⟨n, s _ _ h⟩⟩
theorem Dw.new {H : Hp} {p : Addr} {o : HO} (h : H p = none) : Dw H (upd H p o) := Dw.of (Same.new h)
theorem Dw.take {H : Hp} {a : Addr} {n m : Int} (h : H a = some (.lst [.int n])) : Dw H (upd H a (.lst [.int m])) := by
  refine ⟨fun b o no hb => ?_, fun b n' hb => ?_⟩
  · by_cases e : b = a
    · subst e
      rw [h] at hb
      cases hb
      exact absurd rfl (no n)
    · rw [upd_ne e]; exact hb
  · by_cases e : b = a
    · subst e
      exact ⟨m, upd_same⟩
    · exact ⟨n', by rw [upd_ne e]; exact hb⟩
theorem Dw.dr_ {H H' : Hp} {a : Addr} {n : Int} (h : H a = some (.lst [.int n])) (d : Dr a H H') : Dw H H' := by
  refine ⟨fun b o no hb => ?_, fun b n' hb => ?_⟩
  · by_cases e : b = a
    · subst e
      rw [h] at hb
      cases hb
      exact absurd rfl (no n)
    · exact d.kp b o e hb
  · by_cases e : b = a
    · subst e
      exact d.at_
    · exact ⟨n', d.kp b _ e hb⟩
theorem Dw.fresh {H J : Hp} {p : Addr} {o : HO} (d : Dw H J) (h : H p = none) : Dw H (upd J p o) :=
  ⟨fun b u no hb => by rw [upd_ne (ne_of_none hb h)]; exact d.kp b u no hb, fun b n hb => by rw [upd_ne (ne_of_none hb h)]; exact d.dr b n hb⟩
theorem Dw.back {H J : Hp} {p : Addr} (d : Dw H J) (h : J p = none) : H p = none := by
  cases e : H p with
  | none => rfl
  | some o =>
    by_cases c : ∃ n : Int, o = .lst [.int n]
    · obtain ⟨n, rfl⟩ := c
      obtain ⟨m, e2⟩ := d.dr p n e
      rw [h] at e2
      cases e2
    · have := d.kp p o (fun n z => c ⟨n, z⟩) e
      rw [h] at this
      cases this
theorem Dw.tup {H J : Hp} {a : Addr} {xs : List V} (d : Dw H J) (h : H a = some (.tup xs)) : J a = some (.tup xs) := d.kp _ _ (fun _ z => by cases z) h
theorem Dw.dK {H J : Hp} {a : Addr} {xs : List (Key × V)} (d : Dw H J) (h : H a = some (.dK xs)) : J a = some (.dK xs) := d.kp _ _ (fun _ z => by cases z) h
theorem Dw.ins {H J : Hp} {a C dx : Addr} {xs : List (Str × V)} (d : Dw H J) (h : H a = some (.ins C dx xs)) : J a = some (.ins C dx xs) := d.kp _ _ (fun _ z => by cases z) h
theorem Dw.refs {H J : Hp} {a : Addr} {xs : List Addr} (d : Dw H J) (h : H a = some (.lst (xs.map V.ref))) : J a = some (.lst (xs.map V.ref)) := d.kp _ _ (fun n z => by cases xs with | nil => cases z | cons y ys => cases z) h
theorem Dw.strs {H J : Hp} {a : Addr} {xs : List Str} (d : Dw H J) (h : H a = some (.lst (xs.map V.str))) : J a = some (.lst (xs.map V.str)) := d.kp _ _ (fun n z => by cases xs with | nil => cases z | cons y ys => cases z) h
/-! the law's rows -/
def rowL (r : Rw) : List V := [.str r.d.n, .int r.d.l, .int r.d.m, .bl r.d.t, .ref r.ta]
structure RowsAt (H : Hp) (R : Addr) (rows : List Rw) : Prop where
  at_ : H R = some (.lst (rows.map fun r => .ref r.a))
  row : ∀ r ∈ rows, H r.a = some (.lst (rowL r)) ∧ H r.ta = some (.tup (r.nx.map V.str))
theorem Dw.row {H J : Hp} {a : Addr} {r : Rw} (d : Dw H J) (h : H a = some (.lst (rowL r))) : J a = some (.lst (rowL r)) := d.kp _ _ (fun n z => by unfold rowL at z; cases z) h
theorem Dw.rref {H J : Hp} {a : Addr} {rows : List Rw} (d : Dw H J) (h : H a = some (.lst (rows.map fun r => .ref r.a))) : J a = some (.lst (rows.map fun r => .ref r.a)) := by
  have e : (rows.map fun r => V.ref r.a) = (rows.map fun r => r.a).map V.ref := by rw [List.map_map]; rfl
  rw [e] at h ⊢
  exact d.refs h
theorem RowsAt.dw {H J : Hp} {R : Addr} {rows : List Rw} (h : RowsAt H R rows) (d : Dw H J) : RowsAt J R rows := ⟨d.rref h.at_, fun r hr => ⟨d.row (h.row r hr).1, d.tup (h.row r hr).2⟩⟩
theorem RowsAt.same {H J : Hp} {R : Addr} {rows : List Rw} (h : RowsAt H R rows) (d : Same H J) : RowsAt J R rows := h.dw (.of d)
/-- what _law_rows makes -/
structure okDrawn (M G : Int) (rows : List Rw) : Prop where
  ok : okRows rows
  many : (rows.length : Int) ≤ M
  long : ∀ r ∈ rows, r.d.m ≤ G
  nda : (rows.map fun r => r.a).Nodup
def spRows (K : S.Frag) : Sp := Sp4 fun x y m g H Q _ => ∃ (a u : Addr) (n1 n2 M G : Int), x = .ref a ∧ y = .ref u ∧ H a = some (.lst [.int n1]) ∧ H u = some (.lst [.int n2]) ∧ m = .int M ∧ 1 ≤ M ∧ M ≤ 6 ∧ g = .int G ∧ 1 ≤ G ∧ G ≤ 6 ∧
  ∀ R rows H', Dw H H' → H R = none → (∀ r ∈ rows, H r.a = none) → RowsAt H' R rows → okDrawn M G rows → Q (.ref R) H'
theorem mod_inj {n s w j j' : Int} (hn : 0 < n) (hw : w = 1 ∨ w = -1) (h0 : 0 ≤ j) (h1 : j < n) (h0' : 0 ≤ j') (h1' : j' < n) (e : (s + w * j) % n = (s + w * j') % n) : j = j' := by
  have h := Int.emod_emod_of_dvd
  have d : (n : Int) ∣ (s + w * j) - (s + w * j') := Int.dvd_of_emod_eq_zero (by rw [Int.sub_emod, e, Int.sub_self]; simp)
  obtain ⟨c, hc⟩ := d
  rcases hw with rfl | rfl
  · have e2 : j - j' = n * c := by rw [← hc]; omega
    have : c = 0 := by
      rcases Int.lt_trichotomy c 0 with z | z | z
      · have : n * c ≤ n * (-1) := Int.mul_le_mul_of_nonneg_left (by omega) (by omega)
        omega
      · exact z
      · have : n * 1 ≤ n * c := Int.mul_le_mul_of_nonneg_left (by omega) (by omega)
        omega
    subst this
    omega
  · have e2 : j' - j = n * c := by rw [← hc]; omega
    have : c = 0 := by
      rcases Int.lt_trichotomy c 0 with z | z | z
      · have : n * c ≤ n * (-1) := Int.mul_le_mul_of_nonneg_left (by omega) (by omega)
        omega
      · exact z
      · have : n * 1 ≤ n * c := Int.mul_le_mul_of_nonneg_left (by omega) (by omega)
        omega
    subst this
    omega
/-- rows whose nexts are not drawn yet -/
structure okRaw (G : Int) (rows : List Rw) : Prop where
  nd : (rNames rows).Nodup
  pl : ∀ r ∈ rows, isNm r.d.n = true ∧ 1 ≤ r.d.l ∧ r.d.l ≤ r.d.m ∧ r.d.m ≤ G
  nda : (rows.map fun r => r.a).Nodup
  nx : ∀ r ∈ rows, r.nx = []
theorem row_ne {H : Hp} {R : Addr} {rows : List Rw} {r : Rw} (h : H r.a = some (.lst (rowL r))) (hR : H R = some (.lst (rows.map fun r => .ref r.a))) : r.a ≠ R := ne_of h hR (by
  intro z
  injection z with z
  unfold rowL at z
  cases rows with
  | nil => cases z
  | cons y ys => cases z)
theorem nda_ne {rows : List Rw} (nd : (rows.map fun r => r.a).Nodup) {i j : Nat} {r r' : Rw} (hi : rows[i]? = some r) (hj : rows[j]? = some r') (e : r.a = r'.a) : i = j := by
  obtain ⟨h1, e1⟩ := List.getElem?_eq_some_iff.mp hi
  obtain ⟨h2, e2⟩ := List.getElem?_eq_some_iff.mp hj
  have q := List.pairwise_iff_getElem.mp nd
  simp only [List.length_map, List.getElem_map] at q
  rcases Nat.lt_trichotomy i j with g | g | g
  · exact absurd (by rw [e1, e2]; exact e) (q i j h1 h2 g)
  · exact g
  · exact absurd (by rw [e1, e2]; exact e.symm) (q j i h2 h1 g)
theorem set_same {α : Type} {l : List α} {i : Nat} {x : α} (h : l[i]? = some x) : l.set i x = l := by
  refine List.ext_getElem? fun k => ?_
  rw [List.getElem?_set]
  split
  · rename_i e
    subst e
    rw [h, if_pos (List.getElem?_eq_some_iff.mp h).1]
  · rfl
theorem getD_lt {α : Type} (l : List α) (d : α) {n : Nat} (h : n < l.length) : l.getD n d = l[n] := by
  rw [List.getD_eq_getElem?_getD, List.getElem?_eq_getElem h]
  rfl
def nmAt (rows : List Rw) (sh ww : Int) (k : Nat) : Str := (rNames rows).getD ((sh + ww * (k : Int)) % (rows.length : Int)).toNat ""
/-- one row's nexts are stored -/
theorem RowsAt.store {H : Hp} {R tt : Addr} {rows : List Rw} {i : Nat} {r : Rw} {ns : List Str} (h : RowsAt H R rows) (nd : (rows.map fun r => r.a).Nodup) (hi : rows[i]? = some r) (ht : H tt = some (.tup (ns.map V.str))) :
    RowsAt (upd H r.a (.lst (rowL { r with ta := tt, nx := ns }))) R (rows.set i { r with ta := tt, nx := ns }) := by
  have hr := h.row r (List.mem_of_getElem? hi)
  obtain ⟨hlt, ei⟩ := List.getElem?_eq_some_iff.mp hi
  refine ⟨?_, fun r' hr' => ?_⟩
  · rw [upd_ne (row_ne hr.1 h.at_).symm, h.at_, List.map_set]
    rw [set_same]
    rw [List.getElem?_map, hi]
    rfl
  · obtain ⟨j, hj, rfl⟩ := List.mem_iff_getElem.mp hr'
    rw [List.getElem_set]
    rw [List.length_set] at hj
    split
    · refine ⟨upd_same, ?_⟩
      rw [upd_ne (ne_of ht hr.1 (by intro z; cases z))]
      exact ht
    · rename_i ne
      have e2 := List.getElem?_eq_getElem hj
      have h2 := h.row _ (List.mem_of_getElem? e2)
      have n1 : (rows[j]).a ≠ r.a := fun z => ne (nda_ne nd hi e2 z.symm)
      rw [upd_ne n1, upd_ne (ne_of h2.2 hr.1 (by intro z; cases z))]
      exact h2
end
end W

namespace W
open PySem PySem.Spec PyProof.Rows L2
section
variable {P : Program} {w : World} {K : S.Frag} {mg : Str → Option Value} {base : Heap}
open S
/-! the law's own making of a program -/
def spNexts (K : S.Frag) : Sp := Sp1 fun x H Q _ => ∃ (R : Addr) (rows : List Rw), x = .ref R ∧ RowsAt H R rows ∧ (rNames rows).Nodup ∧ rows.length ≤ 100 ∧ ∀ d H', H d = none → Same H H' → H' d = some (.dK (lkOf rows)) → Q (.ref d) H'
theorem lk_put {rows : List Rw} (nd : (rNames rows).Nodup) {i : Nat} {r : Rw} (h : rows[i]? = some r) : putK (lkOf (rows.take i)) (.inr r.d.n) (.ref r.ta) = lkOf (rows.take (i + 1)) := by
  rw [putK_new]
  · unfold lkOf
    rw [List.take_add_one, h, List.map_append]
    rfl
  · intro q hq e
    obtain ⟨r', hr', rfl⟩ := List.mem_map.mp hq
    have en : r'.d.n = r.d.n := by injection e
    have hz : (rNames rows)[i]? = some r.d.n := by unfold rNames; rw [List.getElem?_map, h]; rfl
    refine nodup_take nd hz ?_
    rw [← en]
    unfold rNames
    rw [← List.map_take]
    exact List.mem_map.mpr ⟨r', hr', rfl⟩
theorem lkOf_len (rows : List Rw) : (lkOf rows).length = rows.length := List.length_map _
theorem mkPl {H : Hp} {Z : VK} {E : XK} {d : Pl} {p dx : Addr} (np : H p = none) (ndx : H dx = none) (ne : dx ≠ p) (ok : isNm d.n = true ∧ 1 ≤ d.l ∧ d.l ≤ d.m ∧ d.m ≤ 6) (k : ∀ H', Same H H' → PlA K H' p d → Z .non H') :
    spPlace K [.ref p, .str d.n, .int d.l, .int d.m, .bl d.t] (upd (upd H dx (.own p)) p (.ins (He.ga K "Place") dx [])) Z E := by
  obtain ⟨o1, o2, o3, o4⟩ := ok
  have s0 : Same H (upd (upd H dx (.own p)) p (.ins (He.ga K "Place") dx [])) := Same.upd (Same.new ndx) np
  have em : mostV (.int d.l) (.int d.m) = .int d.m := by simp [mostV]
  have l8 : d.n.length ≤ 8 := by
    unfold isNm at o1
    simp only [Bool.and_eq_true, decide_eq_true_eq] at o1
    exact o1.1.2
  have du : dueP (.str d.n) (.int d.l) (.int d.m) (.bl d.t) = "" := by
    unfold dueP
    rw [em]
    simp [nmV, o1, inR, isBl, intOf, o2, o3, o4]
    omega
  refine ⟨_, _, _, _, _, rfl, p, dx, rfl, upd_same, .str _, (show d.n.length ≤ 1000 by omega), .int _, .int _, .bl _, fun _ H' kp hp => k H' (fun c o hc => kp c o (s0 c o hc) (ne_of_none hc np)) ⟨dx, ?_⟩, fun e => absurd du e⟩
  rw [em] at hp
  exact hp
def okD (d : Pl) : Prop := isNm d.n = true ∧ 1 ≤ d.l ∧ d.l ≤ d.m ∧ d.m ≤ 6
theorem vw_rNames (rows : List Rw) : rNames rows = (vw rows).map fun z => z.1.n := by
  unfold rNames vw
  rw [List.map_map]
  rfl
theorem okRows.vw {rows rows' : List Rw} (o : okRows rows) (e : vw rows' = vw rows) : okRows rows' := by
  have ln : rows'.length = rows.length := by have := congrArg List.length e; unfold W.vw at this; rwa [List.length_map, List.length_map] at this
  have mem : ∀ r ∈ rows', ∃ r' ∈ rows, (r'.d, r'.nx) = (r.d, r.nx) := fun r hr => by
    have m : (r.d, r.nx) ∈ W.vw rows' := List.mem_map.mpr ⟨r, hr, rfl⟩
    rw [e] at m
    exact List.mem_map.mp m
  have nm : rNames rows' = rNames rows := by rw [vw_rNames, vw_rNames, e]
  refine ⟨by rw [ln]; exact o.l1, by rw [ln]; exact o.l6, by rw [nm]; exact o.nd, fun r hr => ?_, fun r hr => ?_⟩
  · obtain ⟨r', h', e'⟩ := mem r hr
    have := o.pl r' h'
    simp only [Prod.mk.injEq] at e'
    rw [e'.1] at this
    exact this
  · obtain ⟨r', h', e'⟩ := mem r hr
    have := o.nx r' h'
    simp only [Prod.mk.injEq] at e'
    rw [e'.2] at this
    rw [nm]
    exact this
def spMkProg (K : S.Frag) : Sp := Sp2 fun x y H Q _ => ∃ (R : Addr) (rows : List Rw) (b : Str), x = .ref R ∧ y = .str b ∧ RowsAt H R rows ∧ okRows rows ∧ b ∈ rNames rows ∧
  ∀ p prow H', H p = none → Same H H' → PgAt K H' p prow b → vw prow = vw rows → okRows prow → Q (.ref p) H'
theorem atRow {r : Rw} : atI (rowL r) 0 = some (.str r.d.n) ∧ atI (rowL r) 1 = some (.int r.d.l) ∧ atI (rowL r) 2 = some (.int r.d.m) ∧ atI (rowL r) 3 = some (.bl r.d.t) ∧ atI (rowL r) 4 = some (.ref r.ta) := ⟨rfl, rfl, rfl, rfl, rfl⟩
/-- the rows with the places' addresses -/
def reA (rows : List Rw) (as : List Addr) : List Rw := (rows.zip as).map fun z => { z.1 with a := z.2 }
theorem reA_vw {rows : List Rw} {as : List Addr} (h : rows.length = as.length) : vw (reA rows as) = vw rows := by
  unfold vw reA
  rw [List.map_map]
  have : ((fun r : Rw => (r.d, r.nx)) ∘ fun z : Rw × Addr => { z.1 with a := z.2 }) = (fun r : Rw => (r.d, r.nx)) ∘ Prod.fst := rfl
  rw [this, ← List.map_map, List.map_fst_zip (by omega)]
theorem reA_a {rows : List Rw} {as : List Addr} (h : rows.length = as.length) : (reA rows as).map (fun r => V.ref r.a) = as.map V.ref := by
  unfold reA
  rw [List.map_map]
  have : ((fun r : Rw => V.ref r.a) ∘ fun z : Rw × Addr => { z.1 with a := z.2 }) = V.ref ∘ Prod.snd := rfl
  rw [this, ← List.map_map, List.map_snd_zip (by omega)]
theorem reA_lk {rows : List Rw} {as : List Addr} (h : rows.length = as.length) : lkOf (reA rows as) = lkOf rows := by
  unfold lkOf reA
  rw [List.map_map]
  have : ((fun r : Rw => ((Sum.inr r.d.n : Key), V.ref r.ta)) ∘ fun z : Rw × Addr => { z.1 with a := z.2 }) = (fun r : Rw => ((Sum.inr r.d.n : Key), V.ref r.ta)) ∘ Prod.fst := rfl
  rw [this, ← List.map_map, List.map_fst_zip (by omega)]
theorem reA_mem {rows : List Rw} {as : List Addr} {r : Rw} (h : r ∈ reA rows as) : ∃ (i : Nat) (r0 : Rw), rows[i]? = some r0 ∧ as[i]? = some r.a ∧ r = { r0 with a := r.a } := by
  obtain ⟨⟨r0, a⟩, hz, rfl⟩ := List.mem_map.mp h
  obtain ⟨i, hi⟩ := List.getElem?_of_mem hz
  rw [List.getElem?_zip_eq_some] at hi
  exact ⟨i, r0, hi.1, hi.2, rfl⟩
end
end W

namespace W
open PySem PySem.Spec PyProof.Rows L2
section
variable {P : Program} {w : World} {K : S.Frag} {mg : Str → Option Value} {base : Heap}
open S
/-! samplers of right values -/
theorem ok_BadSampler___init__ (T : Txt K mg) : FnOk P w K mg base (L2.CX P w) 1 (He.fAd K ("BadSampler", some "__init__")) (S.fdA K ("BadSampler", some "__init__")) ["self", "why"] (sp_err (He.ga K "BadSampler") "why") := by
  refine FunD.ok T.F_BadSampler___init__ sc_BadSampler___init__ (fun vs H Q E h => S.splen2 h) (fun cdv A outer s H vs Q E hr h => ?_)
  have hu := hu_of hr
  refine ⟨_, (pss_one (S.ps_ostK (K := K) rfl (pv 0) (pv 1) rfl)), ?_⟩
  obtain ⟨_, y, rfl, a, rfl, ha, k⟩ := h
  exact ⟨_, rfl, _, rfl, a, _, rfl, T.ox_BadSampler, T.xn_BadSampler_why, .inl ⟨ha, k⟩⟩
/-- period, jitter, phase -/
structure Sm where
  p : Int
  j : Int
  f : Option Int
def phV : Option Int → V
  | none => .non
  | some i => .int i
structure okSm (m : Sm) : Prop where
  p1 : 1 ≤ m.p
  p8 : m.p ≤ 8
  j0 : 0 ≤ m.j
  j1 : m.j < m.p
  f0 : ∀ i, m.f = some i → 0 ≤ i ∧ i < m.p
def fldM (m : Sm) : List (Str × V) := [("period", .int m.p), ("jitter", .int m.j), ("phase", phV m.f)]
theorem lm_period (m : Sm) : (fldM m).lookup ("period" : Str) = some (.int m.p) := by
  unfold fldM
  rw [lookup_put, if_pos rfl]
theorem lm_jitter (m : Sm) : (fldM m).lookup ("jitter" : Str) = some (.int m.j) := by
  unfold fldM
  rw [lookup_put, if_neg (by decide +kernel), lookup_put, if_pos rfl]
theorem lm_phase (m : Sm) : (fldM m).lookup ("phase" : Str) = some (phV m.f) := by
  unfold fldM
  rw [lookup_put, if_neg (by decide +kernel), lookup_put, if_neg (by decide +kernel), lookup_put, if_pos rfl]
def SmA (K : S.Frag) (H : Hp) (a : Addr) (m : Sm) : Prop := ∃ dx, H a = some (.ins (He.ga K "Sampler") dx (fldM m))
theorem SmA.same {H H' : Hp} {a : Addr} {m : Sm} (h : SmA K H a m) (s : Same H H') : SmA K H' a m := let ⟨dx, e⟩ := h; ⟨dx, s _ _ e⟩
def spSamR (K : S.Frag) : Sp := Sp4 fun self x y z H Q _ => ∃ (p dx : Addr) (m : Sm), self = .ref p ∧ H p = some (.ins (He.ga K "Sampler") dx []) ∧ okSm m ∧ x = .int m.p ∧ y = .int m.j ∧ z = phV m.f ∧
  ∀ H', Kp p H H' → SmA K H' p m → Q .non H'
theorem ok_Sampler___init__ (T : Txt K mg) : FnOk P w K mg base (L2.CX P w) 3 (He.fAd K ("Sampler", some "__init__")) (S.fdA K ("Sampler", some "__init__")) ["self", "period", "jitter", "phase"] (spSamR K) := by
  have G_is_within := ok_is_within (P := P) (w := w) (base := base) T
  have G_BadSampler___init__ := ok_BadSampler___init__ (P := P) (w := w) (base := base) T
  refine FunD.ok T.F_Sampler___init__ sc_Sampler___init__ (fun vs H Q E h => S.splen4 h) (fun cdv A outer s H vs Q E hr h => ?_)
  have hu := hu_of hr
  refine ⟨_, (pss_cons (ps_if (pt_not (pt_val (S.pe_fnS G_is_within (hr.mono (by decide)) rfl T.g_is_within T.F_is_within.kp (kb_is_within_3 T) S.pas0 (pa_cons (pv 1) (pa_cons pe_int (pa_cons (S.pe_globI rfl T.c_MOST_PERIOD) pa_nil))) pk_nil rfl rfl))) (pss_one (S.ps_raiseO rfl (takes_of rfl rfl rfl rfl) T.ox_BadSampler T.xi_BadSampler T.xt_BadSampler G_BadSampler___init__ (hr.mono (by decide)) (kb_BadSampler___init___2 T) rfl T.g_BadSampler (pa_cons pe_str pa_nil))) pss_nil)
      (pss_cons (ps_if (pt_not (pt_val (S.pe_fnS G_is_within (hr.mono (by decide)) rfl T.g_is_within T.F_is_within.kp (kb_is_within_3 T) S.pas0 (pa_cons (pv 2) (pa_cons pe_int (pa_cons (pe_op op_sub (pv 1) pe_int) pa_nil))) pk_nil rfl rfl))) (pss_one (S.ps_raiseO rfl (takes_of rfl rfl rfl rfl) T.ox_BadSampler T.xi_BadSampler T.xt_BadSampler G_BadSampler___init__ (hr.mono (by decide)) (kb_BadSampler___init___2 T) rfl T.g_BadSampler (pa_cons pe_str pa_nil))) pss_nil)
      (pss_cons (ps_if (PW.pt (pw_and (pt_cmpR op_notN (pv 3) pe_non (nomark _)) (pw_and1 (pt_not (pt_val (S.pe_fnS G_is_within (hr.mono (by decide)) rfl T.g_is_within T.F_is_within.kp (kb_is_within_3 T) S.pas0 (pa_cons (pv 3) (pa_cons pe_int (pa_cons (pe_op op_sub (pv 1) pe_int) pa_nil))) pk_nil rfl rfl)))))) (pss_one (S.ps_raiseO rfl (takes_of rfl rfl rfl rfl) T.ox_BadSampler T.xi_BadSampler T.xt_BadSampler G_BadSampler___init__ (hr.mono (by decide)) (kb_BadSampler___init___2 T) rfl T.g_BadSampler (pa_cons pe_str pa_nil))) pss_nil)
      (pss_cons (S.ps_fldK (K := K) rfl (pv 0) (pv 1) rfl)
      (pss_cons (S.ps_fldK (K := K) rfl (pv 0) (pv 2) rfl)
      (pss_one (S.ps_fldK (K := K) rfl (pv 0) (pv 3) rfl))))))), ?_⟩
  obtain ⟨_, _, _, _, rfl, p, dx, m, rfl, hp, ok, rfl, rfl, rfl, q⟩ := h
  obtain ⟨p1, p8, j0, j1, f0⟩ := ok
  refine ⟨_, rfl, rfl, rfl, _, _, _, rfl, 1, 8, true, rfl, rfl, .inl ⟨m.p, rfl, by simp [p1, p8]⟩, _, rfl, iteF ?_⟩
  refine ⟨_, rfl, _, rfl, _, _, rfl, rfl, rfl, rfl, _, _, _, rfl, 0, m.p - 1, true, rfl, rfl, .inl ⟨m.j, rfl, by simp [j0]; omega⟩, _, rfl, iteF ?_⟩
  have fin : tSeq (sFld K (tVar 0) (tVar 1) "period") (tSeq (sFld K (tVar 0) (tVar 2) "jitter") (sFld K (tVar 0) (tVar 3) "phase")) { nx := fun _ H' => Q .non H', rt := Q } [some (.ref p), some (.int m.p), some (.int m.j), some (phV m.f)] H := by
    refine ⟨_, rfl, _, rfl, p, _, dx, _, rfl, hp, T.cl_Sampler, T.na_Sampler_period, (by show 0 < 1000; decide), ?_⟩
    refine ⟨_, rfl, _, rfl, p, _, dx, _, rfl, upd_same, T.cl_Sampler, T.na_Sampler_jitter, (by show 1 < 1000; decide), ?_⟩
    refine ⟨_, rfl, _, rfl, p, _, dx, _, rfl, upd_same, T.cl_Sampler, T.na_Sampler_phase, (by show 2 < 1000; decide), ?_⟩
    exact q _ (fun b o nb q => by rw [upd_ne nb, upd_ne nb, upd_ne nb]; exact q) ⟨dx, upd_same⟩
  cases hf : m.f with
  | none =>
    rw [hf] at fin
    exact ⟨_, rfl, rfl, _, rfl, fin⟩
  | some i =>
    rw [hf] at fin
    obtain ⟨i0, i1⟩ := f0 i hf
    exact ⟨_, rfl, rfl, _, rfl, iteY (by simp [phV]) ⟨_, rfl, _, rfl, _, _, rfl, rfl, rfl, rfl, _, _, _, rfl, 0, m.p - 1, true, rfl, rfl, .inl ⟨i, rfl, by simp [i0]; omega⟩, _, rfl, iteF fin⟩⟩
/-! the law's own spec -/
def specL (m : Sm) : List V := [.int m.p, .int m.j, phV m.f]
theorem Dw.spec {H J : Hp} {a : Addr} {m : Sm} (d : Dw H J) (h : H a = some (.lst (specL m))) : J a = some (.lst (specL m)) := d.kp _ _ (fun n z => by unfold specL at z; cases z) h
def spSpec (K : S.Frag) : Sp := Sp2 fun x y H Q _ => ∃ (a : Addr) (n G : Int), x = .ref a ∧ H a = some (.lst [.int n]) ∧ y = .int G ∧ 1 ≤ G ∧ G ≤ 8 ∧
  ∀ (L : Addr) (m : Sm) (H' : Hp), Dw H H' → H L = none → H' L = some (.lst (specL m)) → okSm m → m.p ≤ G → Q (.ref L) H'
def spLSam (K : S.Frag) : Sp := Sp1 fun x H Q _ => ∃ (a : Addr) (m : Sm), x = .ref a ∧ H a = some (.lst (specL m)) ∧ okSm m ∧ ∀ p H', H p = none → Same H H' → SmA K H' p m → Q (.ref p) H'
end
end W

namespace W
open PySem PySem.Spec PyProof.Rows L2
section
variable {P : Program} {w : World} {K : S.Frag} {mg : Str → Option Value} {base : Heap}
open S
/-! states of runs, and pairs of a state and a flag -/
structure St5 where
  n : Str
  sp : Int
  sl : Int
  dn : Bool
  wt : Bool
  deriving DecidableEq
abbrev Pr := St5 × Bool
def stL (s : St5) : List V := [.str s.n, .int s.sp, .int s.sl, .bl s.dn, .bl s.wt]
def StA (H : Hp) (a : Addr) (s : St5) : Prop := H a = some (.tup (stL s))
def PrA (H : Hp) (a : Addr) (p : Pr) : Prop := ∃ sa, H a = some (.tup [.ref sa, .bl p.2]) ∧ StA H sa p.1
theorem StA.same {H H' : Hp} {a : Addr} {s : St5} (h : StA H a s) (e : Same H H') : StA H' a s := e _ _ h
theorem PrA.same {H H' : Hp} {a : Addr} {p : Pr} (h : PrA H a p) (e : Same H H') : PrA H' a p := let ⟨sa, h1, h2⟩ := h; ⟨sa, e _ _ h1, e _ _ h2⟩
theorem PrA.dw {H H' : Hp} {a : Addr} {p : Pr} (h : PrA H a p) (e : Dw H H') : PrA H' a p := let ⟨sa, h1, h2⟩ := h; ⟨sa, e.tup h1, e.tup h2⟩
theorem PrA.put {H : Hp} {a L : Addr} {p : Pr} {xs : List V} {o : HO} (h : PrA H a p) (hL : H L = some (.lst xs)) : PrA (upd H L o) a p := by
  obtain ⟨sa, h1, h2⟩ := h
  refine ⟨sa, ?_, ?_⟩
  · rw [upd_ne (ne_of h1 hL (by intro z; cases z))]
    exact h1
  · show upd H L o sa = _
    rw [upd_ne (ne_of h2 hL (by intro z; cases z))]
    exact h2
/-- a list of pairs at L -/
def PrsA (H : Hp) (L : Addr) (zs : List (Addr × Pr)) : Prop := H L = some (.lst (zs.map fun z => .ref z.1)) ∧ ∀ z ∈ zs, PrA H z.1 z.2
def snds (zs : List (Addr × Pr)) : List Pr := zs.map Prod.snd
theorem PrsA.same {H H' : Hp} {L : Addr} {zs : List (Addr × Pr)} (h : PrsA H L zs) (e : Same H H') : PrsA H' L zs := ⟨e _ _ h.1, fun z hz => (h.2 z hz).same e⟩
theorem PrsA.dw {H H' : Hp} {L : Addr} {zs : List (Addr × Pr)} (h : PrsA H L zs) (e : Dw H H') : PrsA H' L zs := by
  refine ⟨?_, fun z hz => (h.2 z hz).dw e⟩
  have e1 : (zs.map fun z => V.ref z.1) = (zs.map Prod.fst).map V.ref := by rw [List.map_map]; rfl
  have h1 := h.1
  rw [e1] at h1 ⊢
  exact e.refs h1
theorem snds_app (a b : List (Addr × Pr)) : snds (a ++ b) = snds a ++ snds b := by unfold snds; rw [List.map_append]
theorem snds_len (a : List (Addr × Pr)) : (snds a).length = a.length := List.length_map _
/-- the flags of a look that comes due -/
def duesOf (bf at_ : Bool) : List Bool := if bf then [false] else if at_ then [true] else [false, true]
def mkP (d : Pl) (sp sl : Int) (bf wt du : Bool) : Pr := (⟨d.n, sp, sl, bf || du, (wt || du) && !d.t⟩, (wt || du) && d.t)
/-- the pairs of one tick -/
def tk (d : Pl) (j sp sl : Int) (bf wt : Bool) : List Pr := (duesOf bf (decide (sl = j))).map (mkP d sp sl bf wt)
theorem tk_len (d : Pl) (j sp sl : Int) (bf wt : Bool) : (tk d j sp sl bf wt).length ≤ 2 := by
  unfold tk duesOf
  rw [List.length_map]
  cases bf <;> by_cases c : sl = j <;> simp [c]
/-- a pair goes to the end of a list -/
theorem PrsA.push {H : Hp} {L sa pa : Addr} {zs : List (Addr × Pr)} {p : Pr} (h : PrsA H L zs) (hs : H sa = none) (hp : upd H sa (.tup (stL p.1)) pa = none) :
    PrsA (upd (upd (upd H sa (.tup (stL p.1))) pa (.tup [.ref sa, .bl p.2])) L (.lst ((zs.map fun z => V.ref z.1) ++ [.ref pa]))) L (zs ++ [(pa, p)]) := by
  have s1 := Same.new (o := .tup (stL p.1)) hs
  have s2 := Same.new (o := .tup [.ref sa, .bl p.2]) hp
  have h2 := (h.same s1).same s2
  refine ⟨by rw [upd_same, List.map_append]; rfl, fun z hz => ?_⟩
  rcases List.mem_append.mp hz with hz | hz
  · exact (h2.2 z hz).put h2.1
  · rw [List.mem_singleton.mp hz]
    exact PrA.put (a := pa) (p := p) ⟨sa, upd_same, s2 _ _ upd_same⟩ h2.1
def spSettle (K : S.Frag) : Sp := Sp6 fun x y a b c e H Q _ => ∃ (p q0 : Addr) (d : Pl) (m : Sm) (sp sl : Int) (bf wt : Bool), x = .ref p ∧ PlA K H p d ∧ y = .ref q0 ∧ SmA K H q0 m ∧ a = .int sp ∧ b = .int sl ∧ c = .bl bf ∧ e = .bl wt ∧
  ∀ L zs H', H L = none → Same H H' → PrsA H' L zs → snds zs = tk d m.j sp sl bf wt → Q (.ref L) H'
theorem dues_at {bf c : Bool} {i : Nat} {x : V} (h : ((duesOf bf c).map V.bl)[i]? = some x) : ∃ du, x = .bl du ∧ (duesOf bf c)[i]? = some du := by
  rw [List.getElem?_map] at h
  obtain ⟨du, h1, rfl⟩ := Option.map_eq_some_iff.mp h
  exact ⟨du, rfl, h1⟩
theorem ok_settle (T : Txt K mg) : FnOk P w K mg base (L2.CX P w) 1 (He.fAd K ("settle", none)) (S.fdA K ("settle", none)) ["place", "sampler", "spent", "slot", "before", "waited"] (spSettle K) := by
  refine FunD.ok T.F_settle sc_settle (fun vs H Q E h => S.splen6 h) (fun cdv A outer s H vs Q E hr h => ?_)
  have hu := hu_of hr
  refine ⟨_, (S.pss_cut (ps_if (pt_val (pv 4)) (pss_one (ps_set (i := 6) sc_settle.nd rfl (by first | exact Or.inl rfl | exact Or.inr rfl) (pe_tup (pa_cons pe_bl pa_nil)))) (pss_one (ps_if (pt_cmpR op_eq (pv 3) (S.pe_fldK (K := K) rfl (pv 1) rfl) (nomark _)) (pss_one (ps_set (i := 6) sc_settle.nd rfl (by first | exact Or.inl rfl | exact Or.inr rfl) (pe_tup (pa_cons pe_bl pa_nil)))) (pss_one (ps_set (i := 6) sc_settle.nd rfl (by first | exact Or.inl rfl | exact Or.inr rfl) (pe_tup (pa_cons pe_bl (pa_cons pe_bl pa_nil))))))))
      (pss_cons (ps_set (i := 7) sc_settle.nd rfl (by first | exact Or.inl rfl | exact Or.inr rfl) (pe_lst pa_nil))
      (pss_cons (ps_for (S.own_of rfl) rfl (S.pi_tupK (K := K) rfl (pv 6)) (pg_name (i := 8) sc_settle.nd rfl (by first | exact Or.inl rfl | exact Or.inr rfl))
        (pss_cons (ps_set (i := 9) sc_settle.nd rfl (by first | exact Or.inl rfl | exact Or.inr rfl) (pe_or (pv 5) (pe_one (pv 8))))
      (pss_cons (ps_set (i := 10) sc_settle.nd rfl (by first | exact Or.inl rfl | exact Or.inr rfl) (pe_tup (pa_cons (S.pe_fldK (K := K) rfl (pv 0) rfl) (pa_cons (pv 2) (pa_cons (pv 3) (pa_cons (pe_or (pv 4) (pe_one (pv 8))) (pa_cons (pe_and (pv 9) (pe_one (pe_not (S.pe_fldK (K := K) rfl (pv 0) rfl)))) pa_nil)))))))
      (pss_one (ps_expr (pe_bm PySem.F.plainAttrs_list PySem.F.slot_list_append PySem.F.type_list_append mt_append (pv 7) (pa_cons (pe_tup (pa_cons (pv 10) (pa_cons (pe_and (pv 9) (pe_one (S.pe_fldK (K := K) rfl (pv 0) rfl))) pa_nil))) pa_nil)))))))
      (pss_one (ps_ret (pv 7)))))), ?_⟩
  obtain ⟨_, _, _, _, _, _, rfl, p, q0, d, m, sp, sl, bf, wt, rfl, hp, rfl, hm, rfl, rfl, rfl, rfl, q⟩ := h
  obtain ⟨dm, em⟩ := id hm
  refine ⟨fun τ J => Same H J ∧ ∃ td, J td = some (.tup ((duesOf bf (decide (sl = m.j))).map V.bl)) ∧ τ = [some (.ref p), some (.ref q0), some (.int sp), some (.int sl), some (.bl bf), some (.bl wt), some (.ref td), none, none, none, none], ?_, ?_⟩
  · refine ⟨_, rfl, _, rfl, ?_⟩
    cases bf with
    | true => exact iteT ⟨by show 1 ≤ sizeLine; decide, fun td htd => ⟨Same.new htd, td, upd_same, rfl⟩⟩
    | false =>
      refine iteF ⟨_, rfl, _, rfl, q0, _, dm, _, _, rfl, em, T.cl_Sampler, T.na_Sampler_jitter, lm_jitter _, rfl, _, rfl, ?_⟩
      by_cases c : sl = m.j
      · refine iteY (by simp [c]) ⟨by show 1 ≤ sizeLine; decide, fun td htd => ⟨Same.new htd, td, ?_, rfl⟩⟩
        rw [upd_same]
        simp [duesOf, c]
      · refine iteN (by simp [c]) ⟨by show 2 ≤ sizeLine; decide, fun td htd => ⟨Same.new htd, td, ?_, rfl⟩⟩
        rw [upd_same]
        simp [duesOf, c]
  rintro τ J0 ⟨sJ0, td, etd, rfl⟩
  refine ⟨by decide, fun L hL => ?_⟩
  have s0 := Same.new (o := .lst []) hL
  refine ⟨_, rfl, td, rfl, ⟨_, .inl (.inl (s0 _ _ etd))⟩, for_tup (xs := (duesOf bf (decide (sl = m.j))).map V.bl) (fun i σ J => Same J0 J ∧ (∃ zs, PrsA J L zs ∧ snds zs = ((duesOf bf (decide (sl = m.j))).take i).map (mkP d sp sl bf wt)) ∧ ∃ v8 v9 v10, σ = [some (.ref p), some (.ref q0), some (.int sp), some (.int sl), some (.bl bf), some (.bl wt), some (.ref td), some (.ref L), v8, v9, v10]) ⟨s0, ⟨[], ⟨upd_same, fun _ h => by cases h⟩, rfl⟩, _, _, _, rfl⟩ (fun i σ J _ h => .inl (.inl (h.1 _ _ etd))) ?_ ?_⟩
  · rintro i x σ J hx ⟨sJ, ⟨zs, hz, ez⟩, v8, v9, v10, rfl⟩
    obtain ⟨du, rfl, hdu⟩ := dues_at hx
    have lz : zs.length ≤ 2 := by
      have := congrArg List.length ez
      rw [snds_len, List.length_map, List.length_take] at this
      have h2 : (duesOf bf (decide (sl = m.j))).length ≤ 2 := by unfold duesOf; cases bf <;> by_cases c : sl = m.j <;> simp [c]
      omega
    have fin : ∀ (sa pa : Addr), J sa = none → upd J sa (.tup (stL (mkP d sp sl bf wt du).1)) pa = none →
        Same J0 (upd (upd (upd J sa (.tup (stL (mkP d sp sl bf wt du).1))) pa (.tup [.ref sa, .bl (mkP d sp sl bf wt du).2])) L (.lst ((zs.map fun z => V.ref z.1) ++ [.ref pa]))) ∧
        ∃ zs', PrsA (upd (upd (upd J sa (.tup (stL (mkP d sp sl bf wt du).1))) pa (.tup [.ref sa, .bl (mkP d sp sl bf wt du).2])) L (.lst ((zs.map fun z => V.ref z.1) ++ [.ref pa]))) L zs' ∧ snds zs' = ((duesOf bf (decide (sl = m.j))).take (i + 1)).map (mkP d sp sl bf wt) := fun sa pa hsa hpa => by
      refine ⟨Same.upd ((sJ.trans (Same.new hsa)).trans (Same.new hpa)) hL, _, hz.push (p := mkP d sp sl bf wt du) hsa hpa, ?_⟩
      rw [snds_app, ez, List.take_add_one, hdu, List.map_append]
      rfl
    have hlen : (zs.map fun z => V.ref z.1).length < sizeLine := by rw [List.length_map]; exact Nat.lt_of_le_of_lt (show zs.length ≤ 100 by omega) (by decide)
    obtain ⟨nm, lo, hi, dt⟩ := d
    obtain ⟨dp, ep⟩ := (hp.same sJ0).same sJ
    have stp : ∀ {sa : Addr} {o : HO}, J sa = none → upd J sa o p = some (.ins (He.ga K "Place") dp (fldP (.str nm) (.int lo) (.int hi) (.bl dt))) := fun hsa => Same.new hsa _ _ ep
    have stL' : ∀ {sa pa : Addr} {o o' : HO}, J sa = none → upd J sa o pa = none → upd (upd J sa o) pa o' L = some (.lst (zs.map fun z => V.ref z.1)) := fun hsa hpa => Same.new hpa _ _ (Same.new hsa _ _ hz.1)
    have hL1 : ∀ {sa : Addr} {o : HO}, J sa = none → upd J sa o L = some (.lst (zs.map fun z => V.ref z.1)) := fun hsa => Same.new hsa _ _ hz.1
    cases wt <;> cases bf <;> cases du <;> cases dt
    all_goals
      refine ⟨_, rfl, _, rfl, ?_⟩
      first | refine iteT ?_ | refine iteF ⟨_, rfl, ?_⟩
      refine ⟨_, rfl, p, _, dp, _, _, rfl, ep, T.cl_Place, T.na_Place_name, lk_name _ _ _ _, _, rfl, _, rfl, _, rfl, _, rfl, ?_⟩
      first | refine iteT ?_ | refine iteF ⟨_, rfl, ?_⟩
      refine ⟨_, rfl, _, rfl, ?_⟩
      first | refine iteF ?_ | refine iteT ⟨_, rfl, p, _, dp, _, _, rfl, ep, T.cl_Place, T.na_Place_let, lk_let _ _ _ _, _, rfl, ?_⟩
      refine ⟨by show 5 ≤ sizeLine; decide, fun sa hsa => ⟨_, rfl, .inl ⟨rfl, _, .inl (.inl (hL1 hsa))⟩, _, rfl, _, rfl, _, rfl, ?_⟩⟩
      first | refine iteF ?_ | refine iteT ⟨_, rfl, p, _, dp, _, _, rfl, stp hsa, T.cl_Place, T.na_Place_let, lk_let _ _ _ _, ?_⟩
      refine ⟨by show 2 ≤ sizeLine; decide, fun pa hpa => ⟨L, _, _, rfl, rfl, stL' hsa hpa, hlen, ?_⟩⟩
      exact ⟨(fin sa pa hsa hpa).1, (fin sa pa hsa hpa).2, _, _, _, rfl⟩
  · rintro σ J ⟨sJ, ⟨zs, hz, ez⟩, v8, v9, v10, rfl⟩
    rw [List.length_map, List.take_length] at ez
    exact ⟨_, rfl, q L zs J (sJ0.free hL) (sJ0.trans sJ) hz ez⟩
end
end W

namespace W
open PySem PySem.Spec PyProof.Rows L2
section
variable {P : Program} {w : World} {K : S.Frag} {mg : Str → Option Value} {base : Heap}
open S
/-! states as data, their order -/
def stD (s : St5) : PyData := .tuple [.str s.n, .int s.sp, .int s.sl, .bool s.dn, .bool s.wt]
def paD (p : Pr) : PyData := .tuple [stD p.1, .bool p.2]
theorem dp_st {H : Hp} {a : Addr} {s : St5} (h : StA H a s) : Dp K H (.ref a) (stD s) := .tup (.inl (.inl h)) (.cons (.str _) (.cons (.int _) (.cons (.int _) (.cons (.bl _) (.cons (.bl _) .nil)))))
theorem dp_pa {H : Hp} {a : Addr} {p : Pr} (h : PrA H a p) : Dp K H (.ref a) (paD p) := by
  obtain ⟨sa, h1, h2⟩ := h
  exact .tup (.inl (.inl h1)) (.cons (dp_st h2) (.cons (.bl _) .nil))
theorem st_depth (s : St5) : (stD s).depth ≤ 20 := by simp [stD, PyData.depth, PyData.depthAll]
theorem pa_depth (p : Pr) : (paD p).depth ≤ 20 := by simp [paD, stD, PyData.depth, PyData.depthAll]
theorem st_alike (s s' : St5) : PySem.W.alike (stD s) (stD s') = true := by simp [stD, PySem.W.alike, PySem.W.alikeAll]
theorem pa_alike (s s' : Pr) : PySem.W.alike (paD s) (paD s') = true := by simp [paD, stD, PySem.W.alike, PySem.W.alikeAll]
theorem st_plain (s : St5) : (stD s).plain = true := rfl
theorem pa_plain (s : Pr) : (paD s).plain = true := rfl
theorem st_eqv (s s' : St5) : PyData.eqv (stD s) (stD s') = decide (s = s') := by
  obtain ⟨a, b, c, d, e⟩ := s
  obtain ⟨a', b', c', d', e'⟩ := s'
  simp only [stD, PyData.eqv, PyData.eqvAll]
  rw [Bool.eq_iff_iff]
  simp
theorem pa_eqv (p p' : Pr) : PyData.eqv (paD p) (paD p') = decide (p = p') := by
  obtain ⟨s, b⟩ := p
  obtain ⟨s', b'⟩ := p'
  have := st_eqv s s'
  simp only [paD, PyData.eqv, PyData.eqvAll] at *
  rw [this, Bool.eq_iff_iff]
  simp
def ltS (s s' : St5) : Bool := PySem.W.dataLt (stD s) (stD s')
def ltP (p p' : Pr) : Bool := PySem.W.dataLt (paD p) (paD p')
theorem ltP_ne {p p' : Pr} (h : p.1 ≠ p'.1) : ltP p p' = ltS p.1 p'.1 := by
  unfold ltP ltS paD
  rw [PySem.W.dataLt_tuple]
  exact PySem.W.dataLt_all_no (st_alike _ _) (by rw [st_eqv, decide_eq_false h])
abbrev srtS (zs : List (Addr × Pr)) : List (Addr × Pr) := sortR (fun a b => ltS a.2.1 b.2.1) zs
/-- the sort of the pairs by their states -/
def srtP (ps : List Pr) : List Pr := sortR (fun a b => ltS a.1 b.1) ps
theorem snds_srt (zs : List (Addr × Pr)) : snds (srtS zs) = srtP (snds zs) := sortR_map (lt := fun a b : Addr × Pr => ltS a.2.1 b.2.1) (lt' := fun a b : Pr => ltS a.1 b.1) (f := Prod.snd) (fun _ _ => rfl) zs
def spInSeq (K : S.Frag) : Sp := Sp1 fun x H Q _ => ∃ (L : Addr) (zs : List (Addr × Pr)), x = .ref L ∧ PrsA H L zs ∧ zs.length ≤ 1000 ∧ ∀ L' H', H L' = none → Same H H' → PrsA H' L' (srtS zs) → Q (.ref L') H'
theorem PrA.ne {H : Hp} {a L : Addr} {p : Pr} {xs : List V} (h : PrA H a p) (hL : H L = some (.lst xs)) : a ≠ L := let ⟨_, h1, _⟩ := h; ne_of h1 hL (by intro z; cases z)
/-- the slots that a run can begin in -/
def shifts (m : Sm) : List Int := match m.f with
  | some i => [i]
  | none => (List.range m.p.toNat).map fun (i : Nat) => (i : Int)
def firstP (d : Pl) (m : Sm) : List Pr := (shifts m).flatMap fun f => tk d m.j 1 f (decide (m.j < f)) false
theorem shifts_len {m : Sm} (ok : okSm m) : (shifts m).length ≤ 8 := by
  unfold shifts
  have := ok.p8
  cases m.f with
  | some i => simp
  | none =>
    simp only [List.length_map, List.length_range]
    omega
def spFirst (K : S.Frag) : Sp := Sp2 fun x y H Q _ => ∃ (p q0 : Addr) (rows : List Rw) (s : Str) (r : Rw) (m : Sm), x = .ref p ∧ PgAt K H p rows s ∧ (rNames rows).Nodup ∧ r ∈ rows ∧ r.d.n = s ∧ y = .ref q0 ∧ SmA K H q0 m ∧ okSm m ∧
  ∀ L zs H', H L = none → Same H H' → PrsA H' L zs → snds zs = srtP (firstP r.d m) → Q (.ref L) H'
theorem flat_take {α β : Type} {f : α → List β} {l : List α} {i : Nat} {x : α} (h : l[i]? = some x) : (l.take (i + 1)).flatMap f = (l.take i).flatMap f ++ f x := by
  rw [List.take_add_one, h, List.flatMap_append]
  simp
theorem flat_len {d : Pl} {j : Int} {g : Int → Bool} : ∀ l : List Int, (l.flatMap fun f => tk d j 1 f (g f) false).length ≤ 2 * l.length
  | [] => Nat.le_refl _
  | x :: l => by
    have := flat_len (d := d) (j := j) (g := g) l
    have h2 := tk_len d j 1 x (g x) false
    rw [List.flatMap_cons, List.length_append, List.length_cons]
    omega
theorem PrsA.ext {H : Hp} {L B : Addr} {zs ys : List (Addr × Pr)} (h : PrsA H L zs) (hb : PrsA H B ys) : PrsA (upd H L (.lst ((zs.map fun z => V.ref z.1) ++ ys.map fun z => V.ref z.1))) L (zs ++ ys) := by
  refine ⟨by rw [upd_same, List.map_append], fun z hz => ?_⟩
  rcases List.mem_append.mp hz with hz | hz
  · exact (h.2 z hz).put h.1
  · exact (hb.2 z hz).put h.1
end
end W

namespace W
open PySem PySem.Spec PyProof.Rows L2
section
variable {P : Program} {w : World} {K : S.Frag} {mg : Str → Option Value} {base : Heap}
open S
/-! nexts and in, of a program -/
def spPgNx (K : S.Frag) : Sp := Sp1 fun x H Q _ => ∃ (p : Addr) (rows : List Rw) (s : Str), x = .ref p ∧ PgAt K H p rows s ∧ (rNames rows).Nodup ∧ rows.length ≤ 6 ∧
  ∀ d H', H d = none → Same H H' → H' d = some (.dK (lkOf rows)) → Q (.ref d) H'
theorem ok_Program_nexts (T : Txt K mg) : FnOk P w K mg base (L2.CX P w) 1 (S.gA K ("Program", some "nexts")) (S.gdA K ("Program", some "nexts")) ["self"] (spPgNx K) := by
  refine FunD.ok T.F_Program_nexts sc_Program_nexts (fun vs H Q E h => S.splen1 h) (fun cdv A outer s H vs Q E hr h => ?_)
  have hu := hu_of hr
  refine ⟨_, (pss_one (ps_ret (pe_dc (own := [("name", 1)]) (g := gName 1) (tt := tYes) rfl sc_Program_nexts.nd (S.pi_seqK (K := K) rfl (S.pe_fldK (K := K) rfl (pv 0) rfl)) (blkOk_by (N := ["self", "name"]) (sc := defScope s_Program_nexts) (by decide +kernel)) (fun _ _ _ _ _ => (pg_name (i := 1) sc_Program_nexts.nd rfl (by first | exact Or.inl rfl | exact Or.inr rfl))) (fun _ _ _ _ _ => pts_nil) (fun _ _ _ _ _ => (pv 1)) (fun _ _ _ _ _ => (pe_dget hu (S.pe_fldK (K := K) rfl (pv 0) rfl) (pv 1) (fun _ _ => rfl)))))), ?_⟩
  obtain ⟨_, rfl, p, rows, st, rfl, ⟨dx, l, u, k, F⟩, nd, l6, q⟩ := h
  have ln : (rNames rows).length = rows.length := by unfold rNames; rw [List.length_map]
  refine ⟨_, rfl, p, _, dx, _, _, rfl, F.at_, T.cl_Program, T.na_Program_names, lg_names _ _ _ _, u, _, rfl, .inr (.inl (.inl F.nm)), fun It wk d hd => dc_it wk (fun i J => Same H J ∧ J d = some (.dK (lkOf (rows.take i)))) ⟨Same.new hd, upd_same⟩ (fun i J _ h => h.1) ?_ ?_⟩
  · rintro i v J J' hi ⟨sJ, ed⟩ ⟨rfl, hv⟩
    rw [List.getElem?_map] at hv
    obtain ⟨z, hz, rfl⟩ := Option.map_eq_some_iff.mp hv
    obtain ⟨r, hr', rfl⟩ : ∃ r, rows[i]? = some r ∧ r.d.n = z := by
      unfold rNames at hz
      rw [List.getElem?_map] at hz
      exact Option.map_eq_some_iff.mp hz
    have g : DGet J' k (.str r.d.n) (some (.ref r.ta)) := by
      have := DGet.k (k := .inr r.d.n) (sJ _ _ F.lk)
      rw [show valV (rows.map fun r => (Sum.inr r.d.n, V.ref r.ta)) (.inr r.d.n) = some (.ref r.ta) from valV_rows nd (List.mem_of_getElem? hr')] at this
      exact this
    refine ⟨rfl, yesT ?_⟩
    refine iteT ⟨_, rfl, _, rfl, p, _, dx, _, _, rfl, sJ _ _ F.at_, T.cl_Program, T.na_Program_links, lg_links _ _ _ _, _, rfl, k, _, rfl, g, _, .inr r.d.n, rfl, ed, ?_, Same.upd sJ hd, ?_⟩
    · rw [lkOf_len, List.length_take]
      exact Nat.lt_of_le_of_lt (show min i rows.length ≤ 100 by omega) (by decide)
    · rw [upd_same, lk_put nd hr']
  · rintro J ⟨sJ, ed⟩
    have e : ((rNames rows).map V.str).length = rows.length := by rw [List.length_map, ln]
    rw [e, List.take_length] at ed
    exact q d J hd sJ ed
def spHas (K : S.Frag) : Sp := Sp2 fun x y H Q _ => ∃ (p : Addr) (rows : List Rw) (s : Str) (e : PyData), x = .ref p ∧ PgAt K H p rows s ∧ Mx K H y e ∧ Q (.bl ((rNames rows).any fun n => mixEq (.str n) e)) H
/-- a text in a program -/
theorem has_str {rows : List Rw} {z : Str} : ((rNames rows).any fun n => mixEq (.str n) (.str z)) = decide (z ∈ rNames rows) := by
  rw [Bool.eq_iff_iff]
  simp only [List.any_eq_true, decide_eq_true_eq, mixEq, PyData.eqv]
  constructor
  · rintro ⟨x, h, e⟩
    have : x = z := by simpa using e
    exact this ▸ h
  · intro h
    exact ⟨z, h, by simp⟩
end
end W

namespace W
open PySem PySem.Spec PyProof.Rows L2
section
variable {P : Program} {w : World} {K : S.Frag} {mg : Str → Option Value} {base : Heap}
open S
/-! what follows a state -/
def plV (l : List (Pl × List Str)) (n : Str) : Pl := ((l.find? fun z => decide (z.1.n = n)).map Prod.fst).getD ⟨"", 0, 0, false⟩
theorem plV_at {rows : List Rw} (nd : (rNames rows).Nodup) {r : Rw} (h : r ∈ rows) : plV (vw rows) r.d.n = r.d := by
  unfold plV
  cases e : (vw rows).find? fun z => decide (z.1.n = r.d.n) with
  | none =>
    have := List.find?_eq_none.mp e (r.d, r.nx) (List.mem_map.mpr ⟨r, h, rfl⟩)
    simp at this
  | some z =>
    have h1 := List.find?_some e
    obtain ⟨r', hr', rfl⟩ := List.mem_map.mp (List.mem_of_find?_eq_some e)
    have h2 : r'.d.n = r.d.n := by simpa using h1
    have := nm_one nd hr' h h2
    subst this
    rfl
def slotN (m : Sm) (s : St5) : Int := (s.sl + 1) % m.p
def befN (m : Sm) (s : St5) : Bool := s.dn && decide (0 < slotN m s)
def stayP (d : Pl) (m : Sm) (s : St5) : List Pr := if s.sp < d.m then tk d m.j (s.sp + 1) (slotN m s) (befN m s) s.wt else []
def goP (l : List (Pl × List Str)) (nx : List Str) (m : Sm) (s : St5) : List Pr := nx.flatMap fun n => tk (plV l n) m.j 1 (slotN m s) (befN m s) s.wt
def afterP (l : List (Pl × List Str)) (d : Pl) (nx : List Str) (m : Sm) (s : St5) : List Pr := stayP d m s ++ if d.l ≤ s.sp then goP l nx m s else []
theorem stay_len (d : Pl) (m : Sm) (s : St5) : (stayP d m s).length ≤ 2 := by
  unfold stayP
  split
  · exact tk_len _ _ _ _ _ _
  · exact Nat.zero_le _
theorem go_len (l : List (Pl × List Str)) (m : Sm) (s : St5) : ∀ nx : List Str, (goP l nx m s).length ≤ 2 * nx.length
  | [] => Nat.le_refl _
  | n :: nx => by
    have h1 := go_len l m s nx
    have h2 := tk_len (plV l n) m.j 1 (slotN m s) (befN m s) s.wt
    unfold goP at *
    rw [List.flatMap_cons, List.length_append, List.length_cons]
    omega
def spFollow (K : S.Frag) : Sp := Sp3 fun x y z H Q _ => ∃ (p q0 sa : Addr) (rows : List Rw) (s : Str) (m : Sm) (st : St5) (r : Rw), x = .ref p ∧ PgAt K H p rows s ∧ okRows rows ∧ y = .ref q0 ∧ SmA K H q0 m ∧ okSm m ∧ z = .ref sa ∧ StA H sa st ∧ r ∈ rows ∧ st.n = r.d.n ∧
  ∀ L zs H', H L = none → Same H H' → PrsA H' L zs → snds zs = srtP (afterP (vw rows) r.d r.nx m st) → Q (.ref L) H'
end
end W

namespace W
open PySem PySem.Spec PyProof.Rows L2
section
variable {P : Program} {w : World} {K : S.Frag} {mg : Str → Option Value} {base : Heap}
open S
theorem tk_mem {d : Pl} {j sp sl : Int} {bf wt : Bool} {p : Pr} (h : p ∈ tk d j sp sl bf wt) : p.1.n = d.n ∧ p.1.sp = sp ∧ p.1.sl = sl := by
  obtain ⟨du, _, rfl⟩ := List.mem_map.mp h
  exact ⟨rfl, rfl, rfl⟩
theorem tk_two (d : Pl) (j sp sl : Int) (bf wt : Bool) : (tk d j sp sl bf wt).Pairwise fun a b => a.1 ≠ b.1 := by
  unfold tk duesOf
  cases bf <;> by_cases c : sl = j <;> simp [c, mkP]
theorem flat_pw {α β : Type} {R : β → β → Prop} {f : α → List β} : ∀ {l : List α}, (∀ a ∈ l, (f a).Pairwise R) → l.Pairwise (fun a b => ∀ x ∈ f a, ∀ y ∈ f b, R x y) → (l.flatMap f).Pairwise R
  | [], _, _ => List.Pairwise.nil
  | a :: l, h1, h2 => by
    rw [List.flatMap_cons]
    have h3 := List.pairwise_cons.mp h2
    refine List.pairwise_append.mpr ⟨h1 a List.mem_cons_self, flat_pw (fun b hb => h1 b (List.mem_cons_of_mem _ hb)) h3.2, fun x hx y hy => ?_⟩
    obtain ⟨b, hb, hy⟩ := List.mem_flatMap.mp hy
    exact h3.1 b hb x hx y hy
end
end W

namespace W
open PySem PySem.Spec PyProof.Rows L2
section
variable {P : Program} {w : World} {K : S.Frag} {mg : Str → Option Value} {base : Heap}
open S
/-! the law's own states -/
def spRow (K : S.Frag) : Sp := Sp2 fun x y H Q _ => ∃ (R : Addr) (rows : List Rw) (r : Rw), x = .ref R ∧ RowsAt H R rows ∧ y = .str r.d.n ∧ r ∈ rows ∧ (rNames rows).Nodup ∧ Q (.ref r.a) H
def spTicks (K : S.Frag) : Sp := Sp6 fun x y a b c e H Q _ => ∃ (sa : Addr) (r : Rw) (m : Sm) (sp sl : Int) (bf wt : Bool), x = .ref r.a ∧ H r.a = some (.lst (rowL r)) ∧ y = .ref sa ∧ H sa = some (.lst (specL m)) ∧ a = .int sp ∧ b = .int sl ∧ c = .bl bf ∧ e = .bl wt ∧
  ∀ L zs H', H L = none → Same H H' → PrsA H' L zs → snds zs = tk r.d m.j sp sl bf wt → Q (.ref L) H'
def keepD (bf at_ du : Bool) : Bool := !(du && bf) && !(!du && !bf && at_)
theorem keep_dues (bf at_ : Bool) : [false, true].filter (keepD bf at_) = duesOf bf at_ := by cases bf <;> cases at_ <;> rfl
theorem two_at {i : Nat} {x : V} (h : ([V.bl false, .bl true])[i]? = some x) : ∃ du, x = .bl du ∧ ([false, true])[i]? = some du := by
  match i with
  | 0 => cases h; exact ⟨false, rfl, rfl⟩
  | 1 => cases h; exact ⟨true, rfl, rfl⟩
  | _ + 2 => cases h
def spFirstL (K : S.Frag) : Sp := Sp3 fun x y z H Q _ => ∃ (R sa : Addr) (rows : List Rw) (m : Sm) (r : Rw), x = .ref R ∧ RowsAt H R rows ∧ (rNames rows).Nodup ∧ y = .ref sa ∧ H sa = some (.lst (specL m)) ∧ okSm m ∧ z = .str r.d.n ∧ r ∈ rows ∧
  ∀ L zs H', H L = none → Same H H' → PrsA H' L zs → snds zs = firstP r.d m → Q (.ref L) H'
/-- two lists of pairs made one -/
theorem PrsA.cat {H : Hp} {L B C : Addr} {zs ys : List (Addr × Pr)} (h : PrsA H L zs) (hb : PrsA H B ys) (hC : H C = none) : PrsA (upd H C (.lst ((zs.map fun z => V.ref z.1) ++ ys.map fun z => V.ref z.1))) C (zs ++ ys) := by
  refine ⟨by rw [upd_same, List.map_append], fun z hz => ?_⟩
  rcases List.mem_append.mp hz with hz | hz
  · exact (h.2 z hz).same (Same.new hC)
  · exact (hb.2 z hz).same (Same.new hC)
end
end W

namespace W
open PySem PySem.Spec PyProof.Rows L2
section
variable {P : Program} {w : World} {K : S.Frag} {mg : Str → Option Value} {base : Heap}
open S
/-! the law's own steps -/
def spAfter (K : S.Frag) : Sp := Sp3 fun x y z H Q _ => ∃ (R sa ta : Addr) (rows : List Rw) (m : Sm) (st : St5) (r : Rw), x = .ref R ∧ RowsAt H R rows ∧ okRows rows ∧ y = .ref sa ∧ H sa = some (.lst (specL m)) ∧ okSm m ∧ z = .ref ta ∧ StA H ta st ∧ r ∈ rows ∧ st.n = r.d.n ∧
  ∀ L zs H', H L = none → Same H H' → PrsA H' L zs → snds zs = afterP (vw rows) r.d r.nx m st → Q (.ref L) H'
theorem after_len {rows : List Rw} (ok : okRows rows) {r : Rw} (hr : r ∈ rows) (m : Sm) (st : St5) : (afterP (vw rows) r.d r.nx m st).length ≤ 14 := by
  have h1 := stay_len r.d m st
  have h2 := go_len (vw rows) m st r.nx
  have h4 := nodup_le (ok.nx r hr).1 (ok.nx r hr).2
  have l6 := ok.l6
  unfold rNames at h4
  rw [List.length_map] at h4
  unfold afterP
  rw [List.length_append]
  split
  · omega
  · simp
    omega
theorem after_pw {rows : List Rw} (ok : okRows rows) {r : Rw} (hr : r ∈ rows) (m : Sm) (st : St5) (h1 : 1 ≤ st.sp) : (afterP (vw rows) r.d r.nx m st).Pairwise fun a b => a.1 ≠ b.1 := by
  unfold afterP
  refine List.pairwise_append.mpr ⟨?_, ?_, fun x hx y hy e => ?_⟩
  · unfold stayP
    split
    · exact tk_two _ _ _ _ _ _
    · exact List.Pairwise.nil
  · split
    · unfold goP
      refine flat_pw (fun f _ => tk_two _ _ _ _ _ _) ((List.Pairwise.and_mem.mp (ok.nx r hr).1).imp fun {a b} ⟨ha, hb, n⟩ x hx y hy e => ?_)
      obtain ⟨ra, h1, rfl⟩ := List.mem_map.mp ((ok.nx r hr).2 a ha)
      obtain ⟨rb, h2, rfl⟩ := List.mem_map.mp ((ok.nx r hr).2 b hb)
      have e1 := (tk_mem hx).1
      have e2 := (tk_mem hy).1
      rw [plV_at ok.nd h1] at e1
      rw [plV_at ok.nd h2] at e2
      rw [e, e2] at e1
      exact n e1.symm
    · exact List.Pairwise.nil
  · have e1 : x.1.sp = st.sp + 1 := by
      unfold stayP at hx
      split at hx
      · exact (tk_mem hx).2.1
      · cases hx
    have e2 : y.1.sp = 1 := by
      split at hy
      · unfold goP at hy
        obtain ⟨n, _, hy⟩ := List.mem_flatMap.mp hy
        exact (tk_mem hy).2.1
      · cases hy
    rw [e, e2] at e1
    omega
end
end W

namespace W
open PySem PySem.Spec PyProof.Rows L2
section
variable {P : Program} {w : World} {K : S.Frag} {mg : Str → Option Value} {base : Heap}
open S
/-! lemmas of whole laws over programs -/
theorem sq_dwL {H J : Hp} {a : Addr} {ns : List Int} (h : SqL K H a (ns.map V.int)) (d : Dw H J) : ∃ ns' : List Int, SqL K J a (ns'.map V.int) ∧ ns'.length = ns.length := by
  rcases h with (h | ⟨o, h⟩) | h
  · by_cases c : ∃ n : Int, ns = [n]
    · obtain ⟨n, rfl⟩ := c
      obtain ⟨m, e⟩ := d.dr a n h
      exact ⟨[m], .inl (.inl e), rfl⟩
    · refine ⟨ns, .inl (.inl (d.kp _ _ (fun n z => c ⟨n, ?_⟩) h)), rfl⟩
      injection z with z
      cases ns with
      | nil => cases z
      | cons x xs =>
        cases xs with
        | nil => injection z with z1 _; injection z1 with z1; rw [z1]
        | cons y ys => cases z
  · exact ⟨ns, .inl (.inr ⟨o, d.kp _ _ (fun n z => by cases z) h⟩), rfl⟩
  · exact ⟨ns, .inr h, rfl⟩
theorem sq_dw {H J : Hp} {a : Addr} {ns : List Int} (h : SqL K H a (ns.map V.int)) (d : Dw H J) : ∃ ns' : List Int, SqL K J a (ns'.map V.int) := let ⟨ns', h', _⟩ := sq_dwL h d; ⟨ns', h'⟩
theorem nat_of {t : Int} {n : Nat} (h0 : 0 ≤ t) (h1 : t < (n : Int)) : ∃ k : Nat, t = (k : Int) ∧ k < n := ⟨t.toNat, by omega, by omega⟩
theorem notFirst_self {C : Addr} : PySem.W.notFirst K C (.ref C) = true := by simp [PySem.W.notFirst]
theorem nm_mem {rows : List Rw} {i : Nat} {r : Rw} (h : rows[i]? = some r) : r.d.n ∈ rNames rows := List.mem_map.mpr ⟨r, List.mem_of_getElem? h, rfl⟩
theorem rNames_len (rows : List Rw) : (rNames rows).length = rows.length := by unfold rNames; rw [List.length_map]
theorem pairs_of {α : Type} [DecidableEq α] {l l' : List α} {xs ys : List V} (hx : xs.length = l.length) (hy : ys.length = l'.length) : pairs (fun i => decide (l[i]? = l'[i]?)) xs ys = decide (l = l') := by
  unfold pairs
  rw [hx, hy, Bool.eq_iff_iff]
  simp only [Bool.and_eq_true, decide_eq_true_eq, List.all_eq_true, List.mem_range]
  constructor
  · rintro ⟨hl, h⟩
    refine List.ext_getElem? fun i => ?_
    by_cases c : i < l.length
    · exact h i c
    · rw [List.getElem?_eq_none (by omega), List.getElem?_eq_none (by omega)]
  · rintro rfl
    exact ⟨rfl, fun _ _ => rfl⟩
theorem PgAt.dw {H J : Hp} {p : Addr} {rows : List Rw} {s : Str} (h : PgAt K H p rows s) (d : Dw H J) : PgAt K J p rows s := by
  obtain ⟨dx, l, u, k, F⟩ := h
  refine ⟨dx, l, u, k, d.ins F.at_, d.rref F.pl, d.tup F.nm, d.dK F.lk, fun r hr => ?_⟩
  obtain ⟨⟨dr, e1⟩, e2⟩ := F.rw_ r hr
  exact ⟨⟨dr, d.ins e1⟩, d.tup e2⟩
theorem pgEqI {H : Hp} {p p' : Addr} {rows rows' : List Rw} {s s' : Str} {Q : VK} (h1 : PgAt K H p rows s) (h2 : PgAt K H p' rows' s') (o1 : okRows rows) (o2 : okRows rows') (k : ∀ H', Same H H' → Q (.bl (decide (vw rows = vw rows' ∧ s = s'))) H') : rOwnI K (He.ga K "Program") (spPgEq K) (.ref p) (.ref p') H Q := by
  obtain ⟨_, _, _, _, F1⟩ := id h1
  obtain ⟨_, _, _, _, F2⟩ := id h2
  exact ⟨p, _, _, p', _, _, _, rfl, rfl, F1.at_, F2.at_, notFirst_self, _, _, rfl, p, p', rows, rows', s, s', rfl, rfl, h1, h2, o1, o2, k⟩
theorem names_map (rows : List Rw) (H : Hp) : (rNames rows).map V.str = rows.map fun r => V.str r.d.n := by
  unfold rNames
  rw [List.map_map]
  rfl
/-- the row of the program at the place of the law's own -/
theorem vw_at {rows rows' : List Rw} (e : vw rows' = vw rows) {i : Nat} {r : Rw} (h : rows[i]? = some r) : ∃ r', rows'[i]? = some r' ∧ r'.d = r.d := by
  have := congrArg (fun l => l[i]?) e
  unfold vw at this
  simp only [List.getElem?_map, h, Option.map_some] at this
  obtain ⟨r', e', e2⟩ := Option.map_eq_some_iff.mp this
  simp only [Prod.mk.injEq] at e2
  exact ⟨r', e', e2.1⟩
/-- rows of the same name in two lists of the same view -/
theorem vw_one {rows rows' : List Rw} (e : vw rows' = vw rows) (nd : (rNames rows).Nodup) {r r' : Rw} (h' : r' ∈ rows') (h : r ∈ rows) (en : r'.d.n = r.d.n) : (r'.d, r'.nx) = (r.d, r.nx) := by
  have m1 : (r'.d, r'.nx) ∈ vw rows := by
    rw [← e]
    exact List.mem_map.mpr ⟨r', h', rfl⟩
  obtain ⟨r2, h2, e2⟩ := List.mem_map.mp m1
  simp only [Prod.mk.injEq] at e2
  have : r2 = r := nm_one nd h2 h (by rw [e2.1, en])
  subst this
  simp [e2.1, e2.2]
def spLaw (K : S.Frag) : Sp := Sp1 fun x H Q _ => ∃ (a : Addr) (ns : List Int), x = .ref a ∧ SqL K H a (ns.map V.int) ∧ ns.length ≤ 63 ∧ ∀ H', Q (.bl true) H'
end
end W

namespace W
open PySem PySem.Spec PyProof.Rows L2
section
open S
/-! runs, in plain terms -/
abbrev Vw := List (Pl × List Str)
theorem vw_nm (rows : List Rw) : ((vw rows).map fun z => z.1.n) = rNames rows := (vw_rNames rows).symm
def nxV (l : Vw) (n : Str) : List Str := ((l.find? fun z => decide (z.1.n = n)).map Prod.snd).getD []
theorem nxV_at {rows : List Rw} (nd : (rNames rows).Nodup) {r : Rw} (h : r ∈ rows) : nxV (vw rows) r.d.n = r.nx := by
  unfold nxV
  cases e : (vw rows).find? fun z => decide (z.1.n = r.d.n) with
  | none =>
    have := List.find?_eq_none.mp e (r.d, r.nx) (List.mem_map.mpr ⟨r, h, rfl⟩)
    simp at this
  | some z =>
    have h1 := List.find?_some e
    obtain ⟨r', hr', rfl⟩ := List.mem_map.mp (List.mem_of_find?_eq_some e)
    have h2 : r'.d.n = r.d.n := by simpa using h1
    have := nm_one nd hr' h h2
    subst this
    rfl
/-- what can follow a state -/
def stepP (l : Vw) (m : Sm) (s : St5) : List Pr := afterP l (plV l s.n) (nxV l s.n) m s
/-- right views: as of right rows -/
structure okV (l : Vw) : Prop where
  nm : ∀ z ∈ l, ∀ n ∈ z.2, n ∈ l.map fun z => z.1.n
  pl : ∀ z ∈ l, 1 ≤ z.1.l ∧ z.1.l ≤ z.1.m ∧ z.1.m ≤ 6
theorem okV_of {rows : List Rw} (ok : okRows rows) : okV (vw rows) := by
  refine ⟨fun z hz n hn => ?_, fun z hz => ?_⟩
  · obtain ⟨r, hr, rfl⟩ := List.mem_map.mp hz
    rw [← vw_rNames]
    exact (ok.nx r hr).2 n hn
  · obtain ⟨r, hr, rfl⟩ := List.mem_map.mp hz
    exact (ok.pl r hr).2
theorem plV_mem {l : Vw} {n : Str} (h : n ∈ l.map fun z => z.1.n) : ∃ z ∈ l, plV l n = z.1 ∧ nxV l n = z.2 ∧ z.1.n = n := by
  obtain ⟨z0, hz0, e0⟩ := List.mem_map.mp h
  unfold plV nxV
  cases e : l.find? fun z => decide (z.1.n = n) with
  | none =>
    have := List.find?_eq_none.mp e z0 hz0
    simp [e0] at this
  | some z => exact ⟨z, List.mem_of_find?_eq_some e, rfl, rfl, by simpa using List.find?_some e⟩
/-- a walk: each tick can follow the one before it -/
structure Wk (l : Vw) (s : Str) (m : Sm) (ps : List Pr) : Prop where
  ne : 0 < ps.length
  first : ∀ p, ps[0]? = some p → p ∈ firstP (plV l s) m
  next : ∀ i p q, ps[i]? = some p → ps[i + 1]? = some q → q ∈ stepP l m p.1
theorem Wk.take {l : Vw} {s : Str} {m : Sm} {ps : List Pr} (h : Wk l s m ps) {k : Nat} (hk : 0 < k) : Wk l s m (ps.take k) := by
  refine ⟨by rw [List.length_take]; have := h.ne; omega, fun p hp => ?_, fun i p q hp hq => ?_⟩
  · rw [List.getElem?_take_of_lt hk] at hp
    exact h.first p hp
  · have hl := (List.getElem?_eq_some_iff.mp hq).1
    rw [List.length_take] at hl
    rw [List.getElem?_take_of_lt (by omega)] at hp hq
    exact h.next i p q hp hq
theorem Wk.push {l : Vw} {s : Str} {m : Sm} {ps : List Pr} {p q : Pr} (h : Wk l s m ps) (hp : ps.getLast? = some p) (hq : q ∈ stepP l m p.1) : Wk l s m (ps ++ [q]) := by
  have ne := h.ne
  refine ⟨by simp, fun x hx => ?_, fun i x y hx hy => ?_⟩
  · rw [List.getElem?_append_left ne] at hx
    exact h.first x hx
  · have hl := (List.getElem?_eq_some_iff.mp hy).1
    simp at hl
    by_cases c : i + 1 < ps.length
    · rw [List.getElem?_append_left c] at hy
      rw [List.getElem?_append_left (by omega)] at hx
      exact h.next i x y hx hy
    · have ei : i + 1 = ps.length := by omega
      rw [List.getElem?_append_left (by omega)] at hx
      rw [ei, List.getElem?_append_right (Nat.le_refl _), Nat.sub_self] at hy
      cases hy
      rw [List.getLast?_eq_getElem?, show ps.length - 1 = i by omega, hx] at hp
      cases hp
      exact hq
theorem Wk.one {l : Vw} {s : Str} {m : Sm} {p : Pr} (h : p ∈ firstP (plV l s) m) : Wk l s m [p] := by
  refine ⟨by simp, fun x hx => ?_, fun i x y _ hy => ?_⟩
  · cases hx
    exact h
  · cases i <;> cases hy
/-- along a walk, tick by tick -/
theorem Wk.ind {l : Vw} {s : Str} {m : Sm} {ps : List Pr} (h : Wk l s m ps) (P : List Pr → Pr → Prop) (h0 : ∀ p ∈ firstP (plV l s) m, P [p] p) (hs : ∀ qs p q, Wk l s m qs → qs.getLast? = some p → P qs p → q ∈ stepP l m p.1 → P (qs ++ [q]) q) :
    ∀ k p, ps[k]? = some p → P (ps.take (k + 1)) p
  | 0, p, hp => by
    have e : ps.take 1 = [p] := by
      rw [List.take_add_one, hp]
      rfl
    rw [e]
    exact h0 p (h.first p hp)
  | k + 1, q, hq => by
    have hl := (List.getElem?_eq_some_iff.mp hq).1
    have hp := List.getElem?_eq_getElem (show k < ps.length by omega)
    have ih := Wk.ind h P h0 hs k _ hp
    have e : ps.take (k + 1 + 1) = ps.take (k + 1) ++ [q] := by
      rw [List.take_add_one, hq]
      rfl
    rw [e]
    refine hs _ _ q (h.take (by omega)) ?_ ih (h.next k _ q hp hq)
    rw [List.getLast?_eq_getElem?, List.length_take, show min (k + 1) ps.length - 1 = k by omega, List.getElem?_take_of_lt (by omega)]
    exact hp
theorem Wk.all {l : Vw} {s : Str} {m : Sm} {ps : List Pr} (h : Wk l s m ps) (P : List Pr → Pr → Prop) (h0 : ∀ p ∈ firstP (plV l s) m, P [p] p) (hs : ∀ qs p q, Wk l s m qs → qs.getLast? = some p → P qs p → q ∈ stepP l m p.1 → P (qs ++ [q]) q) : ∃ p, ps.getLast? = some p ∧ P ps p := by
  have ne := h.ne
  have hp := List.getElem?_eq_getElem (show ps.length - 1 < ps.length by omega)
  refine ⟨ps[ps.length - 1], by rw [List.getLast?_eq_getElem?]; exact hp, ?_⟩
  have := Wk.ind h P h0 hs _ _ hp
  rw [show ps.length - 1 + 1 = ps.length by omega, List.take_length] at this
  exact this
/-! stays of a walk -/
abbrev Sy := Str × Int
def pushS (acc : List Sy) (p : Pr) : List Sy := if p.1.sp = 1 then acc ++ [(p.1.n, 1)] else acc.dropLast ++ [(p.1.n, p.1.sp)]
def staysOf (ps : List Pr) : List Sy := ps.foldl pushS []
/-- right stays: all but the last -/
def syOk (l : Vw) (y : Sy) : Prop := (plV l y.1).l ≤ y.2 ∧ y.2 ≤ (plV l y.1).m
structure okSy (l : Vw) (s : Str) (ys : List Sy) : Prop where
  first : ∀ y, ys[0]? = some y → y.1 = s
  next : ∀ i y z, ys[i]? = some y → ys[i + 1]? = some z → z.1 ∈ nxV l y.1 ∧ syOk l y
  last : ∀ y, ys.getLast? = some y → 1 ≤ y.2 ∧ y.2 ≤ (plV l y.1).m
  names : ∀ y ∈ ys, y.1 ∈ l.map fun z => z.1.n
def ticksOf (ys : List Sy) : Int := (ys.map Prod.snd).sum
theorem sum_app (a b : List Int) : (a ++ b).sum = a.sum + b.sum := by
  induction a with
  | nil => simp
  | cons x a ih => simp [ih]; omega
theorem first_mem {d : Pl} {m : Sm} {p : Pr} (h : p ∈ firstP d m) : ∃ f ∈ shifts m, p ∈ tk d m.j 1 f (decide (m.j < f)) false := by
  unfold firstP at h
  exact List.mem_flatMap.mp h
theorem step_mem {l : Vw} {m : Sm} {s : St5} {q : Pr} (h : q ∈ stepP l m s) : (s.sp < (plV l s.n).m ∧ q ∈ tk (plV l s.n) m.j (s.sp + 1) (slotN m s) (befN m s) s.wt) ∨ ((plV l s.n).l ≤ s.sp ∧ ∃ n ∈ nxV l s.n, q ∈ tk (plV l n) m.j 1 (slotN m s) (befN m s) s.wt) := by
  unfold stepP afterP at h
  rcases List.mem_append.mp h with h | h
  · unfold stayP at h
    split at h
    · rename_i c
      exact .inl ⟨c, h⟩
    · cases h
  · split at h
    · rename_i c
      unfold goP at h
      obtain ⟨n, hn, hq⟩ := List.mem_flatMap.mp h
      exact .inr ⟨c, n, hn, hq⟩
    · cases h
theorem get_last {α : Type} {l : List α} {x : α} (h : l.getLast? = some x) : l = l.dropLast ++ [x] := by
  cases l with
  | nil => cases h
  | cons a l =>
    have hn : (a :: l) ≠ [] := List.cons_ne_nil _ _
    rw [List.getLast?_eq_some_getLast hn] at h
    cases h
    exact (List.dropLast_concat_getLast hn).symm
theorem foldl_snoc {α β : Type} (f : β → α → β) (b : β) (l : List α) (x : α) : (l ++ [x]).foldl f b = f (l.foldl f b) x := by rw [List.foldl_append]; rfl
theorem at_snoc {α : Type} {l : List α} {x y : α} {i : Nat} (h : (l ++ [x])[i]? = some y) : (i < l.length ∧ l[i]? = some y) ∨ (i = l.length ∧ y = x) := by
  by_cases c : i < l.length
  · rw [List.getElem?_append_left c] at h
    exact .inl ⟨c, h⟩
  · rw [List.getElem?_append_right (by omega)] at h
    by_cases c2 : i - l.length = 0
    · rw [c2] at h
      cases h
      exact .inr ⟨by omega, rfl⟩
    · rw [List.getElem?_eq_none (by simp; omega)] at h
      cases h
theorem stays_ok {l : Vw} {s : Str} {m : Sm} {ps : List Pr} (ol : okV l) (hs : s ∈ l.map fun z => z.1.n) (h : Wk l s m ps) : okSy l s (staysOf ps) ∧ ticksOf (staysOf ps) = (ps.length : Int) ∧ ∃ p, ps.getLast? = some p ∧ (staysOf ps).getLast? = some (p.1.n, p.1.sp) := by
  have key := h.all (P := fun qs p => okSy l s (staysOf qs) ∧ ticksOf (staysOf qs) = (qs.length : Int) ∧ (staysOf qs).getLast? = some (p.1.n, p.1.sp)) (fun p hp => ?_) (fun qs p q hw hl ⟨o, t, e⟩ hq => ?_)
  · obtain ⟨p, hp, a, b, c⟩ := key
    exact ⟨a, b, p, hp, c⟩
  · obtain ⟨f, _, hp⟩ := first_mem hp
    obtain ⟨z, hz, e1, e2, e3⟩ := plV_mem hs
    obtain ⟨t1, t2, t3⟩ := tk_mem hp
    have en : p.1.n = s := by rw [t1, e1, e3]
    have es : staysOf [p] = [(s, 1)] := by
      show pushS [] p = _
      unfold pushS
      rw [if_pos t2, en]
      rfl
    rw [es, en, t2]
    have pl := (ol.pl z hz)
    rw [← e1] at pl
    refine ⟨⟨(fun y hy => by cases hy; rfl), (fun i y w _ hw => by cases i <;> cases hw), (fun y hy => by cases hy; exact ⟨by show (1 : Int) ≤ 1; decide, by show 1 ≤ (plV l s).m; omega⟩), fun y hy => ?_⟩, by simp [ticksOf], rfl⟩
    rw [List.mem_singleton.mp hy]
    exact hs
  · have ed := get_last e
    generalize hI : (staysOf qs).dropLast = I at ed
    have ef : staysOf (qs ++ [q]) = pushS (staysOf qs) q := foldl_snoc _ _ _ _
    obtain ⟨o1, o2, o3, o4⟩ := o
    have mn : p.1.n ∈ l.map fun z => z.1.n := o4 (p.1.n, p.1.sp) (by rw [ed]; simp)
    obtain ⟨z, hz, e1, e2, e3⟩ := plV_mem mn
    have ol3 := o3 _ e
    rcases step_mem hq with ⟨c, hq⟩ | ⟨c, n, hn, hq⟩
    · obtain ⟨t1, t2, t3⟩ := tk_mem hq
      have en : q.1.n = p.1.n := by rw [t1, e1, e3]
      have es : staysOf (qs ++ [q]) = I ++ [(p.1.n, p.1.sp + 1)] := by
        rw [ef]
        unfold pushS
        rw [if_neg (by rw [t2]; have := ol3.1; simp at this ⊢; omega), hI, en, t2]
      rw [es, en, t2]
      refine ⟨⟨fun y hy => ?_, fun i y w hy hw => ?_, fun y hy => ?_, fun y hy => ?_⟩, ?_, by simp⟩
      · rw [ed] at o1
        rcases at_snoc hy with ⟨c1, hy⟩ | ⟨c1, rfl⟩
        · exact o1 y (by rw [List.getElem?_append_left c1]; exact hy)
        · exact o1 (p.1.n, p.1.sp) (by rw [c1, List.getElem?_append_right (Nat.le_refl _), Nat.sub_self]; rfl)
      · rw [ed] at o2
        have hl2 := (List.getElem?_eq_some_iff.mp hw).1
        simp at hl2
        rw [List.getElem?_append_left (by omega)] at hy
        rcases at_snoc hw with ⟨c1, hw⟩ | ⟨c1, rfl⟩
        · exact o2 i y w (by rw [List.getElem?_append_left (by omega)]; exact hy) (by rw [List.getElem?_append_left c1]; exact hw)
        · exact o2 i y (p.1.n, p.1.sp) (by rw [List.getElem?_append_left (by omega)]; exact hy) (by rw [c1, List.getElem?_append_right (Nat.le_refl _), Nat.sub_self]; rfl)
      · rw [List.getLast?_concat] at hy
        cases hy
        exact ⟨by have := ol3.1; simp at this ⊢; omega, by show p.1.sp + 1 ≤ (plV l p.1.n).m; omega⟩
      · rcases List.mem_append.mp hy with hy | hy
        · exact o4 y (by rw [ed]; exact List.mem_append_left _ hy)
        · rw [List.mem_singleton.mp hy]
          exact mn
      · rw [ed] at t
        unfold ticksOf at *
        rw [List.map_append, sum_app] at *
        simp at *
        omega
    · obtain ⟨t1, t2, t3⟩ := tk_mem hq
      rw [e2] at hn
      have mn2 := ol.nm z hz n hn
      obtain ⟨z2, hz2, f1, f2, f3⟩ := plV_mem mn2
      have en : q.1.n = n := by rw [t1, f1, f3]
      have es : staysOf (qs ++ [q]) = staysOf qs ++ [(n, 1)] := by
        rw [ef]
        unfold pushS
        rw [if_pos t2, en]
      rw [es, en, t2]
      have nz : staysOf qs ≠ [] := by rw [ed]; simp
      have lz : 0 < (staysOf qs).length := List.length_pos_iff.mpr nz
      refine ⟨⟨fun y hy => ?_, fun i y w hy hw => ?_, fun y hy => ?_, fun y hy => ?_⟩, ?_, by simp⟩
      · rw [List.getElem?_append_left lz] at hy
        exact o1 y hy
      · rcases at_snoc hw with ⟨c1, hw⟩ | ⟨c1, rfl⟩
        · rw [List.getElem?_append_left (by omega)] at hy
          exact o2 i y w hy hw
        · rw [List.getElem?_append_left (by omega)] at hy
          rw [List.getLast?_eq_getElem?, show (staysOf qs).length - 1 = i by omega, hy] at e
          cases e
          exact ⟨by rw [e2]; exact hn, c, ol3.2⟩
      · rw [List.getLast?_concat] at hy
        cases hy
        have pl := ol.pl z2 hz2
        exact ⟨by show (1 : Int) ≤ 1; decide, by show 1 ≤ (plV l n).m; rw [f1]; omega⟩
      · rcases List.mem_append.mp hy with hy | hy
        · exact o4 y hy
        · rw [List.mem_singleton.mp hy]
          exact mn2
      · unfold ticksOf at *
        rw [List.map_append, sum_app]
        simp at *
        omega
end
end W

namespace W
open PySem PySem.Spec PyProof.Rows L2
section
open S
/-! looks of a walk -/
structure Lk where
  ls : List (Option Int)
  bf : Bool
  k : Nat
def lkB (j : Int) (a : Lk) (s : St5) : Bool := if 0 < a.k ∧ s.sl = 0 then false else if a.k = 0 then decide (j < s.sl) else a.bf
def lkN (a : Lk) (s : St5) : List (Option Int) := if a.k = 0 ∨ s.sl = 0 then a.ls ++ [none] else a.ls
def stepL (j : Int) (a : Lk) (p : Pr) : Lk := ⟨if p.1.dn && !lkB j a p.1 then (lkN a p.1).dropLast ++ [some p.1.sl] else lkN a p.1, p.1.dn, a.k + 1⟩
def foldL (j : Int) (ps : List Pr) : Lk := ps.foldl (stepL j) ⟨[], false, 0⟩
def looksOf (j : Int) (ps : List Pr) : List (Option Int) := (foldL j ps).ls
def fitsB (look : Option Int) (low high j : Int) : Bool := if j < low then look.isNone else match look with
  | none => decide (high < j)
  | some v => if high < j then decide (low ≤ v) && decide (v ≤ high) else decide (low ≤ v) && decide (v ≤ j)
def lowOf (f : Int) (i : Nat) : Int := if i = 0 then f else 0
def lastOk (j : Int) (look : Option Int) (low sl : Int) (dn : Bool) : Prop := low ≤ sl ∧ ((j < low ∧ look = none ∧ dn = true) ∨ (low ≤ j ∧ look = none ∧ dn = false ∧ sl < j) ∨ (low ≤ j ∧ (∃ v, look = some v ∧ low ≤ v ∧ v ≤ sl ∧ v ≤ j) ∧ dn = true))
theorem lastOk.fits {j : Int} {look : Option Int} {low sl : Int} {dn : Bool} (h : lastOk j look low sl dn) : fitsB look low sl j = true := by
  obtain ⟨_, ⟨h1, rfl, _⟩ | ⟨h1, rfl, _, h2⟩ | ⟨h1, ⟨v, rfl, h2, h3, h4⟩, _⟩⟩ := h
  · simp [fitsB, h1]
  · unfold fitsB
    rw [if_neg (by omega)]
    simpa using h2
  · unfold fitsB
    rw [if_neg (by omega)]
    by_cases c : sl < j
    · simp [c, h2, h3]
    · simp [c, h2, h4]
theorem tk_dn {d : Pl} {j sp sl : Int} {bf wt : Bool} {p : Pr} (h : p ∈ tk d j sp sl bf wt) : (bf = true → p.1.dn = true) ∧ (p.1.dn = false → sl ≠ j) := by
  obtain ⟨du, hd, rfl⟩ := List.mem_map.mp h
  refine ⟨fun e => by simp [mkP, e], fun e c => ?_⟩
  simp only [mkP, Bool.or_eq_false_iff] at e
  obtain ⟨rfl, rfl⟩ := e
  simp [duesOf, c] at hd
structure LkI (m : Sm) (f : Int) (qs : List Pr) (p : Pr) (a : Lk) : Prop where
  k : a.k = qs.length
  bf : a.bf = p.1.dn
  sl : p.1.sl = (f + (qs.length : Int) - 1) % m.p
  len : (a.ls.length : Int) = (f + (qs.length : Int) - 1) / m.p + 1
  full : ∀ i look, a.ls[i]? = some look → i + 1 < a.ls.length → fitsB look (lowOf f i) (m.p - 1) m.j = true
  last : ∃ look, a.ls.getLast? = some look ∧ lastOk m.j look (lowOf f (a.ls.length - 1)) p.1.sl p.1.dn
theorem shift_lt {m : Sm} (ok : okSm m) {f : Int} (h : f ∈ shifts m) : 0 ≤ f ∧ f < m.p := by
  unfold shifts at h
  cases e : m.f with
  | some i =>
    rw [e] at h
    rw [List.mem_singleton.mp h]
    exact ok.f0 i e
  | none =>
    rw [e] at h
    obtain ⟨i, hi, rfl⟩ := List.mem_map.mp h
    rw [List.mem_range] at hi
    have := ok.p1
    omega
theorem drop_len {α : Type} {l : List α} {x : α} (h : 0 < l.length) : (l.dropLast ++ [x]).length = l.length := by
  rw [List.length_append, List.length_dropLast]
  simp
  omega
theorem drop_at {α : Type} {l : List α} {x y : α} {i : Nat} (h : (l.dropLast ++ [x])[i]? = some y) (hi : i + 1 < l.length) : l[i]? = some y := by
  rw [List.getElem?_append_left (by rw [List.length_dropLast]; omega), List.getElem?_dropLast, if_pos (by omega)] at h
  exact h
theorem looks_inv {l : Vw} {s : Str} {m : Sm} {ps : List Pr} (ok : okSm m) (h : Wk l s m ps) {p0 : Pr} (h0 : ps[0]? = some p0) : (0 ≤ p0.1.sl ∧ p0.1.sl < m.p) ∧ ∃ p, ps.getLast? = some p ∧ LkI m p0.1.sl ps p (foldL m.j ps) := by
  have p1 := ok.p1
  have j1 := ok.j1
  have j0 := ok.j0
  have key := h.all (P := fun qs p => ∀ f, (∃ q0, qs[0]? = some q0 ∧ q0.1.sl = f) → (0 ≤ f ∧ f < m.p) ∧ LkI m f qs p (foldL m.j qs)) (fun p hp f ⟨q0, e0, ef⟩ => ?_) (fun qs p q hw hl ih hq f ⟨q0, e0, ef⟩ => ?_)
  · obtain ⟨p, hp, k⟩ := key
    obtain ⟨a, b⟩ := k p0.1.sl ⟨p0, h0, rfl⟩
    exact ⟨a, p, hp, b⟩
  · cases e0
    obtain ⟨g, hg, hp⟩ := first_mem hp
    obtain ⟨g0, g1⟩ := shift_lt ok hg
    obtain ⟨t1, t2, t3⟩ := tk_mem hp
    obtain ⟨u1, u2⟩ := tk_dn hp
    rw [t3] at ef
    subst ef
    refine ⟨⟨g0, g1⟩, ?_⟩
    have em : (g + ((([p] : List Pr).length : Nat) : Int) - 1) = g := by simp <;> omega
    have eb : lkB m.j ⟨[], false, 0⟩ p.1 = decide (m.j < g) := by simp [lkB, t3]
    have en : lkN ⟨[], false, 0⟩ p.1 = [none] := by simp [lkN]
    have ea : foldL m.j [p] = ⟨if p.1.dn && !decide (m.j < g) then [some g] else [none], p.1.dn, 1⟩ := by
      show stepL m.j ⟨[], false, 0⟩ p = _
      unfold stepL
      rw [eb, en, t3]
      rfl
    have elen : (foldL m.j [p]).ls.length = 1 := by
      rw [ea]
      simp only
      split <;> rfl
    refine ⟨by rw [ea]; rfl, by rw [ea], by rw [em, t3, Int.emod_eq_of_lt g0 g1], by rw [elen, em, Int.ediv_eq_zero_of_lt g0 g1]; rfl, fun i look _ hi => by rw [elen] at hi; omega, ?_⟩
    rw [elen, ea]
    show ∃ look, (if (p.1.dn && !decide (m.j < g)) = true then [some g] else [none] : List (Option Int)).getLast? = some look ∧ lastOk m.j look g p.1.sl p.1.dn
    rw [t3]
    by_cases c : m.j < g
    · refine ⟨none, by simp [c], Int.le_refl _, .inl ⟨c, rfl, u1 (by simpa using c)⟩⟩
    · cases hd : p.1.dn with
      | true => exact ⟨some g, by simp [c], Int.le_refl _, .inr (.inr ⟨by omega, ⟨g, rfl, Int.le_refl _, Int.le_refl _, by omega⟩, rfl⟩)⟩
      | false =>
        have := u2 hd
        exact ⟨none, by simp, Int.le_refl _, .inr (.inl ⟨by omega, rfl, rfl, by omega⟩)⟩
  · have q0' : qs[0]? = some q0 := by
      rw [List.getElem?_append_left hw.ne] at e0
      exact e0
    obtain ⟨⟨f0, f1⟩, I⟩ := ih f ⟨q0, q0', ef⟩
    refine ⟨⟨f0, f1⟩, ?_⟩
    obtain ⟨look, el, lo, lc⟩ := I.last
    have ne := hw.ne
    have qsl : q.1.sl = slotN m p.1 ∧ (befN m p.1 = true → q.1.dn = true) ∧ (q.1.dn = false → slotN m p.1 ≠ m.j) := by
      rcases step_mem hq with ⟨_, hq⟩ | ⟨_, n, _, hq⟩
      · exact ⟨(tk_mem hq).2.2, tk_dn hq⟩
      · exact ⟨(tk_mem hq).2.2, tk_dn hq⟩
    obtain ⟨e1, e2, e3⟩ := qsl
    generalize hT : f + (qs.length : Int) - 1 = t at *
    have tsl := I.sl
    have tlen := I.len
    rw [hT] at tsl tlen
    have t0 : 0 ≤ t := by omega
    have em : f + (((qs ++ [q]).length : Nat) : Int) - 1 = t + 1 := by simp; omega
    have sn : slotN m p.1 = (t + 1) % m.p := by
      unfold slotN
      rw [tsl, Int.emod_add_emod]
    have fs : foldL m.j (qs ++ [q]) = stepL m.j (foldL m.j qs) q := foldl_snoc _ _ _ _
    have ak := I.k
    have ab := I.bf
    have afull := I.full
    generalize foldL m.j qs = a at *
    have lpos : 0 < a.ls.length := by
      cases h : a.ls with
      | nil => rw [h] at el; cases el
      | cons x y => simp
    have akp : ¬ a.k = 0 := by rw [ak]; omega
    have dm := Int.emod_add_mul_ediv t m.p
    have dm1 := Int.emod_add_mul_ediv (t + 1) m.p
    have m0 := Int.emod_nonneg t (show m.p ≠ 0 by omega)
    have m1 := Int.emod_lt_of_pos t (show 0 < m.p by omega)
    have n0 := Int.emod_nonneg (t + 1) (show m.p ≠ 0 by omega)
    have n1 := Int.emod_lt_of_pos (t + 1) (show 0 < m.p by omega)
    by_cases c : q.1.sl = 0
    · -- a new slot
      have c' : (t + 1) % m.p = 0 := by rw [← sn, ← e1]; exact c
      have hsl : p.1.sl = m.p - 1 ∧ (t + 1) / m.p = t / m.p + 1 := by
        rw [tsl]
        rw [c'] at dm1
        have hm : t % m.p = m.p - 1 := by
          by_cases cc : t % m.p = m.p - 1
          · exact cc
          · exfalso
            have h2 : (t + 1) % m.p = t % m.p + 1 := by
              rw [← Int.emod_add_emod]
              exact Int.emod_eq_of_lt (by omega) (by omega)
            omega
        refine ⟨hm, ?_⟩
        have h3 : t + 1 = m.p * (t / m.p + 1) := by
          rw [Int.mul_add, Int.mul_one]
          omega
        rw [h3]
        exact Int.mul_ediv_cancel_left _ (by omega)
      have eb : lkB m.j a q.1 = false := by
        unfold lkB
        rw [if_pos ⟨by omega, c⟩]
      have en : lkN a q.1 = a.ls ++ [none] := by
        unfold lkN
        rw [if_pos (.inr c)]
      have els : (foldL m.j (qs ++ [q])).ls = a.ls ++ [if q.1.dn then some 0 else none] := by
        rw [fs]
        show (if _ then _ else _ : List (Option Int)) = _
        rw [eb, en, c]
        cases q.1.dn <;> simp
      have ek : (foldL m.j (qs ++ [q])).k = (qs ++ [q]).length := by rw [fs]; show a.k + 1 = _; rw [ak]; simp
      have ebf : (foldL m.j (qs ++ [q])).bf = q.1.dn := by rw [fs]; rfl
      refine ⟨ek, ebf, by rw [em, ← sn]; exact e1, ?_, fun i lk hi hlt => ?_, ?_⟩
      · rw [els, em, hsl.2, List.length_append]
        simp
        omega
      · rw [els] at hi hlt
        rw [List.length_append] at hlt
        simp at hlt
        rw [List.getElem?_append_left hlt] at hi
        by_cases c2 : i + 1 < a.ls.length
        · exact afull i lk hi c2
        · have ei : i = a.ls.length - 1 := by omega
          subst ei
          rw [List.getLast?_eq_getElem?, hi] at el
          cases el
          have lf : lastOk m.j _ (lowOf f (a.ls.length - 1)) p.1.sl p.1.dn := ⟨lo, lc⟩
          have := lf.fits
          rw [hsl.1] at this
          exact this
      · rw [els]
        refine ⟨_, List.getLast?_concat, ?_⟩
        have lw : lowOf f ((a.ls ++ [if q.1.dn then some 0 else none]).length - 1) = 0 := by
          have hl : (a.ls ++ [if q.1.dn then some 0 else none]).length - 1 = a.ls.length := by simp
          rw [hl]
          unfold lowOf
          rw [if_neg (by omega)]
        rw [lw, c]
        refine ⟨Int.le_refl _, ?_⟩
        cases hd : q.1.dn with
        | true => exact .inr (.inr ⟨j0, ⟨0, rfl, Int.le_refl _, Int.le_refl _, j0⟩, rfl⟩)
        | false =>
          have := e3 hd
          rw [← e1, c] at this
          exact .inr (.inl ⟨j0, rfl, rfl, by omega⟩)
    · -- the same slot
      have c' : (t + 1) % m.p ≠ 0 := by rw [← sn, ← e1]; exact c
      have hsl : (t + 1) % m.p = t % m.p + 1 ∧ (t + 1) / m.p = t / m.p := by
        have hm : t % m.p + 1 < m.p := by
          by_cases cc : t % m.p + 1 < m.p
          · exact cc
          · exfalso
            have h3 : t + 1 = m.p * (t / m.p + 1) := by
              rw [Int.mul_add, Int.mul_one]
              omega
            rw [h3, Int.mul_emod_right] at c'
            exact c' rfl
        have h2 : (t + 1) % m.p = t % m.p + 1 := by
          rw [← Int.emod_add_emod]
          exact Int.emod_eq_of_lt (by omega) hm
        refine ⟨h2, ?_⟩
        have h4 : m.p * ((t + 1) / m.p) = m.p * (t / m.p) := by omega
        exact Int.eq_of_mul_eq_mul_left (by omega) h4
      have eqs : q.1.sl = p.1.sl + 1 := by rw [e1, sn, hsl.1, tsl]
      have eb : lkB m.j a q.1 = p.1.dn := by
        unfold lkB
        rw [if_neg (fun z => c z.2), if_neg akp, ab]
      have en : lkN a q.1 = a.ls := by
        unfold lkN
        rw [if_neg (fun z => z.elim akp c)]
      have els : (foldL m.j (qs ++ [q])).ls = if q.1.dn && !p.1.dn then a.ls.dropLast ++ [some q.1.sl] else a.ls := by
        rw [fs]
        show (if _ then _ else _ : List (Option Int)) = _
        rw [eb, en]
      have ek : (foldL m.j (qs ++ [q])).k = (qs ++ [q]).length := by rw [fs]; show a.k + 1 = _; rw [ak]; simp
      have ebf : (foldL m.j (qs ++ [q])).bf = q.1.dn := by rw [fs]; rfl
      have elen : (foldL m.j (qs ++ [q])).ls.length = a.ls.length := by
        rw [els]
        split
        · exact drop_len lpos
        · rfl
      have bef : befN m p.1 = p.1.dn := by
        unfold befN
        rw [← e1]
        have : 0 < q.1.sl := by rw [e1, sn]; omega
        simp [this]
      rw [bef] at e2
      refine ⟨ek, ebf, by rw [em, ← sn]; exact e1, by rw [elen, em, hsl.2]; exact tlen, fun i lk hi hlt => ?_, ?_⟩
      · rw [elen] at hlt
        refine afull i lk ?_ hlt
        rw [els] at hi
        split at hi
        · exact drop_at hi hlt
        · exact hi
      · rw [elen]
        rcases lc with ⟨a1, a2, a3⟩ | ⟨a1, a2, a3, a4⟩ | ⟨a1, a2, a3⟩
        · refine ⟨look, ?_, by omega, .inl ⟨a1, a2, e2 a3⟩⟩
          rw [els, a3]
          simpa using el
        · cases hd : q.1.dn with
          | true =>
            refine ⟨some q.1.sl, ?_, by omega, .inr (.inr ⟨a1, ⟨_, rfl, by omega, Int.le_refl _, by omega⟩, rfl⟩)⟩
            rw [els, hd, a3]
            simp
          | false =>
            have := e3 hd
            rw [← e1] at this
            refine ⟨look, ?_, by omega, .inr (.inl ⟨a1, a2, rfl, by omega⟩)⟩
            rw [els, hd]
            simpa using el
        · obtain ⟨v, rfl, b1, b2, b3⟩ := a2
          refine ⟨some v, ?_, by omega, .inr (.inr ⟨a1, ⟨v, rfl, b1, by omega, b3⟩, e2 a3⟩)⟩
          rw [els, a3]
          simpa using el
/-- all looks of a walk fit -/
theorem looks_ok {l : Vw} {s : Str} {m : Sm} {ps : List Pr} (ok : okSm m) (h : Wk l s m ps) {p0 : Pr} (h0 : ps[0]? = some p0) : (0 ≤ p0.1.sl ∧ p0.1.sl < m.p) ∧ ((looksOf m.j ps).length : Int) = (p0.1.sl + (ps.length : Int) - 1) / m.p + 1 ∧
    ∀ i look, (looksOf m.j ps)[i]? = some look → fitsB look (lowOf p0.1.sl i) (if (i : Int) = (p0.1.sl + (ps.length : Int) - 1) / m.p then (p0.1.sl + (ps.length : Int) - 1) % m.p else m.p - 1) m.j = true := by
  obtain ⟨a, p, hp, I⟩ := looks_inv ok h h0
  refine ⟨a, I.len, fun i look hi => ?_⟩
  have hl := (List.getElem?_eq_some_iff.mp hi).1
  have il := I.len
  unfold looksOf at hi hl
  by_cases c : i + 1 < (foldL m.j ps).ls.length
  · rw [if_neg (by omega)]
    exact I.full i look hi c
  · rw [if_pos (by omega), ← I.sl]
    obtain ⟨lk, e1, e2⟩ := I.last
    have ei : i = (foldL m.j ps).ls.length - 1 := by omega
    rw [List.getLast?_eq_getElem?, ← ei, hi] at e1
    cases e1
    rw [ei]
    exact e2.fits
end
end W

namespace W
open PySem PySem.Spec PyProof.Rows L2
section
variable {P : Program} {w : World} {K : S.Frag} {mg : Str → Option Value} {base : Heap}
open S
/-! the law's own walks -/
theorem tk_ne (d : Pl) (j sp sl : Int) (bf wt : Bool) : tk d j sp sl bf wt ≠ [] := by
  unfold tk duesOf
  cases bf <;> by_cases c : sl = j <;> simp [c]
theorem first_ne (d : Pl) {m : Sm} (ok : okSm m) : firstP d m ≠ [] := by
  have hs : ∃ f, f ∈ shifts m := by
    unfold shifts
    cases m.f with
    | some i => exact ⟨i, List.mem_singleton.mpr rfl⟩
    | none => exact ⟨0, List.mem_map.mpr ⟨0, List.mem_range.mpr (by have := ok.p1; omega), rfl⟩⟩
  obtain ⟨f, hf⟩ := hs
  intro e
  have := tk_ne d m.j 1 f (decide (m.j < f)) false
  cases h : tk d m.j 1 f (decide (m.j < f)) false with
  | nil => exact this h
  | cons x xs =>
    have : x ∈ firstP d m := List.mem_flatMap.mpr ⟨f, hf, by rw [h]; exact List.mem_cons_self⟩
    rw [e] at this
    cases this
theorem Wk.name {l : Vw} {s : Str} {m : Sm} {ps : List Pr} {p : Pr} (ol : okV l) (hs : s ∈ l.map fun z => z.1.n) (h : Wk l s m ps) (hp : ps.getLast? = some p) : p.1.n ∈ l.map fun z => z.1.n := by
  obtain ⟨o, _, q, hq, e⟩ := stays_ok ol hs h
  rw [hp] at hq
  cases hq
  exact o.names _ (List.mem_of_getLast? e)
theorem step_len {rows : List Rw} (ok : okRows rows) {r : Rw} (hr : r ∈ rows) (m : Sm) (st : St5) (e : st.n = r.d.n) : stepP (vw rows) m st = afterP (vw rows) r.d r.nx m st := by
  unfold stepP
  rw [e, plV_at ok.nd hr, nxV_at ok.nd hr]
theorem snds_last {zs : List (Addr × Pr)} {z : Addr × Pr} : (snds (zs ++ [z])).getLast? = some z.2 := by
  rw [snds_app]
  exact List.getLast?_concat
def spWalk (K : S.Frag) : Sp := Sp6 fun x y z u v t H Q _ => ∃ (R sa a : Addr) (rows : List Rw) (m : Sm) (b : Str) (ns : List Int) (fh many : Int), x = .ref R ∧ RowsAt H R rows ∧ okRows rows ∧ y = .ref sa ∧ H sa = some (.lst (specL m)) ∧ okSm m ∧ z = .str b ∧ b ∈ rNames rows ∧ u = .ref a ∧ SqL K H a (ns.map V.int) ∧ v = .int fh ∧ 0 ≤ fh ∧ t = .int many ∧ 1 ≤ many ∧ many ≤ 1000 ∧
  ∀ L zs H', H L = none → Same H H' → PrsA H' L zs → Wk (vw rows) b m (snds zs) → (zs.length : Int) ≤ many → Q (.ref L) H'
end
end W

namespace W
open PySem PySem.Spec PyProof.Rows L2
section
variable {P : Program} {w : World} {K : S.Frag} {mg : Str → Option Value} {base : Heap}
open S
/-! the law's own stays and looks -/
def SysA (H : Hp) (L : Addr) (ws : List (Addr × Sy)) : Prop := H L = some (.lst (ws.map fun z => .ref z.1)) ∧ ∀ z ∈ ws, H z.1 = some (.tup [.str z.2.1, .int z.2.2])
theorem SysA.same {H H' : Hp} {L : Addr} {ws : List (Addr × Sy)} (h : SysA H L ws) (e : Same H H') : SysA H' L ws := ⟨e _ _ h.1, fun z hz => e _ _ (h.2 z hz)⟩
theorem SysA.put {H : Hp} {L : Addr} {ws : List (Addr × Sy)} {xs : List V} (h : ∀ z ∈ ws, H z.1 = some (.tup [.str z.2.1, .int z.2.2])) (hL : H L = some (.lst xs)) : ∀ z ∈ ws, upd H L (.lst (ws.map fun z => .ref z.1)) z.1 = some (.tup [.str z.2.1, .int z.2.2]) := fun z hz => by
  rw [upd_ne (ne_of (h z hz) hL (by intro e; cases e))]
  exact h z hz
theorem stays_len (ps : List Pr) : (staysOf ps).length ≤ ps.length := by
  have key : ∀ (ps : List Pr) (acc : List Sy), (ps.foldl pushS acc).length ≤ acc.length + ps.length := by
    intro ps
    induction ps with
    | nil => intro acc; simp
    | cons p ps ih =>
      intro acc
      have h1 := ih (pushS acc p)
      have h2 : (pushS acc p).length ≤ acc.length + 1 := by
        unfold pushS
        split <;> simp
      simp only [List.foldl_cons, List.length_cons]
      omega
  have := key ps []
  simpa [staysOf] using this
def stkOk (ps : List Pr) : Prop := ∀ i p, ps[i]? = some p → p.1.sp ≠ 1 → staysOf (ps.take i) ≠ []
theorem Wk.stkOk {l : Vw} {s : Str} {m : Sm} {ps : List Pr} (ol : okV l) (hs : s ∈ l.map fun z => z.1.n) (h : Wk l s m ps) : stkOk ps := by
  intro i p hp e
  cases i with
  | zero =>
    obtain ⟨f, _, hf⟩ := first_mem (h.first p hp)
    exact absurd (tk_mem hf).2.1 e
  | succ i =>
    obtain ⟨_, _, q, _, hq⟩ := stays_ok ol hs (h.take (k := i + 1) (by omega))
    intro e
    rw [e] at hq
    cases hq
theorem set_last {α : Type} (l : List α) (x : α) (h : l ≠ []) : l.set (l.length - 1) x = l.dropLast ++ [x] := by
  have hl : 0 < l.length := List.length_pos_iff.mpr h
  refine List.ext_getElem? fun i => ?_
  by_cases c : i < l.length - 1
  · rw [List.getElem?_set_ne (by omega), List.getElem?_append_left (by rw [List.length_dropLast]; exact c), List.getElem?_dropLast, if_pos c]
  · by_cases c2 : i = l.length - 1
    · subst c2
      rw [List.getElem?_set_self (by omega), List.getElem?_append_right (by rw [List.length_dropLast]; omega), List.length_dropLast, Nat.sub_self]
      rfl
    · rw [List.getElem?_eq_none (by rw [List.length_set]; omega), List.getElem?_eq_none (by rw [List.length_append, List.length_dropLast]; simp; omega)]
theorem ixN_last {n : Nat} (h : 0 < n) : ixN n (-1) = some (n - 1) := by
  unfold ixN
  rw [if_neg (by omega), if_pos (by omega)]
  congr 1
  omega
def spStays (K : S.Frag) : Sp := Sp1 fun x H Q _ => ∃ (L : Addr) (zs : List (Addr × Pr)), x = .ref L ∧ PrsA H L zs ∧ zs.length ≤ 1000 ∧ stkOk (snds zs) ∧
  ∀ O ws H', H O = none → Same H H' → SysA H' O ws → ws.map Prod.snd = staysOf (snds zs) → Q (.ref O) H'
/-! looks -/
def lkV : Option Int → V
  | none => .non
  | some i => .int i
theorem foldL_k (j : Int) (ps : List Pr) : (foldL j ps).k = ps.length := by
  have key : ∀ (ps : List Pr) (a : Lk), (ps.foldl (stepL j) a).k = a.k + ps.length := by
    intro ps
    induction ps with
    | nil => intro a; rfl
    | cons p ps ih =>
      intro a
      rw [List.foldl_cons, ih, List.length_cons]
      show a.k + 1 + _ = _
      omega
  have := key ps ⟨[], false, 0⟩
  simpa [foldL] using this
theorem stepL_pos (j : Int) (a : Lk) (p : Pr) (h : a.k = 0 ∨ 0 < a.ls.length) : 0 < (lkN a p.1).length ∧ (stepL j a p).ls.length = (lkN a p.1).length ∧ (lkN a p.1).length ≤ a.ls.length + 1 := by
  have h1 : 0 < (lkN a p.1).length := by
    unfold lkN
    split
    · simp
    · rename_i c
      rcases h with h | h
      · exact absurd (.inl h) c
      · exact h
  refine ⟨h1, ?_, ?_⟩
  · unfold stepL
    split
    · exact drop_len h1
    · rfl
  · unfold lkN
    split <;> simp
theorem foldL_snoc (j : Int) (ps : List Pr) (p : Pr) : foldL j (ps ++ [p]) = stepL j (foldL j ps) p := foldl_snoc _ _ _ _
theorem foldL_len (j : Int) (ps : List Pr) : ∀ i, i ≤ ps.length → (foldL j (ps.take i)).ls.length ≤ i ∧ (0 < i → 0 < (foldL j (ps.take i)).ls.length)
  | 0, _ => by
    rw [List.take_zero]
    exact ⟨Nat.le_refl _, fun h => by omega⟩
  | i + 1, h => by
    obtain ⟨h1, h2⟩ := foldL_len j ps i (by omega)
    have hp := List.getElem?_eq_getElem (show i < ps.length by omega)
    have e : ps.take (i + 1) = ps.take i ++ [ps[i]] := by
      rw [List.take_add_one, hp]
      rfl
    rw [e, foldL_snoc]
    have ek : (foldL j (ps.take i)).k = i := by rw [foldL_k, List.length_take]; omega
    obtain ⟨a, b, c⟩ := stepL_pos j (foldL j (ps.take i)) ps[i] (by
      cases i with
      | zero => exact .inl ek
      | succ i => exact .inr (h2 (by omega)))
    omega
def spLooks (K : S.Frag) : Sp := Sp2 fun x y H Q _ => ∃ (L sa : Addr) (zs : List (Addr × Pr)) (m : Sm), x = .ref L ∧ PrsA H L zs ∧ zs.length ≤ 1000 ∧ y = .ref sa ∧ H sa = some (.lst (specL m)) ∧
  ∀ O, H O = none → Q (.ref O) (upd H O (.lst ((looksOf m.j (snds zs)).map lkV)))
end
end W

namespace W
open PySem PySem.Spec PyProof.Rows L2
section
variable {P : Program} {w : World} {K : S.Frag} {mg : Str → Option Value} {base : Heap}
open S
/-! records -/
theorem upd_nn {H : Hp} {a b : Addr} {o : HO} (e : upd H a o b = none) : H b = none := by
  unfold upd at e
  split at e
  · cases e
  · exact e
def tmK (ns : List Str) (f : Str → Int) : List (Key × V) := ns.map fun n => (.inr n, .int (f n))
def bump (f : Str → Int) (n : Str) : Str → Int := fun x => if x = n then f x + 1 else f x
theorem tmK_get {ns : List Str} {f : Str → Int} {n : Str} (h : n ∈ ns) : valV (tmK ns f) (.inr n) = some (.int (f n)) := by
  unfold valV
  cases e : (tmK ns f).find? fun kv => decide (kv.1 = Sum.inr n) with
  | none =>
    have := List.find?_eq_none.mp e (.inr n, .int (f n)) (List.mem_map.mpr ⟨n, h, rfl⟩)
    simp at this
  | some kv =>
    have h1 := List.find?_some e
    obtain ⟨x, hx, rfl⟩ := List.mem_map.mp (List.mem_of_find?_eq_some e)
    have h2 : x = n := by simpa using h1
    subst h2
    rfl
theorem tmK_put {ns : List Str} {f : Str → Int} {n : Str} (h : n ∈ ns) : putK (tmK ns f) (.inr n) (.int (f n + 1)) = tmK ns (bump f n) := by
  unfold putK
  have hy : ((tmK ns f).any fun kv => decide (kv.1 = Sum.inr n)) = true := List.any_eq_true.mpr ⟨(.inr n, .int (f n)), List.mem_map.mpr ⟨n, h, rfl⟩, by simp⟩
  rw [if_pos hy]
  unfold tmK
  rw [List.map_map]
  refine List.map_congr_left fun x _ => ?_
  show (if (Sum.inr x : Key) = Sum.inr n then _ else _) = _
  unfold bump
  by_cases c : x = n
  · subst c
    simp
  · rw [if_neg (fun e => c (by injection e)), if_neg c]
theorem tmK_new {ns : List Str} {f : Str → Int} {i : Nat} {n : Str} (nd : ns.Nodup) (h : ns[i]? = some n) : putK (tmK (ns.take i) f) (.inr n) (.int (f n)) = tmK (ns.take (i + 1)) f := by
  rw [putK_new]
  · unfold tmK
    rw [List.take_add_one, h, List.map_append]
    rfl
  · intro q hq e
    obtain ⟨x, hx, rfl⟩ := List.mem_map.mp hq
    have en : x = n := by injection e
    refine nodup_take nd h ?_
    rw [← en]
    exact hx
theorem tmK_len (ns : List Str) (f : Str → Int) : (tmK ns f).length = ns.length := List.length_map _
structure Rc where
  t : Int
  tm : Str → Int
  ns : List (Int × Str)
  wt : Bool
  lo : Int
def seeR (R : Rc) (n : Str) (lt due : Bool) : Rc := ⟨R.t + 1, bump R.tm n, if (R.wt || due) && lt then R.ns ++ [(R.t, n)] else R.ns, (R.wt || due) && !lt, if due && R.wt then R.lo + 1 else R.lo⟩
def fldR (D N : Addr) (t : Int) (wt : Bool) (lo : Int) : List (Str × V) := [("ticks", .int t), ("times", .ref D), ("notes", .ref N), ("waiting", .bl wt), ("lost", .int lo)]
theorem lr_ticks (D N : Addr) (t : Int) (wt : Bool) (lo : Int) : (fldR D N t wt lo).lookup ("ticks" : Str) = some (.int t) := by
  unfold fldR
  rw [lookup_put, if_pos rfl]
theorem lr_times (D N : Addr) (t : Int) (wt : Bool) (lo : Int) : (fldR D N t wt lo).lookup ("times" : Str) = some (.ref D) := by
  unfold fldR
  rw [lookup_put, if_neg (by decide +kernel), lookup_put, if_pos rfl]
theorem lr_notes (D N : Addr) (t : Int) (wt : Bool) (lo : Int) : (fldR D N t wt lo).lookup ("notes" : Str) = some (.ref N) := by
  unfold fldR
  rw [lookup_put, if_neg (by decide +kernel), lookup_put, if_neg (by decide +kernel), lookup_put, if_pos rfl]
theorem lr_waiting (D N : Addr) (t : Int) (wt : Bool) (lo : Int) : (fldR D N t wt lo).lookup ("waiting" : Str) = some (.bl wt) := by
  unfold fldR
  rw [lookup_put, if_neg (by decide +kernel), lookup_put, if_neg (by decide +kernel), lookup_put, if_neg (by decide +kernel), lookup_put, if_pos rfl]
theorem lr_lost (D N : Addr) (t : Int) (wt : Bool) (lo : Int) : (fldR D N t wt lo).lookup ("lost" : Str) = some (.int lo) := by
  unfold fldR
  rw [lookup_put, if_neg (by decide +kernel), lookup_put, if_neg (by decide +kernel), lookup_put, if_neg (by decide +kernel), lookup_put, if_neg (by decide +kernel), lookup_put, if_pos rfl]
theorem pr_ticks (D N : Addr) (t t' : Int) (wt : Bool) (lo : Int) : putF "ticks" (.int t') (fldR D N t wt lo) = fldR D N t' wt lo := rfl
theorem pr_waiting (D N : Addr) (t : Int) (wt wt' : Bool) (lo : Int) : putF "waiting" (.bl wt') (fldR D N t wt lo) = fldR D N t wt' lo := rfl
theorem pr_lost (D N : Addr) (t : Int) (wt : Bool) (lo lo' : Int) : putF "lost" (.int lo') (fldR D N t wt lo) = fldR D N t wt lo' := rfl
structure RcF (K : S.Frag) (H : Hp) (a dx D N : Addr) (ws : List (Addr × (Int × Str))) (names : List Str) (R : Rc) : Prop where
  at_ : H a = some (.ins (He.ga K "Record") dx (fldR D N R.t R.wt R.lo))
  tm : H D = some (.dK (tmK names R.tm))
  nt : H N = some (.lst (ws.map fun z => .ref z.1))
  tu : ∀ z ∈ ws, H z.1 = some (.tup [.int z.2.1, .str z.2.2])
  ns : ws.map Prod.snd = R.ns
theorem RcF.same {H H' : Hp} {a dx D N : Addr} {ws : List (Addr × (Int × Str))} {names : List Str} {R : Rc} (h : RcF K H a dx D N ws names R) (e : Same H H') : RcF K H' a dx D N ws names R := ⟨e _ _ h.at_, e _ _ h.tm, e _ _ h.nt, fun z hz => e _ _ (h.tu z hz), h.ns⟩
def R0 : Rc := ⟨0, fun _ => 0, [], false, 0⟩
def spRcI (K : S.Frag) : Sp := Sp2 fun self x H Q _ => ∃ (p dx u : Addr) (names : List Str), self = .ref p ∧ H p = some (.ins (He.ga K "Record") dx []) ∧ x = .ref u ∧ H u = some (.tup (names.map V.str)) ∧ names.Nodup ∧ names.length ≤ 6 ∧
  ∀ H' D N, Kp p H H' → H D = none → H N = none → RcF K H' p dx D N [] names R0 → Q .non H'
theorem ok_Record___init__ (T : Txt K mg) : FnOk P w K mg base (L2.CX P w) 1 (He.fAd K ("Record", some "__init__")) (S.fdA K ("Record", some "__init__")) ["self", "names"] (spRcI K) := by
  refine FunD.ok T.F_Record___init__ sc_Record___init__ (fun vs H Q E h => S.splen2 h) (fun cdv A outer s H vs Q E hr h => ?_)
  have hu := hu_of hr
  refine ⟨_, (pss_cons (S.ps_fldK (K := K) rfl (pv 0) pe_int rfl)
      (pss_cons (S.ps_fldK (K := K) rfl (pv 0) (pe_dc (own := [("name", 2)]) (g := gName 2) (tt := tYes) rfl sc_Record___init__.nd (S.pi_seqK (K := K) rfl (pv 1)) (blkOk_by (N := ["self", "names", "name"]) (sc := defScope s_Record___init__) (by decide +kernel)) (fun _ _ _ _ _ => (pg_name (i := 2) sc_Record___init__.nd rfl (by first | exact Or.inl rfl | exact Or.inr rfl))) (fun _ _ _ _ _ => pts_nil) (fun _ _ _ _ _ => (pv 2)) (fun _ _ _ _ _ => pe_int)) rfl)
      (pss_cons (S.ps_fldK (K := K) rfl (pv 0) (pe_lst pa_nil) rfl)
      (pss_cons (S.ps_fldK (K := K) rfl (pv 0) pe_bl rfl)
      (pss_one (S.ps_fldK (K := K) rfl (pv 0) pe_int rfl)))))), ?_⟩
  obtain ⟨_, _, rfl, p, dx, u, names, rfl, hp, rfl, hu2, nd, ln, q⟩ := h
  have nup : u ≠ p := ne_of hu2 hp (by intro e; cases e)
  refine ⟨_, rfl, p, _, dx, _, rfl, hp, T.cl_Record, T.na_Record_ticks, (by show 0 < 1000; decide), ?_⟩
  have k1 : Kp p H (upd H p (.ins (He.ga K "Record") dx (putF "ticks" (.int 0) []))) := Kp.put
  have hp1 : upd H p (.ins (He.ga K "Record") dx (putF "ticks" (.int 0) [])) p = some (.ins (He.ga K "Record") dx (putF "ticks" (.int 0) [])) := upd_same
  have hu1 := k1 _ _ nup hu2
  have fr1 : ∀ b, upd H p (.ins (He.ga K "Record") dx (putF "ticks" (.int 0) [])) b = none → H b = none := fun b e => upd_nn e
  generalize upd H p (.ins (He.ga K "Record") dx (putF "ticks" (.int 0) [])) = H1 at *
  refine ⟨_, rfl, u, _, rfl, .inr (.inl (.inl hu1)), fun It wk d hd => dc_it wk (fun i J => Same H1 J ∧ J d = some (.dK (tmK (names.take i) fun _ => 0))) ⟨Same.new hd, upd_same⟩ (fun i J _ h => h.1) ?_ ?_⟩
  · rintro i v J J' hi ⟨sJ, ed⟩ ⟨rfl, hv⟩
    rw [List.getElem?_map] at hv
    obtain ⟨z, hz, rfl⟩ := Option.map_eq_some_iff.mp hv
    refine ⟨rfl, yesT ?_⟩
    refine iteT ⟨_, rfl, _, .inr z, rfl, ed, ?_, Same.upd sJ hd, ?_⟩
    · rw [tmK_len, List.length_take]
      exact Nat.lt_of_le_of_lt (show min i names.length ≤ 100 by omega) (by decide)
    · rw [upd_same]
      exact congrArg (fun z => some (HO.dK z)) (tmK_new (f := fun _ => 0) nd hz)
  · rintro J ⟨sJ, ed⟩
    rw [List.length_map, List.take_length] at ed
    have ndp : d ≠ p := fun e => by rw [e, hp1] at hd; cases hd
    refine ⟨_, rfl, p, _, dx, _, rfl, sJ _ _ hp1, T.cl_Record, T.na_Record_times, (by show 1 < 1000; decide), by decide, fun N hN => ?_⟩
    have nNp : N ≠ p := fun e => by rw [e, upd_same] at hN; cases hN
    have nNd : N ≠ d := fun e => by rw [e, upd_ne ndp, ed] at hN; cases hN
    have hN1 : H1 N = none := sJ.free (upd_nn hN)
    refine ⟨_, rfl, p, _, dx, _, rfl, by rw [upd_ne nNp.symm]; exact upd_same, T.cl_Record, T.na_Record_notes, (by show 2 < 1000; decide), ?_⟩
    refine ⟨_, rfl, p, _, dx, _, rfl, upd_same, T.cl_Record, T.na_Record_waiting, (by show 3 < 1000; decide), ?_⟩
    refine ⟨_, rfl, p, _, dx, _, rfl, upd_same, T.cl_Record, T.na_Record_lost, (by show 4 < 1000; decide), ?_⟩
    have kp : ∀ b o, b ≠ p → b ≠ N → J b = some o → upd (upd (upd (upd (upd J p (.ins (He.ga K "Record") dx (putF "times" (.ref d) (putF "ticks" (.int 0) [])))) N (.lst [])) p (.ins (He.ga K "Record") dx (putF "notes" (.ref N) (putF "times" (.ref d) (putF "ticks" (.int 0) []))))) p (.ins (He.ga K "Record") dx (putF "waiting" (.bl false) (putF "notes" (.ref N) (putF "times" (.ref d) (putF "ticks" (.int 0) [])))))) p (.ins (He.ga K "Record") dx (putF "lost" (.int 0) (putF "waiting" (.bl false) (putF "notes" (.ref N) (putF "times" (.ref d) (putF "ticks" (.int 0) [])))))) b = some o := fun b o n1 n2 hb => by
      rw [upd_ne n1, upd_ne n1, upd_ne n1, upd_ne n2, upd_ne n1]
      exact hb
    refine q _ d N (fun b o nb hb => kp b o nb (ne_of_none (sJ _ _ (k1 b o nb hb)) (upd_nn hN)) (sJ _ _ (k1 b o nb hb))) (fr1 d hd) (fr1 N hN1) ⟨upd_same, kp d _ ndp nNd.symm ed, ?_, fun z hz => (by cases hz), rfl⟩
    rw [upd_ne nNp, upd_ne nNp, upd_ne nNp, upd_same]
    rfl
def spSee (K : S.Frag) : Sp := Sp4 fun x y z u H Q _ => ∃ (a dx D N : Addr) (ws : List (Addr × (Int × Str))) (names : List Str) (R : Rc) (n : Str) (lt due : Bool), x = .ref a ∧ RcF K H a dx D N ws names R ∧ y = .str n ∧ n ∈ names ∧ names.Nodup ∧ names.length ≤ 6 ∧ z = .bl lt ∧ u = .bl due ∧ ws.length ≤ 2000 ∧
  ∀ H' v ws', (∀ b o, b ≠ a → b ≠ D → b ≠ N → H b = some o → H' b = some o) → ws'.length ≤ ws.length + 1 → RcF K H' a dx D N ws' names (seeR R n lt due) → Q v H'
theorem ok_Record_see (T : Txt K mg) : FnOk P w K mg base (L2.CX P w) 1 (He.fAd K ("Record", some "see")) (S.fdA K ("Record", some "see")) ["self", "name", "let", "due"] (spSee K) := by
  refine FunD.ok T.F_Record_see sc_Record_see (fun vs H Q E h => S.splen4 h) (fun cdv A outer s H vs Q E hr h => ?_)
  have hu := hu_of hr
  refine ⟨_, (pss_cons (ps_set (i := 4) sc_Record_see.nd rfl (by first | exact Or.inl rfl | exact Or.inr rfl) pe_non)
      (S.pss_cut (ps_if (pt_val (pv 3)) (pss_cons (ps_if (pt_val (S.pe_fldK (K := K) rfl (pv 0) rfl)) (pss_one (S.ps_fldaugK (K := K) rfl (pv 0) pe_int in_add)) pss_nil)
      (pss_one (S.ps_fldK (K := K) rfl (pv 0) pe_bl rfl))) pss_nil)
      (S.pss_cut (ps_if (PW.pt (pw_and (pt_val (S.pe_fldK (K := K) rfl (pv 0) rfl)) (pw_and1 (pt_val (pv 2))))) (pss_cons (ps_expr (pe_bm PySem.F.plainAttrs_list PySem.F.slot_list_append PySem.F.type_list_append mt_append (S.pe_fldK (K := K) rfl (pv 0) rfl) (pa_cons (pe_tup (pa_cons (S.pe_fldK (K := K) rfl (pv 0) rfl) (pa_cons (pv 1) pa_nil))) pa_nil)))
      (pss_cons (S.ps_fldK (K := K) rfl (pv 0) pe_bl rfl)
      (pss_one (ps_set (i := 4) sc_Record_see.nd rfl (by first | exact Or.inl rfl | exact Or.inr rfl) (pv 1))))) pss_nil)
      (pss_cons (ps_daug hu (S.pe_fldK (K := K) rfl (pv 0) rfl) (pv 1) pe_int in_add (fun _ _ _ => rfl))
      (pss_cons (S.ps_fldaugK (K := K) rfl (pv 0) pe_int in_add)
      (pss_one (ps_ret (pv 4)))))))), ?_⟩
  obtain ⟨_, _, _, _, rfl, a, dx, D, N, ws, names, R, n, lt, due, rfl, F, rfl, hn, nd, ln, rfl, rfl, lw, q⟩ := h
  have naD : D ≠ a := ne_of F.tm F.at_ (by intro e; cases e)
  have naN : N ≠ a := ne_of F.nt F.at_ (by intro e; cases e)
  have nDN : D ≠ N := ne_of F.tm F.nt (by intro e; cases e)
  generalize hlo : (if due && R.wt then R.lo + 1 else R.lo) = lo2
  refine ⟨fun σ J => (∀ b o, b ≠ a → H b = some o → J b = some o) ∧ J a = some (.ins (He.ga K "Record") dx (fldR D N R.t (R.wt || due) lo2)) ∧ σ = [some (.ref a), some (.str n), some (.bl lt), some (.bl due), some .non], ?_, ?_⟩
  · refine ⟨_, rfl, _, rfl, ?_⟩
    cases due with
    | false =>
      refine iteF ⟨fun _ _ _ h => h, ?_, rfl⟩
      rw [F.at_, ← hlo]
      simp
    | true =>
      refine iteT ⟨_, rfl, a, _, dx, _, _, rfl, F.at_, T.cl_Record, T.na_Record_waiting, lr_waiting _ _ _ _ _, _, rfl, ?_⟩
      cases c : R.wt with
      | true =>
        refine iteT ⟨_, rfl, a, _, dx, _, _, rfl, F.at_, T.cl_Record, T.na_Record_lost, lr_lost _ _ _ _ _, _, _, rfl, rfl, dx, _, F.at_, (by show 5 < 1000; decide), ?_⟩
        refine ⟨_, rfl, a, _, dx, _, rfl, upd_same, T.cl_Record, T.na_Record_waiting, (by show 5 < 1000; decide), fun b o nb hb => by rw [upd_ne nb, upd_ne nb]; exact hb, ?_, rfl⟩
        rw [upd_same, ← hlo, c]
        rfl
      | false =>
        refine iteF ⟨_, rfl, a, _, dx, _, rfl, F.at_, T.cl_Record, T.na_Record_waiting, (by show 5 < 1000; decide), fun b o nb hb => by rw [upd_ne nb]; exact hb, ?_, rfl⟩
        rw [upd_same, ← hlo, c]
        rfl
  rintro σ J ⟨kJ, eJ, rfl⟩
  have ntJ := kJ _ _ naN F.nt
  have tuJ : ∀ z ∈ ws, J z.1 = some (.tup [.int z.2.1, .str z.2.2]) := fun z hz => kJ _ _ (ne_of (F.tu z hz) F.at_ (by intro e; cases e)) (F.tu z hz)
  refine ⟨fun σ J2 => ∃ (ws' : List (Addr × (Int × Str))) (v4 : V), (∀ b o, b ≠ a → b ≠ N → J b = some o → J2 b = some o) ∧ J2 a = some (.ins (He.ga K "Record") dx (fldR D N R.t ((R.wt || due) && !lt) lo2)) ∧ J2 N = some (.lst (ws'.map fun z => .ref z.1)) ∧ (∀ z ∈ ws', J2 z.1 = some (.tup [.int z.2.1, .str z.2.2])) ∧ ws'.map Prod.snd = (if (R.wt || due) && lt then R.ns ++ [(R.t, n)] else R.ns) ∧ ws'.length ≤ ws.length + 1 ∧ σ = [some (.ref a), some (.str n), some (.bl lt), some (.bl due), some v4], ?_, ?_⟩
  · refine ⟨_, rfl, a, _, dx, _, _, rfl, eJ, T.cl_Record, T.na_Record_waiting, lr_waiting _ _ _ _ _, _, rfl, ?_⟩
    cases c : (R.wt || due) with
    | false =>
      refine iteF (iteF ⟨ws, .non, fun _ _ _ _ h => h, ?_, ntJ, tuJ, ?_, by omega, rfl⟩)
      · rw [eJ, c]
        rfl
      · simp [F.ns]
    | true =>
      refine iteT ⟨_, rfl, _, rfl, ?_⟩
      cases lt with
      | false =>
        refine iteF ⟨ws, .non, fun _ _ _ _ h => h, ?_, ntJ, tuJ, ?_, by omega, rfl⟩
        · rw [eJ, c]
          rfl
        · simp [F.ns]
      | true =>
        refine iteT ⟨_, rfl, a, _, dx, _, _, rfl, eJ, T.cl_Record, T.na_Record_notes, lr_notes _ _ _ _ _, .inl ⟨rfl, _, .inl (.inl ntJ)⟩, _, rfl, a, _, dx, _, _, rfl, eJ, T.cl_Record, T.na_Record_ticks, lr_ticks _ _ _ _ _, _, rfl, by show 2 ≤ sizeLine; decide, fun A hA => ?_⟩
        have nAa : A ≠ a := fun e => by rw [e, eJ] at hA; cases hA
        have nAN : A ≠ N := fun e => by rw [e, ntJ] at hA; cases hA
        refine ⟨N, _, _, rfl, rfl, by rw [upd_ne nAN.symm]; exact ntJ, by rw [List.length_map]; exact Nat.lt_of_le_of_lt lw (by decide), ?_⟩
        refine ⟨_, rfl, a, _, dx, _, rfl, by rw [upd_ne naN.symm, upd_ne nAa.symm]; exact eJ, T.cl_Record, T.na_Record_waiting, (by show 5 < 1000; decide), _, rfl, ws ++ [(A, (R.t, n))], _, fun b o n1 n2 hb => ?_, ?_, ?_, fun z hz => ?_, ?_, by simp, rfl⟩
        · rw [upd_ne n1, upd_ne n2, upd_ne (ne_of_none hb hA)]
          exact hb
        · rw [upd_same]
          rfl
        · rw [upd_ne naN, upd_same, List.map_append]
          rfl
        · have h1 : upd J A (.tup [.int R.t, .str n]) z.1 = some (.tup [.int z.2.1, .str z.2.2]) := by
            rcases List.mem_append.mp hz with hz | hz
            · rw [upd_ne (ne_of_none (tuJ z hz) hA)]
              exact tuJ z hz
            · rw [List.mem_singleton.mp hz]
              exact upd_same
          have nN : z.1 ≠ N := ne_of h1 (show upd J A (.tup [.int R.t, .str n]) N = _ by rw [upd_ne nAN.symm]; exact ntJ) (by intro e; cases e)
          have na : z.1 ≠ a := ne_of h1 (show upd J A (.tup [.int R.t, .str n]) a = _ by rw [upd_ne nAa.symm]; exact eJ) (by intro e; cases e)
          rw [upd_ne na, upd_ne nN]
          exact h1
        · rw [List.map_append, F.ns]
          rfl
  rintro σ J2 ⟨ws', v4, kJ2, eJ2, nt2, tu2, ns2, lw2, rfl⟩
  have eD : J2 D = some (.dK (tmK names R.tm)) := kJ2 _ _ naD nDN (kJ _ _ naD F.tm)
  have g := DGet.k (k := .inr n) eD
  rw [tmK_get hn] at g
  refine ⟨_, rfl, a, _, dx, _, _, rfl, eJ2, T.cl_Record, T.na_Record_times, lr_times _ _ _ _ _, _, rfl, D, _, rfl, g, _, _, rfl, rfl, _, DPut.k (k := .inr n) eD (by rw [tmK_len]; exact Nat.lt_of_le_of_lt (Nat.le_trans ln (show 6 ≤ 100 by decide)) (by decide)), ?_⟩
  have e3 : upd J2 D (.dK (putK (tmK names R.tm) (.inr n) (.int (R.tm n + 1)))) a = some (.ins (He.ga K "Record") dx (fldR D N R.t ((R.wt || due) && !lt) lo2)) := by rw [upd_ne naD.symm]; exact eJ2
  refine ⟨_, rfl, a, _, dx, _, _, rfl, e3, T.cl_Record, T.na_Record_ticks, lr_ticks _ _ _ _ _, _, _, rfl, rfl, dx, _, e3, (by show 5 < 1000; decide), _, rfl, ?_⟩
  refine q _ v4 ws' (fun b o n1 n2 n3 hb => ?_) lw2 ⟨?_, ?_, ?_, fun z hz => ?_, ?_⟩
  · rw [upd_ne n1, upd_ne n2]
    exact kJ2 _ _ n1 n3 (kJ _ _ n1 hb)
  · rw [upd_same]
    unfold seeR
    simp only [hlo]
    rfl
  · rw [upd_ne naD, upd_same, tmK_put hn]
    rfl
  · rw [upd_ne naN, upd_ne nDN.symm]
    exact nt2
  · rw [upd_ne (ne_of (tu2 z hz) eJ2 (by intro e; cases e)), upd_ne (ne_of (tu2 z hz) eD (by intro e; cases e))]
    exact tu2 z hz
  · exact ns2
end
end W

namespace W
open PySem PySem.Spec PyProof.Rows L2
section
variable {P : Program} {w : World} {K : S.Frag} {mg : Str → Option Value} {base : Heap}
open S
/-! with_let -/
def badAt (K : S.Frag) (C f : Str) (v : V) (H : Hp) (E : XK) : Prop := ∀ d H', H d = none → Same H H' → H' d = some (.xd [(f, v)]) → E (.ref (He.ga K C)) (some d) H'
theorem badAt.same {C f : Str} {v : V} {H H1 : Hp} {E : XK} (b : badAt K C f v H E) (s : Same H H1) : badAt K C f v H1 E := fun d H' hd s2 e => b d H' (s.free hd) (s.trans s2) e
/-- an item that is no name of the program -/
def oddB (rows : List Rw) (g : V → PyData) (y : V) : Bool := !(rNames rows).any fun n => mixEq (.str n) (g y)
def letD (ws : List Str) (r : Rw) : Rw := { r with d := { r.d with t := decide (r.d.n ∈ ws) } }
def spWith (K : S.Frag) : Sp := Sp2 fun self x H Q E => ∃ (p : Addr) (rows : List Rw) (s : Str), self = .ref p ∧ PgAt K H p rows s ∧ okRows rows ∧ s ∈ rNames rows ∧
  ((∃ t, TyX K H x t ∧ PySem.W.kitOne K t (.type "tuple") = some false ∧ badAt K "BadProgram" "why" (.str "let") H E) ∨
   (∃ (a : Addr) (xs : List V) (g : V → PyData), x = .ref a ∧ H a = some (.tup xs) ∧ xs.length < 100 ∧ (∀ z ∈ xs, Mx K H z (g z)) ∧
      (dupB (fun z y => mixEq (g z) (g y)) xs = true → badAt K "BadProgram" "why" (.str "let") H E) ∧
      (dupB (fun z y => mixEq (g z) (g y)) xs = false → ∃ y, xs.find? (oddB rows g) = some y ∧ badAt K "NoPlace" "name" y H E)) ∨
   (∃ (a : Addr) (ws : List Str), x = .ref a ∧ H a = some (.tup (ws.map V.str)) ∧ ws.Nodup ∧ (∀ z ∈ ws, z ∈ rNames rows) ∧
      ∀ q rows' H', H q = none → Same H H' → PgAt K H' q rows' s → okRows rows' → vw rows' = vw (rows.map (letD ws)) → Q (.ref q) H'))
theorem find_first {α : Type} {p : α → Bool} {xs : List α} {i : Nat} {x : α} (h : xs[i]? = some x) (no : ∀ z ∈ xs.take i, p z = false) (y : p x = true) : xs.find? p = some x := by
  have e : xs = xs.take i ++ x :: xs.drop (i + 1) := by
    obtain ⟨hl, rfl⟩ := List.getElem?_eq_some_iff.mp h
    rw [List.getElem_cons_drop, List.take_append_drop]
  rw [e, List.find?_append, List.find?_eq_none.mpr (by simpa using no)]
  simp [y]
theorem letD_names (ws : List Str) (rows : List Rw) : rNames (rows.map (letD ws)) = rNames rows := by
  unfold rNames
  rw [List.map_map]
  rfl
theorem letD_ok {ws : List Str} {rows : List Rw} (o : okRows rows) : okRows (rows.map (letD ws)) := by
  refine ⟨by rw [List.length_map]; exact o.l1, by rw [List.length_map]; exact o.l6, by rw [letD_names]; exact o.nd, fun r hr => ?_, fun r hr => ?_⟩
  · obtain ⟨r0, h0, rfl⟩ := List.mem_map.mp hr
    exact o.pl r0 h0
  · obtain ⟨r0, h0, rfl⟩ := List.mem_map.mp hr
    rw [letD_names]
    exact o.nx r0 h0
theorem letD_lk (ws : List Str) (rows : List Rw) : lkOf (rows.map (letD ws)) = lkOf rows := by
  unfold lkOf
  rw [List.map_map]
  rfl
theorem mkPg {J : Hp} {Z : VK} {E : XK} {p dx D d : Addr} {rows : List Rw} {as : List Addr} {b : Str} (np : J p = none) (ndx : J dx = none) (ne : dx ≠ p) (eD : J D = some (.lst (as.map V.ref))) (ed : J d = some (.dK (lkOf rows))) (la : as.length = rows.length) (ok : okRows rows)
    (hp : ∀ (j : Nat) (r : Rw) (q : Addr), rows[j]? = some r → as[j]? = some q → PlA K J q r.d) (ht : ∀ r ∈ rows, J r.ta = some (.tup (r.nx.map V.str))) (hb : b ∈ rNames rows)
    (k : ∀ J3, Same J J3 → PgAt K J3 p (reA rows as) b → okRows (reA rows as) → vw (reA rows as) = vw rows → Z .non J3) :
    spProg K [.ref p, .ref D, .ref d, .str b] (upd (upd J dx (.own p)) p (.ins (He.ga K "Program") dx [])) Z E := by
  have s3 : Same J (upd (upd J dx (.own p)) p (.ins (He.ga K "Program") dx [])) := Same.upd (Same.new ndx) np
  have okr := ok.vw (reA_vw la.symm)
  refine ⟨_, _, _, _, rfl, p, dx, D, d, reA rows as, lkOf rows, b, rfl, upd_same, rfl, .inl ?_, rfl, s3 _ _ ed, ?_, okr, fun r hr' => ?_, .inr ⟨rfl, ?_⟩, fun J3 kp pg => ?_⟩
  · rw [reA_a la.symm]
    exact s3 _ _ eD
  · rw [lkOf_len]
    have := congrArg List.length (reA_vw la.symm)
    unfold vw at this
    rw [List.length_map, List.length_map] at this
    exact this.symm
  · refine ⟨?_, ?_, ?_⟩
    · rw [← reA_lk la.symm]
      exact valV_rows okr.nd hr'
    · obtain ⟨i, r0, h1, h2, e⟩ := reA_mem hr'
      have := ((hp i r0 r.a h1 h2).same s3)
      rw [e]
      exact this
    · obtain ⟨i, r0, h1, h2, e⟩ := reA_mem hr'
      have := s3 _ _ (ht r0 (List.mem_of_getElem? h1))
      rw [e]
      exact this
  · rw [vw_rNames, reA_vw la.symm, ← vw_rNames]
    exact hb
  · exact k J3 (fun c o hc => kp c o (ne_of_none hc np) (s3 _ _ hc)) pg okr (reA_vw la.symm)
end
end W

namespace W
open PySem PySem.Spec PyProof.Rows L2
section
variable {P : Program} {w : World} {K : S.Frag} {mg : Str → Option Value} {base : Heap}
open S
/-! a value that may be a state -/
def blOf : V → Bool
  | .bl b => b
  | _ => false
theorem Od.mx {H : Hp} {x : V} (h : Od H x) (f : isStr x = true) : ∃ z, x = .str z := by
  cases x <;> first | exact ⟨_, rfl⟩ | cases f
theorem isBl_bl {x : V} (h : isBl x = true) : ∃ b, x = .bl b := by cases x <;> first | exact ⟨_, rfl⟩ | cases h
/-- no tuple -/
inductive NoT (H : Hp) : V → Prop where
  | non : NoT H .non
  | str (z : Str) : NoT H (.str z)
  | int (i : Int) : NoT H (.int i)
  | bl (b : Bool) : NoT H (.bl b)
  | lst {a : Addr} {xs : List V} (h : H a = some (.lst xs)) : NoT H (.ref a)
  | dK {a : Addr} {xs : List (Key × V)} (h : H a = some (.dK xs)) : NoT H (.ref a)
theorem NoT.same {H H' : Hp} {x : V} (h : NoT H x) (s : Same H H') : NoT H' x := by
  cases h with
  | non => exact .non
  | str z => exact .str z
  | int i => exact .int i
  | bl b => exact .bl b
  | lst h => exact .lst (s _ _ h)
  | dK h => exact .dK (s _ _ h)
theorem NoT.ty {H : Hp} {x : V} (h : NoT H x) : ∃ t, TyX K H x t ∧ PySem.W.kitOne K t (.type "tuple") = some false := by
  cases h with
  | non => exact ⟨_, .base .non, kit_ty (by decide +kernel)⟩
  | str z => exact ⟨_, .base (.str z), kit_ty (by decide +kernel)⟩
  | int i => exact ⟨_, .base (.int i), kit_ty (by decide +kernel)⟩
  | bl b => exact ⟨_, .base (.bl b), kit_ty (by decide +kernel)⟩
  | lst h => exact ⟨_, .base (.lst h), kit_ty (by decide +kernel)⟩
  | dK h => exact ⟨_, .base (.dK h), kit_ty (by decide +kernel)⟩
/-- x is no tuple, or one of these items -/
inductive StV (K : S.Frag) (H : Hp) : V → List V → Prop where
  | no {x} (h : NoT H x) : StV K H x []
  | tup {a xs} (h : H a = some (.tup xs)) (od : ∀ v ∈ xs, Od H v) (l : xs.length ≤ 10) : StV K H (.ref a) xs
theorem five {α : Type} {xs : List α} (h : xs.length = 5) : ∃ a b c d e, xs = [a, b, c, d, e] := by
  match xs, h with
  | [a, b, c, d, e], _ => exact ⟨a, b, c, d, e, rfl⟩
theorem st_od {H : Hp} {s : St5} : ∀ v ∈ stL s, Od H v := by
  intro v hv
  unfold stL at hv
  simp only [List.mem_cons, List.not_mem_nil, or_false] at hv
  rcases hv with rfl | rfl | rfl | rfl | rfl
  · exact .str _
  · exact .int _
  · exact .int _
  · exact .bl _
  · exact .bl _
theorem StV.same {H H' : Hp} {x : V} {xs : List V} (h : StV K H x xs) (s : Same H H') : StV K H' x xs := by
  cases h with
  | no h => exact .no (h.same s)
  | tup h od l => exact .tup (s _ _ h) (fun v hv => (od v hv).mono s) l
theorem StV.st {H : Hp} {a : Addr} {s : St5} (h : StA H a s) : StV K H (.ref a) (stL s) := .tup h st_od (by simp [stL])
/-- the form of a state -/
def formV : List V → Bool
  | [x0, x1, x2, x3, x4] => isStr x0 && (isInt x1 && (isInt x2 && (isBl x3 && isBl x4)))
  | _ => false
theorem formV_len {xs : List V} (h : xs.length ≠ 5) : formV xs = false := by
  unfold formV
  split
  · simp at h
  · rfl
end
end W

namespace W
open PySem PySem.Spec PyProof.Rows L2
section
variable {P : Program} {w : World} {K : S.Frag} {mg : Str → Option Value} {base : Heap}
open S
/-! right runs, observed -/
theorem for_enumS {a : Addr} {xs : List V} {g : TG} {tb : TS} {D : Ends} {σ : L2.St} {H : Hp} (Pv : Nat → L2.St → Hp → Prop) (h0 : Pv 0 σ H) (hG : ∀ i σ H, i ≤ xs.length → Pv i σ H → SqL K H a xs)
    (hs : ∀ i x σ H T, xs[i]? = some x → Pv i σ H → H T = none → g (.ref T) σ (upd H T (.tup [.int (i : Nat), x])) fun σ2 H2 => tb { D with nx := Pv (i + 1), ct := Pv (i + 1), bk := D.nx } σ2 H2) (hd : ∀ σ H, Pv xs.length σ H → D.nx σ H) :
    ∃ W : Nat → Nat → L2.St → Hp → Prop, (∃ m, W 0 m σ H) ∧ ∀ i m σ H, W i m σ H →
      ((Ite K a).stop i H ∧ D.nx σ H) ∨ ((Ite K a).go i H ∧ ∃ N : L2.St → Hp → Prop, (∀ σ' H', N σ' H' → ∃ m', m' < m ∧ W (i + 1) m' σ' H') ∧ ∀ x H', (Ite K a).yld i H x H' → g x σ H' fun σ2 H2 => tb { D with nx := N, ct := N, bk := D.nx } σ2 H2) :=
  for_it (walk_enum (K := K) (a := a) (xs := xs)) Pv h0 hG (fun i x σ H H' _ p y => by
    obtain ⟨T, u, v, rfl, h2, rfl, e1, e2⟩ := y
    cases e1
    exact hs i v σ H T e2 p h2) hd
theorem ok_BadPhase___init__ (T : Txt K mg) : FnOk P w K mg base (L2.CX P w) 1 (He.fAd K ("BadPhase", some "__init__")) (S.fdA K ("BadPhase", some "__init__")) ["self", "phase"] (sp_err (He.ga K "BadPhase") "phase") := by
  refine FunD.ok T.F_BadPhase___init__ sc_BadPhase___init__ (fun vs H Q E h => S.splen2 h) (fun cdv A outer s H vs Q E hr h => ?_)
  have hu := hu_of hr
  refine ⟨_, (pss_one (S.ps_ostK (K := K) rfl (pv 0) (pv 1) rfl)), ?_⟩
  obtain ⟨_, y, rfl, a, rfl, ha, k⟩ := h
  exact ⟨_, rfl, _, rfl, a, _, rfl, T.ox_BadPhase, T.xn_BadPhase_phase, .inl ⟨ha, k⟩⟩
theorem ok_BadStay___init__ (T : Txt K mg) : FnOk P w K mg base (L2.CX P w) 1 (He.fAd K ("BadStay", some "__init__")) (S.fdA K ("BadStay", some "__init__")) ["self", "index"] (sp_err (He.ga K "BadStay") "index") := by
  refine FunD.ok T.F_BadStay___init__ sc_BadStay___init__ (fun vs H Q E h => S.splen2 h) (fun cdv A outer s H vs Q E hr h => ?_)
  have hu := hu_of hr
  refine ⟨_, (pss_one (S.ps_ostK (K := K) rfl (pv 0) (pv 1) rfl)), ?_⟩
  obtain ⟨_, y, rfl, a, rfl, ha, k⟩ := h
  exact ⟨_, rfl, _, rfl, a, _, rfl, T.ox_BadStay, T.xn_BadStay_index, .inl ⟨ha, k⟩⟩
theorem ok_BadLook___init__ (T : Txt K mg) : FnOk P w K mg base (L2.CX P w) 1 (He.fAd K ("BadLook", some "__init__")) (S.fdA K ("BadLook", some "__init__")) ["self", "index"] (sp_err (He.ga K "BadLook") "index") := by
  refine FunD.ok T.F_BadLook___init__ sc_BadLook___init__ (fun vs H Q E h => S.splen2 h) (fun cdv A outer s H vs Q E hr h => ?_)
  have hu := hu_of hr
  refine ⟨_, (pss_one (S.ps_ostK (K := K) rfl (pv 0) (pv 1) rfl)), ?_⟩
  obtain ⟨_, y, rfl, a, rfl, ha, k⟩ := h
  exact ⟨_, rfl, _, rfl, a, _, rfl, T.ox_BadLook, T.xn_BadLook_index, .inl ⟨ha, k⟩⟩
theorem log_small {i : Int} (h : 1 ≤ i) (h8 : i ≤ 8) : i.natAbs.log2 < 9000 := by
  have z : i.natAbs.log2 < 200 := PySem.Flt.log2_lt_of (by decide) (Nat.lt_of_le_of_lt (show i.natAbs ≤ 8 by omega) (by decide))
  exact Nat.lt_trans z (by decide)
end
end W

namespace W
open PySem PySem.Spec PyProof.Rows L2
section
variable {P : Program} {w : World} {K : S.Frag} {mg : Str → Option Value} {base : Heap}
open S
/-! stays of a right run -/
def spStay (K : S.Frag) : Sp := Sp4 fun x y z u H Q _ => ∃ (p b al : Addr) (rows : List Rw) (s : Str) (r : Rw) (t : Int) (ns : List Str) (ls : Bool), x = .ref p ∧ PgAt K H p rows s ∧ okRows rows ∧ y = .ref b ∧ H b = some (.tup [.str r.d.n, .int t]) ∧ r ∈ rows ∧ z = .ref al ∧ H al = some (.tup (ns.map V.str)) ∧ u = .bl ls ∧ r.d.n ∈ ns ∧ (if ls then 1 ≤ t else r.d.l ≤ t) ∧ t ≤ r.d.m ∧ Q (.bl true) H
theorem ok_stay_fits (T : Txt K mg) : FnOk P w K mg base (L2.CX P w) 5 (He.fAd K ("stay_fits", none)) (S.fdA K ("stay_fits", none)) ["program", "stay", "allowed", "is_last"] (spStay K) := by
  have G_is_integer := ok_is_integer (P := P) (w := w) (base := base) T
  have G_Program___getitem__ := ok_Program___getitem__ (P := P) (w := w) (base := base) T
  refine FunD.ok T.F_stay_fits sc_stay_fits (fun vs H Q E h => S.splen4 h) (fun cdv A outer s H vs Q E hr h => ?_)
  have hu := hu_of hr
  refine ⟨_, (pss_cons (ps_if (PW.pt (pw_or (pt_not (pt_val (pe_callB (S.isiK (K := K) rfl) rfl T.n_isinstance S.boot_isinstance (pa_cons (pv 1) (pa_cons (pe_bltn (v := .ty "tuple") rfl T.n_tuple S.boot_tuple rfl) pa_nil))))) (pw_or1 (pt_cmpR op_ne (pe_callB (S.lenK (K := K) rfl) rfl T.n_len S.boot_len (pa_cons (pv 1) pa_nil)) pe_int (nomark _))))) (pss_one (ps_ret pe_bl)) pss_nil)
      (pss_cons (ps_asg (pv 1) (pg_tup rfl (pgs_cons (pg_name (i := 4) sc_stay_fits.nd rfl (by first | exact Or.inl rfl | exact Or.inr rfl)) (pgs_cons (pg_name (i := 5) sc_stay_fits.nd rfl (by first | exact Or.inl rfl | exact Or.inr rfl)) pgs_nil))))
      (pss_cons (ps_if (PW.pt (pw_or (pt_not (pt_val (pe_callB (S.isiK (K := K) rfl) rfl T.n_isinstance S.boot_isinstance (pa_cons (pv 4) (pa_cons (pe_bltn (v := .ty "str") rfl T.n_str S.boot_str rfl) pa_nil))))) (pw_or (pt_cmpR (S.notInGK (K := K) rfl (S.hu64 hr)) (pv 4) (pv 2) rfl) (pw_or1 (pt_not (pt_val (S.pe_fnS G_is_integer (hr.mono (by decide)) rfl T.g_is_integer T.F_is_integer.kp (kb_is_integer_1 T) S.pas0 (pa_cons (pv 5) pa_nil) pk_nil rfl rfl))))))) (pss_one (ps_ret pe_bl)) pss_nil)
      (pss_cons (ps_set (i := 6) sc_stay_fits.nd rfl (by first | exact Or.inl rfl | exact Or.inr rfl) pe_int)
      (S.pss_cut (ps_if (pt_not (pt_val (pv 3))) (pss_one (ps_set (i := 6) sc_stay_fits.nd rfl (by first | exact Or.inl rfl | exact Or.inr rfl) (S.pe_fldK (K := K) rfl (S.pe_ixO (C := He.ga K "Program") T.me_Program___getitem__.1 T.fn_Program___getitem__ T.me_Program___getitem__.2 (S.raw_of G_Program___getitem__ (kb_Program___getitem___2 T)) (hr.mono (by decide)) (S.pasE (takes_of rfl rfl rfl rfl)) (pv 0) (pv 4)) rfl))) pss_nil)
      (pss_one (ps_ret (pe_chain op_le op_le (pv 6) (pv 5) (S.pe_fldK (K := K) rfl (S.pe_ixO (C := He.ga K "Program") T.me_Program___getitem__.1 T.fn_Program___getitem__ T.me_Program___getitem__.2 (S.raw_of G_Program___getitem__ (kb_Program___getitem___2 T)) (hr.mono (by decide)) (S.pasE (takes_of rfl rfl rfl rfl)) (pv 0) (pv 4)) rfl))))))))), ?_⟩
  obtain ⟨_, _, _, _, rfl, p, b, al, rows, st, r, t, ns, ls, rfl, hp, ok, rfl, hb, hr', rfl, ha, rfl, hn, h1, h2, q⟩ := h
  obtain ⟨dx, l, u, k, F⟩ := id hp
  obtain ⟨dr, er⟩ := (F.rw_ r hr').1
  refine ⟨_, rfl, _, _, _, _, true, rfl, .ty _, .base (.tup hb), kit_ty (by decide +kernel), _, rfl, iteF ?_⟩
  refine ⟨_, rfl, _, _, rfl, lenVX (.inr (.inl (.inl hb))), rfl, _, rfl, iteF ?_⟩
  refine ⟨_, rfl, b, _, rfl, .inl (.inl hb), rfl, _, _, rfl, _, _, rfl, rfl, ?_⟩
  refine ⟨_, rfl, _, _, _, _, true, rfl, .ty _, .base (.str _), kit_ty (by decide +kernel), _, rfl, iteF ?_⟩
  refine ⟨_, rfl, _, rfl, al, _, 0, fun z => decide (z = .str r.d.n), rfl, .inr (.inl (.inl ha)), by decide, fun z hz => ?_, _, rfl, ?_⟩
  · obtain ⟨x, _, rfl⟩ := List.mem_map.mp hz
    refine eg_str.at_.to ?_
    simp
  have hany : ((ns.map V.str).any fun z => decide (z = .str r.d.n)) = true := List.any_eq_true.mpr ⟨.str r.d.n, List.mem_map.mpr ⟨_, hn, rfl⟩, by simp⟩
  refine iteN (by simp only [if_true]; rw [hany]; decide) ⟨_, rfl, rfl, rfl, _, rfl, true, .int t, _, rfl, iteF ?_⟩
  refine ⟨fun σ J => J = H ∧ ∃ lo : Int, lo ≤ t ∧ σ = [some (.ref p), some (.ref b), some (.ref al), some (.bl ls), some (.str r.d.n), some (.int t), some (.int lo)], ?_, ?_⟩
  · refine ⟨_, rfl, _, rfl, ?_⟩
    cases ls with
    | true => exact iteF ⟨rfl, 1, h1, rfl⟩
    | false => exact iteT ⟨_, rfl, _, rfl, p, dx, _, rfl, F.at_, _, _, rfl, p, rows, st, r, rfl, hp, rfl, hr', ok.nd, r.a, _, dr, _, _, rfl, er, T.cl_Place, T.na_Place_least, lk_least _ _ _ _, rfl, _, h1, rfl⟩
  rintro σ J ⟨rfl, lo, h3, rfl⟩
  refine ⟨_, rfl, _, rfl, _, _, rfl, rfl, _, rfl, iteY (by simpa using h3) ⟨_, rfl, _, rfl, p, dx, _, rfl, F.at_, _, _, rfl, p, rows, st, r, rfl, hp, rfl, hr', ok.nd, r.a, _, dr, _, _, rfl, er, T.cl_Place, T.na_Place_most, lk_most _ _ _ _, _, _, rfl, rfl, ?_⟩⟩
  show Q (.bl (decide (t ≤ r.d.m))) J
  rw [decide_eq_true h2]
  exact q
def spBadStay (K : S.Frag) : Sp := Sp2 fun x y H Q _ => ∃ (p L : Addr) (rows : List Rw) (s : Str) (ws : List (Addr × Sy)), x = .ref p ∧ PgAt K H p rows s ∧ okRows rows ∧ y = .ref L ∧ SysA H L ws ∧ okSy (vw rows) s (ws.map Prod.snd) ∧ ∀ H', Same H H' → Q .non H'
theorem ok_bad_stay (T : Txt K mg) : FnOk P w K mg base (L2.CX P w) 6 (He.fAd K ("bad_stay", none)) (S.fdA K ("bad_stay", none)) ["program", "stays"] (spBadStay K) := by
  have G_Program_nexts := ok_Program_nexts (P := P) (w := w) (base := base) T
  have G_stay_fits := ok_stay_fits (P := P) (w := w) (base := base) T
  refine FunD.ok T.F_bad_stay sc_bad_stay (fun vs H Q E h => S.splen2 h) (fun cdv A outer s H vs Q E hr h => ?_)
  have hu := hu_of hr
  refine ⟨_, (pss_cons (ps_set (i := 2) sc_bad_stay.nd rfl (by first | exact Or.inl rfl | exact Or.inr rfl) (pe_prop (pv 0) T.cl_Program T.pr_Program_nexts G_Program_nexts (hr.mono (by decide)) (T.F_Program_nexts.bindsN fun _ _ _ _ _ _ us hl => match us, hl with | [_], _ => rfl) .nil passL rfl))
      (pss_cons (ps_set (i := 3) sc_bad_stay.nd rfl (by first | exact Or.inl rfl | exact Or.inr rfl) (pe_tup (pa_cons (S.pe_fldK (K := K) rfl (pv 0) rfl) pa_nil)))
      (pss_cons (ps_for (S.own_of rfl) rfl (S.pi_enumK (K := K) rfl rfl T.n_enumerate (pa_cons (pv 1) pa_nil)) (pg_tup rfl (pgs_cons (pg_name (i := 4) sc_bad_stay.nd rfl (by first | exact Or.inl rfl | exact Or.inr rfl)) (pgs_cons (pg_name (i := 5) sc_bad_stay.nd rfl (by first | exact Or.inl rfl | exact Or.inr rfl)) pgs_nil)))
        (pss_cons (ps_if (pt_not (pt_val (S.pe_fnS G_stay_fits (hr.mono (by decide)) rfl T.g_stay_fits T.F_stay_fits.kp (kb_stay_fits_4 T) S.pas0 (pa_cons (pv 0) (pa_cons (pv 5) (pa_cons (pv 3) (pa_cons (pe_cmpR op_eq (pv 4) (pe_op op_sub (pe_callB (S.lenK (K := K) rfl) rfl T.n_len S.boot_len (pa_cons (pv 1) pa_nil)) pe_int) (nomark _)) pa_nil)))) pk_nil rfl rfl))) (pss_one (ps_ret (pv 4))) pss_nil)
      (pss_one (ps_set (i := 3) sc_bad_stay.nd rfl (by first | exact Or.inl rfl | exact Or.inr rfl) (pe_dget hu (pv 2) (pe_ix (S.ixK (K := K) rfl) (pv 5) pe_int (fun _ _ => rfl)) (fun _ _ => rfl))))))
      (pss_one (ps_ret pe_non))))), ?_⟩
  obtain ⟨_, _, rfl, p, L, rows, st, ws, rfl, hp, ok, rfl, hw, oy, q⟩ := h
  obtain ⟨dx, l, u, k, F⟩ := id hp
  refine ⟨_, rfl, p, dx, _, rfl, F.at_, _, rfl, p, rows, st, rfl, hp, ok.nd, ok.l6, fun d J0 hd s0 ed => ?_⟩
  refine ⟨_, rfl, p, _, dx, _, _, rfl, s0 _ _ F.at_, T.cl_Program, T.na_Program_start, lg_start _ _ _ _, by show 1 ≤ sizeLine; decide, fun B hB => ?_⟩
  have s1 := s0.trans (Same.new (o := .tup [.str st]) hB)
  have ed1 : upd J0 B (.tup [.str st]) d = some (.dK (lkOf rows)) := Same.new hB _ _ ed
  have eB : upd J0 B (.tup [.str st]) B = some (.tup [.str st]) := upd_same
  generalize upd J0 B (.tup [.str st]) = J1 at s1 ed1 eB
  have lw : (ws.map fun z => V.ref z.1).length = ws.length := List.length_map _
  refine ⟨_, rfl, L, _, rfl, .inl (.inl (s1 _ _ hw.1)), for_enumS (xs := ws.map fun z => V.ref z.1) (fun i σ J => Same J1 J ∧ ∃ al ns v4 v5, J al = some (.tup (ns.map V.str)) ∧ (∀ z, (ws.map Prod.snd)[i]? = some z → z.1 ∈ ns) ∧ σ = [some (.ref p), some (.ref L), some (.ref d), some (.ref al), v4, v5]) ⟨fun _ _ h => h, B, [st], _, _, eB, fun z hz => by rw [oy.first z hz]; simp, rfl⟩ (fun i σ J _ h => .inl (.inl (h.1 _ _ (s1 _ _ hw.1)))) ?_ ?_⟩
  · rintro i x σ J T' hx ⟨sJ, al, ns, v4, v5, ea, ha, rfl⟩ hT
    rw [List.getElem?_map] at hx
    obtain ⟨z, hz, rfl⟩ := Option.map_eq_some_iff.mp hx
    have hz2 : (ws.map Prod.snd)[i]? = some z.2 := by rw [List.getElem?_map, hz]; rfl
    have nm := oy.names z.2 (List.mem_of_getElem? hz2)
    rw [vw_nm] at nm
    obtain ⟨r, hr', er⟩ := List.mem_map.mp nm
    have sT := Same.new (o := .tup [.int ((i : Nat) : Int), .ref z.1]) hT
    have s2 := sJ.trans sT
    have ea2 := sT _ _ ea
    refine ⟨T', _, rfl, .inl (.inl upd_same), rfl, _, _, rfl, _, _, rfl, rfl, ?_⟩
    generalize upd J T' (.tup [.int ((i : Nat) : Int), .ref z.1]) = J2 at s2 ea2 sT
    have s3 := s1.trans s2
    have hw2 := hw.same s3
    have tz := hw2.2 z (List.mem_of_getElem? hz)
    have er2 : z.2.1 = r.d.n := er.symm
    rw [er2] at tz
    have pl : plV (vw rows) z.2.1 = r.d := by rw [er2]; exact plV_at ok.nd hr'
    have nx : nxV (vw rows) z.2.1 = r.nx := by rw [er2]; exact nxV_at ok.nd hr'
    have hi := (List.getElem?_eq_some_iff.mp hz).1
    have lasts : ∀ b : Bool, b = decide ((i : Int) = (ws.length : Int) - 1) → (if b then 1 ≤ z.2.2 else r.d.l ≤ z.2.2) ∧ z.2.2 ≤ r.d.m := fun b hb => by
      by_cases c : i + 1 = ws.length
      · have := oy.last z.2 (by rw [List.getLast?_eq_getElem?, List.length_map, show ws.length - 1 = i by omega]; exact hz2)
        rw [pl] at this
        rw [hb, decide_eq_true (by omega)]
        exact this
      · have h1 := List.getElem?_eq_getElem (show i + 1 < (ws.map Prod.snd).length by rw [List.length_map]; omega)
        have := (oy.next i z.2 _ hz2 h1).2
        unfold syOk at this
        rw [pl] at this
        rw [hb, decide_eq_false (by omega)]
        exact this
    refine ⟨_, rfl, _, rfl, _, rfl, _, rfl, _, rfl, _, _, rfl, lenVX (.inl (.inl (.inl hw2.1))), _, _, rfl, rfl, rfl, rfl, rfl, _, _, _, _, rfl, p, z.1, al, rows, st, r, z.2.2, ns, _, rfl, hp.same s3, ok, rfl, tz, hr', rfl, ea2, rfl, er2 ▸ ha z.2 hz2, (lasts _ ?_).1, (lasts _ rfl).2, _, rfl, iteF ?_⟩
    · rw [lw, Bool.eq_iff_iff]
      simp
    have et := ((hp.same s3))
    obtain ⟨dx', l', u', k', F'⟩ := et
    have g : DGet J2 d (.str r.d.n) (some (.ref r.ta)) := by
      have := DGet.k (k := .inr r.d.n) (s2 _ _ ed1)
      rw [valV_rows ok.nd hr'] at this
      exact this
    refine ⟨_, rfl, _, rfl, ixT tz rfl ⟨d, _, rfl, g, s2, r.ta, r.nx, _, _, (F'.rw_ r hr').2, fun y hy => ?_, rfl⟩⟩
    rw [← nx]
    exact (oy.next i z.2 y hz2 hy).1
  · rintro σ J ⟨sJ, al, ns, v4, v5, ea, ha, rfl⟩
    exact q J (s1.trans sJ)
end
end W

namespace W
open PySem PySem.Spec PyProof.Rows L2
section
variable {K : S.Frag}
open S
def strF (z : Str) : V → Bool
  | .str a => decide (a = z)
  | _ => false
theorem any_strF (ws : List Str) (z : Str) : (ws.map V.str).any (strF z) = decide (z ∈ ws) := by
  rw [List.any_map]
  by_cases c : z ∈ ws
  · rw [decide_eq_true c]
    exact List.any_eq_true.mpr ⟨z, c, by simp [strF]⟩
  · rw [decide_eq_false c]
    refine Bool.eq_false_iff.mpr fun h => ?_
    obtain ⟨y, hy, h⟩ := List.any_eq_true.mp h
    simp [strF] at h
    exact c (h ▸ hy)
/-- z in names, names a list or a tuple of texts -/
theorem in_strs {H : Hp} {L : Addr} {ws : List Str} {z : Str} (h : SqL K H L (ws.map V.str) ∨ SqT K H L (ws.map V.str)) (neg : Bool) {Q : VK} (q : Q (.bl (if neg then !decide (z ∈ ws) else decide (z ∈ ws))) H) : rInG K neg (.str z) (.ref L) H Q := by
  refine ⟨L, _, 0, strF z, rfl, h, by decide, fun v hv => ?_, by rw [any_strF]; exact q⟩
  obtain ⟨y, _, rfl⟩ := List.mem_map.mp hv
  exact (eg_str (K := K) (n := 0) (a := y) (b := z)).at_
end
end W

namespace W
open PySem PySem.Spec PyProof.Rows L2
section
variable {P : Program} {w : World} {K : S.Frag} {mg : Str → Option Value} {base : Heap}
open S
/-- a value that is no list -/
inductive NoL (H : Hp) : V → Prop where
  | non : NoL H .non
  | str (z : Str) : NoL H (.str z)
  | int (i : Int) : NoL H (.int i)
  | bl (b : Bool) : NoL H (.bl b)
  | tup {a : Addr} {xs : List V} (h : H a = some (.tup xs)) : NoL H (.ref a)
  | dK {a : Addr} {xs : List (Key × V)} (h : H a = some (.dK xs)) : NoL H (.ref a)
theorem NoL.same {H H' : Hp} {x : V} (h : NoL H x) (s : Same H H') : NoL H' x := by
  cases h with
  | non => exact .non
  | str z => exact .str z
  | int i => exact .int i
  | bl b => exact .bl b
  | tup h => exact .tup (s _ _ h)
  | dK h => exact .dK (s _ _ h)
theorem NoL.ty {H : Hp} {x : V} (h : NoL H x) : ∃ t, TyX K H x t ∧ PySem.W.kitOne K t (.type "list") = some false := by
  cases h with
  | non => exact ⟨_, .base .non, kit_ty (by decide +kernel)⟩
  | str z => exact ⟨_, .base (.str z), kit_ty (by decide +kernel)⟩
  | int i => exact ⟨_, .base (.int i), kit_ty (by decide +kernel)⟩
  | bl b => exact ⟨_, .base (.bl b), kit_ty (by decide +kernel)⟩
  | tup h => exact ⟨_, .base (.tup h), kit_ty (by decide +kernel)⟩
  | dK h => exact ⟨_, .base (.dK h), kit_ty (by decide +kernel)⟩
end
end W

namespace W
open PySem PySem.Spec PyProof.Rows L2
section
variable {P : Program} {w : World} {K : S.Frag} {mg : Str → Option Value} {base : Heap}
open S
/-! phases and looks of any kind -/
def phFit (m : Sm) (v : V) : Bool := match m.f with
  | none => inR 0 (m.p - 1) v
  | some f => decide (v = .non) || inR f f v
def phOf (m : Sm) (v : V) : Int := match m.f with
  | none => match v with
    | .int i => i
    | _ => 0
  | some f => f
theorem phFit_of {m : Sm} {v : V} (okm : okSm m) (h : phFit m v = true) : 0 ≤ phOf m v ∧ phOf m v < m.p := by
  unfold phFit at h
  unfold phOf
  cases hf : m.f with
  | none =>
    rw [hf] at h
    cases v with
    | int i =>
      simp only [inR, Bool.and_eq_true, decide_eq_true_eq] at h
      exact ⟨h.1, by show i < m.p; omega⟩
    | _ => cases h
  | some f => exact okm.f0 f hf
def spPhG (K : S.Frag) : Sp := Sp2 fun x y H Q E => ∃ (a : Addr) (m : Sm), x = .ref a ∧ SmA K H a m ∧ Od H y ∧ (phFit m y = true → Q (.int (phOf m y)) H) ∧ (phFit m y = false → badAt K "BadPhase" "phase" y H E)
theorem ok_phase_of (T : Txt K mg) : FnOk P w K mg base (L2.CX P w) 3 (He.fAd K ("phase_of", none)) (S.fdA K ("phase_of", none)) ["sampler", "phase"] (spPhG K) := by
  have G_is_within := ok_is_within (P := P) (w := w) (base := base) T
  have G_BadPhase___init__ := ok_BadPhase___init__ (P := P) (w := w) (base := base) T
  refine FunD.ok T.F_phase_of sc_phase_of (fun vs H Q E h => S.splen2 h) (fun cdv A outer s H vs Q E hr h => ?_)
  have hu := hu_of hr
  refine ⟨_, (pss_cons (ps_if (pt_cmpR op_isN (S.pe_fldK (K := K) rfl (pv 0) rfl) pe_non (nomark _)) (pss_cons (ps_if (pt_not (pt_val (S.pe_fnS G_is_within (hr.mono (by decide)) rfl T.g_is_within T.F_is_within.kp (kb_is_within_3 T) S.pas0 (pa_cons (pv 1) (pa_cons pe_int (pa_cons (pe_op op_sub (S.pe_fldK (K := K) rfl (pv 0) rfl) pe_int) pa_nil))) pk_nil rfl rfl))) (pss_one (S.ps_raiseO rfl (takes_of rfl rfl rfl rfl) T.ox_BadPhase T.xi_BadPhase T.xt_BadPhase G_BadPhase___init__ (hr.mono (by decide)) (kb_BadPhase___init___2 T) rfl T.g_BadPhase (pa_cons (pv 1) pa_nil))) pss_nil)
      (pss_one (ps_ret (pv 1)))) pss_nil)
      (pss_cons (ps_if (PW.pt (pw_and (pt_cmpR op_notN (pv 1) pe_non (nomark _)) (pw_and1 (pt_not (pt_val (S.pe_fnS G_is_within (hr.mono (by decide)) rfl T.g_is_within T.F_is_within.kp (kb_is_within_3 T) S.pas0 (pa_cons (pv 1) (pa_cons (S.pe_fldK (K := K) rfl (pv 0) rfl) (pa_cons (S.pe_fldK (K := K) rfl (pv 0) rfl) pa_nil))) pk_nil rfl rfl)))))) (pss_one (S.ps_raiseO rfl (takes_of rfl rfl rfl rfl) T.ox_BadPhase T.xi_BadPhase T.xt_BadPhase G_BadPhase___init__ (hr.mono (by decide)) (kb_BadPhase___init___2 T) rfl T.g_BadPhase (pa_cons (pv 1) pa_nil))) pss_nil)
      (pss_one (ps_ret (S.pe_fldK (K := K) rfl (pv 0) rfl))))), ?_⟩
  obtain ⟨_, y, rfl, a, m, rfl, ⟨dx, hm⟩, oy, q, bad⟩ := h
  have lm := lm_phase m
  unfold phFit at q bad
  unfold phOf at q
  cases hf : m.f with
  | none =>
    rw [hf] at lm
    simp only [hf] at q bad
    refine ⟨_, rfl, a, _, dx, _, _, rfl, hm, T.cl_Sampler, T.na_Sampler_phase, lm, rfl, _, rfl, iteY (by simp [phV]) ⟨_, rfl, _, rfl, a, _, dx, _, _, rfl, hm, T.cl_Sampler, T.na_Sampler_period, lm_period _, _, _, rfl, rfl, rfl, rfl, _, _, _, rfl, 0, m.p - 1, _, rfl, rfl, oy.within, _, rfl, ?_⟩⟩
    cases c : inR 0 (m.p - 1) y with
    | true =>
      obtain ⟨i, rfl, _⟩ := inR_int c
      exact iteF ⟨_, rfl, q c⟩
    | false => exact iteT (raise_err y (bad c) (fun R r => ⟨_, rfl, r⟩))
  | some f =>
    rw [hf] at lm
    simp only [hf] at q bad
    refine ⟨_, rfl, a, _, dx, _, _, rfl, hm, T.cl_Sampler, T.na_Sampler_phase, lm, rfl, _, rfl, iteN (by simp [phV]) ?_⟩
    refine ⟨_, rfl, rfl, _, rfl, ?_⟩
    by_cases c : y = .non
    · exact iteN (by simp [c]) (iteF ⟨_, rfl, a, _, dx, _, _, rfl, hm, T.cl_Sampler, T.na_Sampler_phase, lm, q (by simp [c])⟩)
    · refine iteY (by simp [c]) ⟨_, rfl, _, rfl, a, _, dx, _, _, rfl, hm, T.cl_Sampler, T.na_Sampler_phase, lm, _, rfl, a, _, dx, _, _, rfl, hm, T.cl_Sampler, T.na_Sampler_phase, lm, rfl, rfl, _, _, _, rfl, f, f, _, rfl, rfl, oy.within, _, rfl, ?_⟩
      cases c2 : inR f f y with
      | true => exact iteF ⟨_, rfl, a, _, dx, _, _, rfl, hm, T.cl_Sampler, T.na_Sampler_phase, lm, q (by simp [c2])⟩
      | false => exact iteT (raise_err y (bad (by simp [c, c2])) (fun R r => ⟨_, rfl, r⟩))
def fitV (v : V) (lo hi j : Int) : Bool := if j < lo then decide (v = .non) else if v = .non then decide (hi < j) else if hi < j then inR lo hi v else inR lo j v
def spLookG (K : S.Frag) : Sp := Sp4 fun x y z u H Q _ => ∃ (lo hi j : Int), Od H x ∧ y = .int lo ∧ z = .int hi ∧ u = .int j ∧ Q (.bl (fitV x lo hi j)) H
theorem ok_look_fits (T : Txt K mg) : FnOk P w K mg base (L2.CX P w) 3 (He.fAd K ("look_fits", none)) (S.fdA K ("look_fits", none)) ["look", "low", "high", "jitter"] (spLookG K) := by
  have G_is_within := ok_is_within (P := P) (w := w) (base := base) T
  refine FunD.ok T.F_look_fits sc_look_fits (fun vs H Q E h => S.splen4 h) (fun cdv A outer s H vs Q E hr h => ?_)
  have hu := hu_of hr
  refine ⟨_, (pss_cons (ps_if (pt_cmpR op_gt (pv 1) (pv 3) (nomark _)) (pss_one (ps_ret (pe_cmpR op_isN (pv 0) pe_non (nomark _)))) pss_nil)
      (pss_cons (ps_if (pt_cmpR op_isN (pv 0) pe_non (nomark _)) (pss_one (ps_ret (pe_cmpR op_lt (pv 2) (pv 3) (nomark _)))) pss_nil)
      (pss_cons (ps_if (pt_cmpR op_lt (pv 2) (pv 3) (nomark _)) (pss_one (ps_ret (S.pe_fnS G_is_within (hr.mono (by decide)) rfl T.g_is_within T.F_is_within.kp (kb_is_within_3 T) S.pas0 (pa_cons (pv 0) (pa_cons (pv 1) (pa_cons (pv 2) pa_nil))) pk_nil rfl rfl))) pss_nil)
      (pss_one (ps_ret (S.pe_fnS G_is_within (hr.mono (by decide)) rfl T.g_is_within T.F_is_within.kp (kb_is_within_3 T) S.pas0 (pa_cons (pv 0) (pa_cons (pv 1) (pa_cons (pv 3) pa_nil))) pk_nil rfl rfl)))))), ?_⟩
  obtain ⟨x, _, _, _, rfl, lo, hi, j, ox, rfl, rfl, rfl, q⟩ := h
  refine ⟨_, rfl, _, rfl, _, _, rfl, rfl, _, rfl, ?_⟩
  unfold fitV at q
  by_cases c : j < lo
  · rw [if_pos c] at q
    exact iteY (by simpa using c) ⟨_, rfl, rfl, q⟩
  · rw [if_neg c] at q
    refine iteN (by simpa using c) ⟨_, rfl, rfl, _, rfl, ?_⟩
    by_cases cn : x = .non
    · rw [if_pos cn] at q
      exact iteY (by simp [cn]) ⟨_, rfl, _, rfl, _, _, rfl, rfl, q⟩
    · rw [if_neg cn] at q
      refine iteN (by simp [cn]) ⟨_, rfl, _, rfl, _, _, rfl, rfl, _, rfl, ?_⟩
      by_cases c2 : hi < j
      · rw [if_pos c2] at q
        exact iteY (by simpa using c2) ⟨_, rfl, _, rfl, _, rfl, rfl, rfl, _, _, _, rfl, lo, hi, _, rfl, rfl, ox.within, q⟩
      · rw [if_neg c2] at q
        exact iteN (by simpa using c2) ⟨_, rfl, _, rfl, _, rfl, rfl, rfl, _, _, _, rfl, lo, j, _, rfl, rfl, ox.within, q⟩
/-- no list, or a list of these -/
def LsV (H : Hp) (y : V) : Option (List V) → Prop
  | none => NoL H y
  | some xs => ∃ a, y = .ref a ∧ H a = some (.lst xs) ∧ (∀ v ∈ xs, Od H v) ∧ xs.length ≤ 3000
theorem LsV.same {H H' : Hp} {y : V} {u : Option (List V)} (h : LsV H y u) (s : Same H H') : LsV H' y u := by
  cases u with
  | none => exact NoL.same h s
  | some xs => exact let ⟨a, e, h1, h2, h3⟩ := h; ⟨a, e, s _ _ h1, fun v hv => (h2 v hv).mono s, h3⟩
def hiOf (m : Sm) (f t : Int) (i : Nat) : Int := if (i : Int) = (f + t - 1) / m.p then (f + t - 1) % m.p else m.p - 1
def lkBad (m : Sm) (f t : Int) (xs : List V) (i : Nat) : Bool := match xs[i]? with
  | some v => !fitV v (lowOf f i) (hiOf m f t i) m.j
  | none => false
def lookBad (m : Sm) (f t : Int) : Option (List V) → Option Int
  | none => some (-1)
  | some xs => if (xs.length : Int) = (f + t - 1) / m.p + 1 then ((List.range xs.length).find? (lkBad m f t xs)).map fun i => (i : Int) else some (-1)
def ixV : Option Int → V
  | none => .non
  | some i => .int i
theorem find_rng {n i : Nat} {p : Nat → Bool} (hi : i < n) (h : p i = true) (no : ∀ j, j < i → p j = false) : (List.range n).find? p = some i := by
  refine find_first (i := i) (by rw [List.getElem?_range hi]) (fun z hz => ?_) h
  obtain ⟨j, hj⟩ := List.getElem?_of_mem hz
  have hl := (List.getElem?_eq_some_iff.mp hj).1
  rw [List.length_take, List.length_range] at hl
  rw [List.getElem?_take_of_lt (by omega), List.getElem?_range (by omega)] at hj
  cases hj
  exact no _ (by omega)
theorem find_rng0 {n : Nat} {p : Nat → Bool} (no : ∀ j, j < n → p j = false) : (List.range n).find? p = none :=
  List.find?_eq_none.mpr fun j hj => by rw [no j (List.mem_range.mp hj)]; decide
def spBadLG (K : S.Frag) : Sp := Sp4 fun x y z u H Q _ => ∃ (a : Addr) (m : Sm) (f t : Int) (xl : Option (List V)), x = .ref a ∧ SmA K H a m ∧ okSm m ∧ y = .int f ∧ z = .int t ∧ LsV H u xl ∧ ∀ H', Same H H' → Q (ixV (lookBad m f t xl)) H'
theorem ok_bad_look (T : Txt K mg) : FnOk P w K mg base (L2.CX P w) 4 (He.fAd K ("bad_look", none)) (S.fdA K ("bad_look", none)) ["sampler", "phase", "ticks", "looks"] (spBadLG K) := by
  have G_look_fits := ok_look_fits (P := P) (w := w) (base := base) T
  refine FunD.ok T.F_bad_look sc_bad_look (fun vs H Q E h => S.splen4 h) (fun cdv A outer s H vs Q E hr h => ?_)
  have hu := hu_of hr
  refine ⟨_, (pss_cons (ps_set (i := 4) sc_bad_look.nd rfl (by first | exact Or.inl rfl | exact Or.inr rfl) (pe_op op_fdivW (pe_op op_sub (pe_op op_add (pv 1) (pv 2)) pe_int) (S.pe_fldK (K := K) rfl (pv 0) rfl)))
      (pss_cons (ps_if (PW.pt (pw_or (pt_not (pt_val (pe_callB (S.isiK (K := K) rfl) rfl T.n_isinstance S.boot_isinstance (pa_cons (pv 3) (pa_cons (pe_bltn (v := .ty "list") rfl T.n_list S.boot_list rfl) pa_nil))))) (pw_or1 (pt_cmpR op_ne (pe_callB (S.lenK (K := K) rfl) rfl T.n_len S.boot_len (pa_cons (pv 3) pa_nil)) (pe_op op_add (pv 4) pe_int) (nomark _))))) (pss_one (ps_ret (pe_un un_neg pe_int))) pss_nil)
      (pss_cons (ps_for (S.own_of rfl) rfl (S.pi_enumK (K := K) rfl rfl T.n_enumerate (pa_cons (pv 3) pa_nil)) (pg_tup rfl (pgs_cons (pg_name (i := 5) sc_bad_look.nd rfl (by first | exact Or.inl rfl | exact Or.inr rfl)) (pgs_cons (pg_name (i := 6) sc_bad_look.nd rfl (by first | exact Or.inl rfl | exact Or.inr rfl)) pgs_nil)))
        (pss_cons (ps_set (i := 7) sc_bad_look.nd rfl (by first | exact Or.inl rfl | exact Or.inr rfl) pe_int)
      (S.pss_cut (ps_if (pt_cmpR op_eq (pv 5) pe_int (nomark _)) (pss_one (ps_set (i := 7) sc_bad_look.nd rfl (by first | exact Or.inl rfl | exact Or.inr rfl) (pv 1))) pss_nil)
      (pss_cons (ps_set (i := 8) sc_bad_look.nd rfl (by first | exact Or.inl rfl | exact Or.inr rfl) (pe_op op_sub (S.pe_fldK (K := K) rfl (pv 0) rfl) pe_int))
      (S.pss_cut (ps_if (pt_cmpR op_eq (pv 5) (pv 4) (nomark _)) (pss_one (ps_set (i := 8) sc_bad_look.nd rfl (by first | exact Or.inl rfl | exact Or.inr rfl) (pe_op op_mod (pe_op op_sub (pe_op op_add (pv 1) (pv 2)) pe_int) (S.pe_fldK (K := K) rfl (pv 0) rfl)))) pss_nil)
      (pss_one (ps_if (pt_not (pt_val (S.pe_fnS G_look_fits (hr.mono (by decide)) rfl T.g_look_fits T.F_look_fits.kp (kb_look_fits_4 T) S.pas0 (pa_cons (pv 6) (pa_cons (pv 7) (pa_cons (pv 8) (pa_cons (S.pe_fldK (K := K) rfl (pv 0) rfl) pa_nil)))) pk_nil rfl rfl))) (pss_one (ps_ret (pv 5))) pss_nil)))))))
      (pss_one (ps_ret pe_non))))), ?_⟩
  obtain ⟨_, _, _, u, rfl, a, m, f, t, xl, rfl, ⟨dx, hm⟩, okm, rfl, rfl, hu, q⟩ := h
  have p1 := okm.p1
  have dv : ∀ i, CDivW i m.p := fun i => ⟨by omega, log_small p1 okm.p8⟩
  refine ⟨_, rfl, _, rfl, _, _, rfl, rfl, _, _, rfl, rfl, _, rfl, a, _, dx, _, _, rfl, hm, T.cl_Sampler, T.na_Sampler_period, lm_period _, _, _, rfl, rfl, dv _, ?_⟩
  cases xl with
  | none =>
    obtain ⟨t', ty, kt⟩ := NoL.ty (K := K) hu
    exact ⟨_, rfl, _, _, _, _, false, rfl, .ty _, ty, kt, _, rfl, iteT (iteT ⟨1, rfl, q H fun _ _ h => h⟩)⟩
  | some xs =>
  obtain ⟨O, rfl, hO, od, lx⟩ := hu
  refine ⟨_, rfl, _, _, _, _, true, rfl, .ty _, .base (.lst hO), kit_ty (by decide +kernel), _, rfl, iteF ?_⟩
  refine ⟨_, rfl, _, _, rfl, lenVX (.inl (.inl (.inl hO))), _, rfl, _, _, rfl, rfl, rfl, _, rfl, ?_⟩
  by_cases cl : (xs.length : Int) = (f + t - 1) / m.p + 1
  · refine iteN ?_ ?_
    · simp [cl]
    have qf : ∀ i : Nat, i < xs.length → lkBad m f t xs i = true → (∀ j, j < i → lkBad m f t xs j = false) → ∀ H', Same H H' → Q (.int (i : Int)) H' := fun i hi hb no H' s' => by
      have := q H' s'
      simp only [lookBad] at this
      rw [if_pos cl, find_rng hi hb no] at this
      exact this
    have q0 : (∀ j, j < xs.length → lkBad m f t xs j = false) → ∀ H', Same H H' → Q .non H' := fun no H' s' => by
      have := q H' s'
      simp only [lookBad] at this
      rw [if_pos cl, find_rng0 no] at this
      exact this
    have hiE : ∀ i : Nat, hiOf m f t i = if (i : Int) = (f + t - 1) / m.p then (f + t - 1) % m.p else m.p - 1 := fun i => rfl
    generalize hla : (f + t - 1) / m.p = la at cl hiE
    refine ⟨_, rfl, O, _, rfl, .inl (.inl hO), for_enumS (xs := xs) (fun i σ J => Same H J ∧ (∀ j, j < i → lkBad m f t xs j = false) ∧ ∃ v5 v6 v7 v8, σ = [some (.ref a), some (.int f), some (.int t), some (.ref O), some (.int la), v5, v6, v7, v8]) ⟨fun _ _ h => h, (fun j hj => absurd hj (Nat.not_lt_zero j)), _, _, _, _, by rw [← hla]; rfl⟩ (fun i σ J _ h => .inl (.inl (h.1 _ _ hO))) ?_ ?_⟩
    · rintro i x σ J T' hx ⟨sJ, no, v5, v6, v7, v8, rfl⟩ hT
      have hil := (List.getElem?_eq_some_iff.mp hx).1
      have s1 := sJ.trans (Same.new (o := .tup [.int ((i : Nat) : Int), x]) hT)
      refine ⟨T', _, rfl, .inl (.inl upd_same), rfl, _, _, rfl, _, _, rfl, rfl, ?_⟩
      generalize upd J T' (.tup [.int ((i : Nat) : Int), x]) = J1 at s1
      have hm1 := s1 _ _ hm
      refine ⟨fun σ J => J = J1 ∧ σ = [some (.ref a), some (.int f), some (.int t), some (.ref O), some (.int la), some (.int (i : Int)), some x, some (.int (lowOf f i)), v8], ?_, ?_⟩
      · refine ⟨_, rfl, rfl, _, rfl, ?_⟩
        unfold lowOf
        by_cases c : i = 0
        · rw [if_pos c]
          exact iteY (by simp [c]) ⟨_, rfl, rfl, rfl⟩
        · rw [if_neg c]
          exact iteN (by simp; omega) ⟨rfl, rfl⟩
      rintro σ J2 ⟨rfl, rfl⟩
      refine ⟨_, rfl, a, _, dx, _, _, rfl, hm1, T.cl_Sampler, T.na_Sampler_period, lm_period _, _, _, rfl, rfl, ?_⟩
      refine ⟨fun σ J => J = J2 ∧ σ = [some (.ref a), some (.int f), some (.int t), some (.ref O), some (.int la), some (.int (i : Int)), some x, some (.int (lowOf f i)), some (.int (if (i : Int) = la then (f + t - 1) % m.p else m.p - 1))], ?_, ?_⟩
      · refine ⟨_, rfl, _, rfl, rfl, _, rfl, ?_⟩
        by_cases c : (i : Int) = la
        · rw [if_pos c]
          exact iteY (by simp [c]) ⟨_, rfl, _, rfl, _, _, rfl, rfl, _, _, rfl, rfl, _, rfl, a, _, dx, _, _, rfl, hm1, T.cl_Sampler, T.na_Sampler_period, lm_period _, _, _, rfl, rfl, by omega, rfl, rfl⟩
        · rw [if_neg c]
          exact iteN (by simpa using c) ⟨rfl, rfl⟩
      rintro σ J3 ⟨rfl, rfl⟩
      refine ⟨_, rfl, _, rfl, _, rfl, _, rfl, a, _, dx, _, _, rfl, hm1, T.cl_Sampler, T.na_Sampler_jitter, lm_jitter _, rfl, rfl, _, _, _, _, rfl, _, _, _, (od x (List.mem_of_getElem? hx)).mono s1, rfl, rfl, rfl, _, rfl, ?_⟩
      rw [← hiE]
      have eb : lkBad m f t xs i = !fitV x (lowOf f i) (hiOf m f t i) m.j := by unfold lkBad; rw [hx]
      cases c : fitV x (lowOf f i) (hiOf m f t i) m.j with
      | true =>
        rw [c] at eb
        refine iteF ⟨s1, fun j hj => ?_, _, _, _, _, rfl⟩
        rcases Nat.lt_succ_iff_lt_or_eq.mp hj with hj | rfl
        · exact no j hj
        · exact eb
      | false =>
        rw [c] at eb
        exact iteT ⟨_, rfl, qf i hil eb no J3 s1⟩
    · rintro σ J ⟨sJ, no, v5, v6, v7, v8, rfl⟩
      exact q0 no J sJ
  · have q1 := q H fun _ _ h => h
    simp only [lookBad] at q1
    rw [if_neg cl] at q1
    refine iteY ?_ ⟨1, rfl, q1⟩
    have : ¬ (V.int (xs.length : Int) = V.int ((f + t - 1) / m.p + 1)) := fun e => cl (by injection e)
    simpa using this
end
end W

namespace W
open PySem PySem.Spec PyProof.Rows L2
section
variable {P : Program} {w : World} {K : S.Frag} {mg : Str → Option Value} {base : Heap}
open S
/-! runs played -/
def dueB (p f : Int) (ls : List (Option Int)) (t : Int) : Bool := decide (ls[((f + t) / p).toNat]? = some (some ((f + t) % p)))
def tickR (l : Vw) (p f : Int) (ls : List (Option Int)) (n : Str) (R : Rc) : Rc := seeR R n (plV l n).t (dueB p f ls R.t)
def manyR (l : Vw) (p f : Int) (ls : List (Option Int)) (n : Str) : Nat → Rc → Rc
  | 0, R => R
  | k + 1, R => tickR l p f ls n (manyR l p f ls n k R)
def playR (l : Vw) (p f : Int) (ls : List (Option Int)) (ys : List Sy) : Rc := ys.foldl (fun R y => manyR l p f ls y.1 y.2.toNat R) R0
theorem many_t (l : Vw) (p f : Int) (ls : List (Option Int)) (n : Str) (R : Rc) : ∀ k, (manyR l p f ls n k R).t = R.t + (k : Int)
  | 0 => by simp [manyR]
  | k + 1 => by
    show (manyR l p f ls n k R).t + 1 = _
    rw [many_t l p f ls n R k]
    omega
theorem play_snoc (l : Vw) (p f : Int) (ls : List (Option Int)) (ys : List Sy) (y : Sy) : playR l p f ls (ys ++ [y]) = manyR l p f ls y.1 y.2.toNat (playR l p f ls ys) := foldl_snoc _ _ _ _
theorem play_t (l : Vw) (p f : Int) (ls : List (Option Int)) (ys : List Sy) (h : ∀ y ∈ ys, 0 ≤ y.2) : ∀ i, i ≤ ys.length → (playR l p f ls (ys.take i)).t = ticksOf (ys.take i)
  | 0, _ => rfl
  | i + 1, hi => by
    have e := List.getElem?_eq_getElem (show i < ys.length by omega)
    have et : ys.take (i + 1) = ys.take i ++ [ys[i]] := by
      rw [List.take_add_one, e]
      rfl
    have h0 := h _ (List.mem_of_getElem? e)
    rw [et, play_snoc, many_t, play_t l p f ls ys h i (by omega)]
    unfold ticksOf
    rw [List.map_append, sum_app]
    simp
    omega
theorem ticks_nn : ∀ (ys : List Sy), (∀ y ∈ ys, 0 ≤ y.2) → 0 ≤ ticksOf ys
  | [], _ => Int.le_refl _
  | y :: ys, h => by
    have h1 := ticks_nn ys fun z hz => h z (List.mem_cons_of_mem _ hz)
    have h2 := h y List.mem_cons_self
    unfold ticksOf at *
    simp
    omega
theorem ticks_le {ys : List Sy} (h : ∀ y ∈ ys, 0 ≤ y.2) (i : Nat) : ticksOf (ys.take i) ≤ ticksOf ys := by
  have e : ticksOf ys = ticksOf (ys.take i) + ticksOf (ys.drop i) := by
    unfold ticksOf
    rw [← sum_app, ← List.map_append, List.take_append_drop]
  have := ticks_nn (ys.drop i) fun y hy => h y (List.mem_of_mem_drop hy)
  omega
theorem due_eq {p f t : Int} {ls : List (Option Int)} {look : Option Int} (h : ls[((f + t) / p).toNat]? = some look) : (!decide (lkV look = .non) && decide (lkV look = .int ((f + t) % p))) = dueB p f ls t := by
  unfold dueB
  rw [h]
  cases look with
  | none => simp [lkV]
  | some v => simp [lkV]
theorem see_none (D N : Addr) (t : Int) (wt : Bool) (lo : Int) : (fldR D N t wt lo).lookup ("see" : Str) = none := by
  unfold fldR
  rw [lookup_put, if_neg (by decide +kernel), lookup_put, if_neg (by decide +kernel), lookup_put, if_neg (by decide +kernel), lookup_put, if_neg (by decide +kernel), lookup_put, if_neg (by decide +kernel)]
  rfl
theorem tAndV_of {ta tb : TE} {σ : L2.St} {H : Hp} {Q : VK} {c d : Bool} (ha : ∀ R : VK, R (.bl c) H → ta σ H R) (hb : ∀ R : VK, R (.bl d) H → tb σ H R) (q : Q (.bl (c && d)) H) : tAndV ta tb σ H Q := by
  refine ha _ ⟨c, rfl, ?_⟩
  cases c with
  | true => exact hb _ q
  | false => exact q
theorem PgAt.rwA {H : Hp} {p : Addr} {rows : List Rw} {s : Str} (h : PgAt K H p rows s) (r : Rw) (hr : r ∈ rows) : RwA K H r := let ⟨_, _, _, _, F⟩ := h; F.rw_ r hr
def spPlay (K : S.Frag) : Sp := Sp5 fun x y z u v H Q _ => ∃ (p a L O : Addr) (rows : List Rw) (s : Str) (m : Sm) (f : Int) (ws : List (Addr × Sy)) (ls : List (Option Int)), x = .ref p ∧ PgAt K H p rows s ∧ okRows rows ∧ y = .ref a ∧ SmA K H a m ∧ okSm m ∧ z = .int f ∧ 0 ≤ f ∧ u = .ref L ∧ SysA H L ws ∧ v = .ref O ∧ H O = some (.lst (ls.map lkV)) ∧
  (∀ y ∈ ws.map Prod.snd, 0 ≤ y.2 ∧ y.1 ∈ rNames rows) ∧ ticksOf (ws.map Prod.snd) ≤ 2000 ∧ (∀ t, 0 ≤ t → t < ticksOf (ws.map Prod.snd) → (f + t) / m.p < (ls.length : Int)) ∧
  ∀ H' b dx D N vs, Same H H' → RcF K H' b dx D N vs (rNames rows) (playR (vw rows) m.p f ls (ws.map Prod.snd)) → Q (.ref b) H'
theorem ok_play (T : Txt K mg) : FnOk P w K mg base (L2.CX P w) 5 (He.fAd K ("play", none)) (S.fdA K ("play", none)) ["program", "sampler", "phase", "stays", "looks"] (spPlay K) := by
  have G_Record___init__ := ok_Record___init__ (P := P) (w := w) (base := base) T
  have G_Program___getitem__ := ok_Program___getitem__ (P := P) (w := w) (base := base) T
  have G_Record_see := ok_Record_see (P := P) (w := w) (base := base) T
  refine FunD.ok T.F_play sc_play (fun vs H Q E h => S.splen5 h) (fun cdv A outer s H vs Q E hr h => ?_)
  have hu := hu_of hr
  refine ⟨_, (pss_cons (ps_set (i := 5) sc_play.nd rfl (by first | exact Or.inl rfl | exact Or.inr rfl) (S.pe_mkS T.mk_Record G_Record___init__ (hr.mono (by decide)) rfl T.g_Record (kb_Record___init___2 T) S.pas0 (pa_cons (S.pe_fldK (K := K) rfl (pv 0) rfl) pa_nil) pk_nil rfl rfl))
      (pss_cons (ps_for (S.own_of rfl) rfl (S.pi_listK (K := K) rfl (pv 3)) (pg_tup rfl (pgs_cons (pg_name (i := 6) sc_play.nd rfl (by first | exact Or.inl rfl | exact Or.inr rfl)) (pgs_cons (pg_name (i := 7) sc_play.nd rfl (by first | exact Or.inl rfl | exact Or.inr rfl)) pgs_nil)))
        (pss_cons (ps_set (i := 8) sc_play.nd rfl (by first | exact Or.inl rfl | exact Or.inr rfl) (S.pe_fldK (K := K) rfl (S.pe_ixO (C := He.ga K "Program") T.me_Program___getitem__.1 T.fn_Program___getitem__ T.me_Program___getitem__.2 (S.raw_of G_Program___getitem__ (kb_Program___getitem___2 T)) (hr.mono (by decide)) (S.pasE (takes_of rfl rfl rfl rfl)) (pv 0) (pv 6)) rfl))
      (pss_one (ps_for (S.own_of rfl) rfl (pi_range1 rfl T.n_range (pa_cons (pv 7) pa_nil)) (pg_name (i := 9) sc_play.nd rfl (by first | exact Or.inl rfl | exact Or.inr rfl))
        (pss_cons (ps_set (i := 10) sc_play.nd rfl (by first | exact Or.inl rfl | exact Or.inr rfl) (pe_op op_add (pv 2) (S.pe_fldK (K := K) rfl (pv 5) rfl)))
      (pss_cons (ps_set (i := 11) sc_play.nd rfl (by first | exact Or.inl rfl | exact Or.inr rfl) (pe_ix (S.ixK (K := K) rfl) (pv 4) (pe_op op_fdivW (pv 10) (S.pe_fldK (K := K) rfl (pv 1) rfl)) (fun _ _ => rfl)))
      (pss_one (ps_expr (S.pe_mtS (pv 5) T.cl_Record T.me_Record_see G_Record_see (hr.mono (by decide)) (kb_Record_see_4 T) S.pas0 (pa_cons (pv 6) (pa_cons (pv 8) (pa_cons (pe_and (pe_cmpR op_notN (pv 11) pe_non (nomark _)) (pe_one (pe_cmpR op_eq (pv 11) (pe_op op_mod (pv 10) (S.pe_fldK (K := K) rfl (pv 1) rfl)) (nomark _)))) pa_nil))) pk_nil rfl rfl)))))))))
      (pss_one (ps_ret (pv 5))))), ?_⟩
  obtain ⟨_, _, _, _, _, rfl, p, a, L, O, rows, st, m, f, ws, ls, rfl, hp, ok, rfl, hm, okm, rfl, f0, rfl, hw, rfl, hO, hy, ht, hl, q⟩ := h
  obtain ⟨dx, l, u, k, F⟩ := id hp
  obtain ⟨dm, em⟩ := id hm
  have lnm : (rNames rows).length ≤ 6 := by unfold rNames; rw [List.length_map]; exact ok.l6
  have dv : ∀ i, CDivW i m.p := fun i => ⟨by have := okm.p1; omega, log_small okm.p1 okm.p8⟩
  have hyn : ∀ y ∈ ws.map Prod.snd, 0 ≤ y.2 := fun y h => (hy y h).1
  refine ⟨_, rfl, p, _, dx, _, _, rfl, F.at_, T.cl_Program, T.na_Program_names, lg_names _ _ _ _, rfl, rfl, fun b db nb ndb ne => ?_⟩
  have s1 : Same H (upd (upd H db (.own b)) b (.ins (He.ga K "Record") db [])) := (Same.new ndb).trans (Same.new (by rw [upd_ne ne.symm]; exact nb))
  refine ⟨_, _, rfl, b, db, u, rNames rows, rfl, upd_same, rfl, s1 _ _ F.nm, ok.nd, lnm, fun H2 D N kp hD hN rc => ⟨rfl, ?_⟩⟩
  have s2 : Same H H2 := fun x o h => kp x o (ne_of_none h nb) (s1 x o h)
  have fD := s1.free hD
  have fN := s1.free hN
  refine ⟨_, rfl, L, rfl, ⟨_, .inl (.inl (s2 _ _ hw.1))⟩, for_list (xs := ws.map fun z => V.ref z.1) (fun i σ J => Same H J ∧ ∃ vs v6 v7 v8 v9 v10 v11, RcF K J b db D N vs (rNames rows) (playR (vw rows) m.p f ls ((ws.map Prod.snd).take i)) ∧ (vs.length : Int) ≤ (playR (vw rows) m.p f ls ((ws.map Prod.snd).take i)).t ∧ σ = [some (.ref p), some (.ref a), some (.int f), some (.ref L), some (.ref O), some (.ref b), v6, v7, v8, v9, v10, v11]) ⟨s2, [], _, _, _, _, _, _, rc, Int.le_refl _, rfl⟩ (fun i σ J _ h => .inl (.inl (h.1 _ _ hw.1))) ?_ ?_⟩
  · rintro i x σ J hx ⟨sJ, vs, v6, v7, v8, v9, v10, v11, rcJ, lvs, rfl⟩
    rw [List.getElem?_map] at hx
    obtain ⟨z, hz, rfl⟩ := Option.map_eq_some_iff.mp hx
    have hz2 : (ws.map Prod.snd)[i]? = some z.2 := by rw [List.getElem?_map, hz]; rfl
    have hi := (List.getElem?_eq_some_iff.mp hz2).1
    obtain ⟨y0, ynm⟩ := hy z.2 (List.mem_of_getElem? hz2)
    obtain ⟨r, hr', er⟩ := List.mem_map.mp ynm
    have et : (ws.map Prod.snd).take (i + 1) = (ws.map Prod.snd).take i ++ [z.2] := by
      rw [List.take_add_one, hz2]
      rfl
    have pt := play_t (vw rows) m.p f ls (ws.map Prod.snd) hyn i (by omega)
    have tl := ticks_le hyn (i + 1)
    have tn := ticks_nn ((ws.map Prod.snd).take i) fun y h => hyn y (List.mem_of_mem_take h)
    have tadd : ticksOf ((ws.map Prod.snd).take (i + 1)) = ticksOf ((ws.map Prod.snd).take i) + z.2.2 := by
      rw [et]
      unfold ticksOf
      rw [List.map_append, sum_app]
      simp
    rw [et, play_snoc]
    generalize playR (vw rows) m.p f ls ((ws.map Prod.snd).take i) = R at *
    have tz := (hw.same sJ).2 z (List.mem_of_getElem? hz)
    obtain ⟨dr, er2⟩ := (((hp.same sJ)).rwA r hr').1
    obtain ⟨dx2, l2, u2, k2, F2⟩ := id (hp.same sJ)
    have pl : plV (vw rows) z.2.1 = r.d := by rw [← er]; exact plV_at ok.nd hr'
    refine ⟨z.1, _, rfl, .inl (.inl tz), rfl, _, _, rfl, _, _, rfl, rfl, ?_⟩
    refine ⟨_, rfl, _, rfl, p, dx2, _, rfl, F2.at_, _, _, rfl, p, rows, st, r, rfl, hp.same sJ, by rw [er], hr', ok.nd, r.a, _, dr, _, _, rfl, er2, T.cl_Place, T.na_Place_let, lk_let _ _ _ _, ?_⟩
    refine ⟨_, rfl, z.2.2, rfl, by omega, by omega, ?_⟩
    refine for_range (n := z.2.2.toNat) (fun j σ J => Same H J ∧ ∃ vs v9 v10 v11, RcF K J b db D N vs (rNames rows) (manyR (vw rows) m.p f ls z.2.1 j R) ∧ (vs.length : Int) ≤ (manyR (vw rows) m.p f ls z.2.1 j R).t ∧ σ = [some (.ref p), some (.ref a), some (.int f), some (.ref L), some (.ref O), some (.ref b), some (.str z.2.1), some (.int z.2.2), some (.bl r.d.t), v9, v10, v11]) ⟨sJ, vs, _, _, _, rcJ, lvs, rfl⟩ ?_ ?_
    · rintro j σ J2 hj ⟨sJ2, vs2, v9, v10, v11, rc2, lv2, rfl⟩
      have mt := many_t (vw rows) m.p f ls z.2.1 R j
      show gName _ _ _ _ _
      have e1 : manyR (vw rows) m.p f ls z.2.1 (j + 1) R = seeR (manyR (vw rows) m.p f ls z.2.1 j R) z.2.1 r.d.t (dueB m.p f ls (manyR (vw rows) m.p f ls z.2.1 j R).t) := by
        show tickR _ _ _ _ _ _ = _
        unfold tickR
        rw [pl]
      rw [e1]
      generalize manyR (vw rows) m.p f ls z.2.1 j R = R2 at *
      have em2 := sJ2 _ _ em
      have t0 : 0 ≤ R2.t := by omega
      have t1 := hl R2.t t0 (by omega)
      have t2 : 0 ≤ (f + R2.t) / m.p := Int.ediv_nonneg (by omega) (by have := okm.p1; omega)
      obtain ⟨ix, eix⟩ := Int.eq_ofNat_of_zero_le t2
      have hix : ix < ls.length := by omega
      have hlk := List.getElem?_eq_getElem hix
      generalize ls[ix] = look at hlk
      refine ⟨_, rfl, _, rfl, b, _, db, _, _, rfl, rc2.at_, T.cl_Record, T.na_Record_ticks, lr_ticks _ _ _ _ _, _, _, rfl, rfl, ?_⟩
      refine ⟨_, rfl, _, rfl, _, rfl, a, _, dm, _, _, rfl, em2, T.cl_Sampler, T.na_Sampler_period, lm_period _, _, _, rfl, rfl, dv _, ix3 (sJ2 _ _ hO) (show atI (ls.map lkV) ((f + R2.t) / m.p) = some (lkV look) by rw [eix]; exact atI_nat (by rw [List.getElem?_map, hlk]; rfl)) ?_⟩
      refine ⟨_, rfl, b, db, _, rfl, rc2.at_, see_none _ _ _ _ _, _, rfl, _, rfl, tAndV_of (c := !decide (lkV look = .non)) (d := decide (lkV look = .int ((f + R2.t) % m.p))) (fun R h => ⟨_, rfl, rfl, h⟩) (fun R h => ⟨_, rfl, _, rfl, _, rfl, a, _, dm, _, _, rfl, em2, T.cl_Sampler, T.na_Sampler_period, lm_period _, _, _, rfl, rfl, by have := okm.p1; omega, by cases look <;> rfl, h⟩) ?_⟩
      rw [due_eq (p := m.p) (f := f) (t := R2.t) (ls := ls) (by rw [eix]; exact hlk)]
      refine ⟨rfl, rfl, _, _, _, _, rfl, b, db, D, N, vs2, rNames rows, R2, z.2.1, r.d.t, _, rfl, rc2, rfl, ynm, ok.nd, lnm, rfl, rfl, by omega, fun H' v vs' kp' lv' rc' => ⟨fun x o h => kp' x o (ne_of_none h nb) (ne_of_none h fD) (ne_of_none h fN) (sJ2 x o h), vs', _, _, _, rc', ?_, rfl⟩⟩
      show _ ≤ R2.t + 1
      omega
    · rintro σ J2 ⟨sJ2, vs2, v9, v10, v11, rc2, lv2, rfl⟩
      exact ⟨sJ2, vs2, _, _, _, _, _, _, rc2, lv2, rfl⟩
  · rintro σ J ⟨sJ, vs, v6, v7, v8, v9, v10, v11, rcJ, lvs, rfl⟩
    rw [List.length_map, ← List.length_map (f := Prod.snd) (as := ws), List.take_length] at rcJ
    exact ⟨_, rfl, q J b db D N vs sJ rcJ⟩
end
end W

namespace S
open PySem PySem.Spec PyProof.Rows L2
/-! long tuples and lists; a dict within a tuple is compared -/
section
variable {K : Frag}
theorem cat_TtL {H : Hp} {a b : Addr} {xs ys : List V} {Q : VK} (h : H a = some (.tup xs)) (h' : H b = some (.tup ys)) (hl : xs.length + ys.length ≤ 4000) (q : ∀ p H', Same H H' → H' p = some (.tup (xs ++ ys)) → Q (.ref p) H') : rCatA K (.ref a) (.ref b) H Q := by
  refine ⟨a, b, xs, ys, rfl, rfl, .inl (.inl h), .inl (.inl h'), Nat.le_trans hl (by decide), fun e => q b H (fun _ _ z => z) ?_, fun _ e => q a H (fun _ _ z => z) ?_, fun _ _ p hp => q p _ (Same.new hp) upd_same⟩
  · rw [h', e]; rfl
  · rw [h, e, List.append_nil]
theorem lc_mapC {α : Type} {J : It} {H0 : Hp} {D : Addr} {Qd : Hp → Prop} {te : TE} {vs : List Nat} {σ : L2.St} {i : Nat} {as : List α} {v : α → V} (wk : Walk J (as.map v).length (fun H => Same H0 H) (YAt (as.map v))) (f : α → V) (hD : H0 D = none) (ln : as.length ≤ 4000) (w0 : ∀ x, wipe ((wipe σ vs).set i (some x)) vs = wipe σ vs)
    (el : ∀ (a : α) (H : Hp) (Z : V → Hp → Prop), a ∈ as → Same H0 H → (∀ H', Same H H' → Z (f a) H') → te ((wipe σ vs).set i (some (v a))) H Z)
    (q : ∀ H, Same H0 H → H D = some (.lst (as.map f)) → Qd H) :
    ∃ W : Nat → Nat → Hp → Prop, (∃ m, W 0 m (upd H0 D (.lst []))) ∧ ∀ k m H, W k m H →
      (J.stop k H ∧ Qd H) ∨ (J.go k H ∧ ∃ Nx : Hp → Prop, (∀ H', Nx H' → ∃ m', m' < m ∧ W (k + 1) m' H') ∧ ∀ x H', J.yld k H x H' → gName i x (wipe σ vs) H' fun σ2 H2 => wipe σ2 vs = wipe σ vs ∧ tYes σ2 H2 fun b H3 =>
        if b = true then te σ2 H3 fun y H4 => ∃ acc, H4 D = some (.lst acc) ∧ acc.length < sizeLine ∧ Nx (upd H4 D (.lst (acc ++ [y]))) else Nx H3) := by
  refine lc_seq wk (fun k J => ∃ J', J = upd J' D (.lst ((as.take k).map f)) ∧ Same H0 J' ∧ J' D = none) ⟨H0, rfl, fun _ _ h => h, hD⟩ (fun k J _ h => ?_) ?_ ?_
  · obtain ⟨J', rfl, s, n⟩ := h
    exact Same.upd s hD
  · rintro k x J hx ⟨J', rfl, s, n⟩
    rw [List.getElem?_map] at hx
    obtain ⟨a, ha, rfl⟩ := Option.map_eq_some_iff.mp hx
    have il := (List.getElem?_eq_some_iff.mp ha).1
    refine ⟨w0 _, yesT (iteT (el a _ _ (List.mem_of_getElem? ha) (Same.upd s hD) fun H' s' => ?_))⟩
    have e := s' _ _ upd_same
    refine ⟨_, e, by rw [List.length_map, List.length_take]; exact Nat.lt_of_le_of_lt (show min k as.length ≤ 4000 by omega) (by decide), ?_⟩
    refine ⟨fun b => if b = D then none else H' b, ?_, fun b o h => ?_, by simp⟩
    · rw [List.take_add_one, ha, List.map_append]
      funext b
      by_cases c : b = D
      · subst c
        rw [upd_same, upd_same]
        rfl
      · rw [upd_ne c, upd_ne c, if_neg c]
    · have c : b ≠ D := fun e => by
        rw [e, hD] at h
        cases h
      show (if b = D then none else H' b) = some o
      rw [if_neg c]
      exact s' _ _ (by rw [upd_ne c]; exact s _ _ h)
  · rintro J ⟨J', rfl, s, n⟩
    refine q _ (Same.upd s hD) ?_
    rw [List.length_map, List.take_length, upd_same]
def EqI (K : Frag) (H : Hp) (n : Nat) (x y : V) (b : Bool) : Prop := ∀ (X : Cx) (pins : List (Addr × Obj)) (σ : L2.St) (s : Shared) (A : Around) (v u : Value), X.K = K → Inv X pins σ H s → A.units + n < cLine → RelV x v → RelV y u → SeqAt.EqIn X.prog X.w A s v u b
theorem EqOk.inn {H : Hp} {n : Nat} {x y : V} {b : Bool} (h : EqOk K H n x y b) : EqI K H n x y b := fun X pins σ s A v u k I hu rv ru => (h X pins σ s A v u k I hu rv ru).inModel _ _
theorem EqI.up {H : Hp} {n m : Nat} {x y : V} {b : Bool} (h : EqI K H n x y b) (l : n ≤ m) : EqI K H m x y b := fun X pins σ s A v u k I hu => h X pins σ s A v u k I (Nat.lt_of_le_of_lt (Nat.add_le_add_left l _) hu)
theorem EqI.to {H : Hp} {n : Nat} {x y : V} {b c : Bool} (h : EqI K H n x y b) (e : b = c) : EqI K H n x y c := e ▸ h
theorem ei_dict {H : Hp} {n : Nat} {a c : Addr} {ks ls : List (Key × V)} {f : V → V → Bool} (ha : H a = some (.dK ks)) (hc : H c = some (.dK ls)) (ne : a ≠ c) (he : ∀ p ∈ ks, ∀ z, valV ls p.1 = some z → EqOk K H n p.2 z (f p.2 z)) :
    EqI K H (n + 1) (.ref a) (.ref c) (decide (ks.length = ls.length) && hitsV f ks ls) := fun X pins σ s A v u k I hu rv ru => by
  have h := (eg_dict ha hc he).1 X pins σ s A v u k I hu rv ru
  cases rv
  cases ru
  exact SeqAt.EqIn.of_refs ne h
theorem rc_tupI {H : Hp} {n : Nat} {a c : Addr} {xs ys : List V} {e : Nat → Bool} (ha : SqT K H a xs) (hc : SqT K H c ys) (he : ∀ i p q, xs[i]? = some p → ys[i]? = some q → EqI K H n p q (e i)) : RcOk K H (n + 1) (.ref a) (.ref c) (pairs e xs ys) := fun X pins σ s A v u k I hu rv ru E Q hq => by
  have flag : ∀ {p q : Nat}, p = xs.length → q = ys.length → ((List.range (min p q)).all e && p == q) = pairs e xs ys := fun {p q} h1 h2 => by
    subst h1 h2
    unfold pairs
    by_cases hl : xs.length = ys.length
    · rw [hl, Nat.min_self, decide_eq_true rfl, Bool.true_and]
      simp
    · rw [decide_eq_false hl, Bool.false_and]
      simp [hl]
  subst k
  cases rv
  cases ru
  obtain ⟨its, r, pl, _⟩ := I.tuple ha
  obtain ⟨its2, r2, pl2, _⟩ := I.tuple hc
  refine SeqAt.rcIn_tuples (e := e) pl pl2 (by omega) (fun j h1 h2 => by
    obtain ⟨p, hp, rp⟩ := vals_at r (j := j) (by simpa using h1)
    obtain ⟨q, hq, rq⟩ := vals_at r2 (j := j) (by simpa using h2)
    simpa using he j p q hp hq X pins σ s A.in1 _ _ rfl I (by show A.units + 1 + n < cLine; omega) rp rq) ?_
  rw [flag (by simp [r.length]) (by simp [r2.length])]
  exact hq
end
end S

namespace W
open PySem PySem.Spec PyProof.Rows L2
section
variable {P : Program} {w : World} {K : S.Frag} {mg : Str → Option Value} {base : Heap}
open S
/-! profiles: runs under way -/
abbrev Cho := Option Str × Bool
def mvV : Option Str → V
  | none => .non
  | some s => .str s
def fldF (f : Int) (pg sm : Addr) (st : V) (t : Int) (hi : Addr) (sv : V) : List (Str × V) := [("phase", .int f), ("program", .ref pg), ("sampler", .ref sm), ("state", st), ("ticks", .int t), ("history", .ref hi), ("saved", sv)]
section
variable (f : Int) (pg sm : Addr) (st : V) (t : Int) (hi : Addr) (sv : V)
theorem lf_phase : (fldF f pg sm st t hi sv).lookup ("phase" : Str) = some (.int f) := by
  unfold fldF
  rw [lookup_put, if_pos rfl]
theorem lf_program : (fldF f pg sm st t hi sv).lookup ("program" : Str) = some (.ref pg) := by
  unfold fldF
  rw [lookup_put, if_neg (by decide +kernel), lookup_put, if_pos rfl]
theorem lf_sampler : (fldF f pg sm st t hi sv).lookup ("sampler" : Str) = some (.ref sm) := by
  unfold fldF
  rw [lookup_put, if_neg (by decide +kernel), lookup_put, if_neg (by decide +kernel), lookup_put, if_pos rfl]
theorem lf_state : (fldF f pg sm st t hi sv).lookup ("state" : Str) = some st := by
  unfold fldF
  rw [lookup_put, if_neg (by decide +kernel), lookup_put, if_neg (by decide +kernel), lookup_put, if_neg (by decide +kernel), lookup_put, if_pos rfl]
theorem lf_ticks : (fldF f pg sm st t hi sv).lookup ("ticks" : Str) = some (.int t) := by
  unfold fldF
  rw [lookup_put, if_neg (by decide +kernel), lookup_put, if_neg (by decide +kernel), lookup_put, if_neg (by decide +kernel), lookup_put, if_neg (by decide +kernel), lookup_put, if_pos rfl]
theorem lf_history : (fldF f pg sm st t hi sv).lookup ("history" : Str) = some (.ref hi) := by
  unfold fldF
  rw [lookup_put, if_neg (by decide +kernel), lookup_put, if_neg (by decide +kernel), lookup_put, if_neg (by decide +kernel), lookup_put, if_neg (by decide +kernel), lookup_put, if_neg (by decide +kernel), lookup_put, if_pos rfl]
theorem lf_none {x : Str} (h : x ∉ (["phase", "program", "sampler", "state", "ticks", "history", "saved"] : List Str)) : (fldF f pg sm st t hi sv).lookup x = none := by
  simp only [List.mem_cons, List.not_mem_nil, or_false, not_or] at h
  obtain ⟨h1, h2, h3, h4, h5, h6, h7⟩ := h
  unfold fldF
  rw [lookup_put, if_neg h1, lookup_put, if_neg h2, lookup_put, if_neg h3, lookup_put, if_neg h4, lookup_put, if_neg h5, lookup_put, if_neg h6, lookup_put, if_neg h7]
  rfl
end
def StO (H : Hp) (v : V) (st : Option St5) : Prop := match st with
  | none => v = .non
  | some s => ∃ a, v = .ref a ∧ StA H a s
theorem StO.same {H H' : Hp} {v : V} {st : Option St5} (h : StO H v st) (e : Same H H') : StO H' v st := by
  cases st with
  | none => exact h
  | some s => exact let ⟨a, h1, h2⟩ := h; ⟨a, h1, h2.same e⟩
def ChA (H : Hp) (a : Addr) (c : Cho) : Prop := H a = some (.tup [mvV c.1, .bl c.2])
/-- a run under way: what has been chosen, where it is -/
structure PfF (K : S.Frag) (H : Hp) (p dx pg sm : Addr) (sv : V) (hi : Addr) (cs : List (Addr × Cho)) (rows : List Rw) (s : Str) (m : Sm) (f : Int) (st : Option St5) (t : Int) : Prop where
  at_ : H p = some (.ins (He.ga K "Profile") dx (fldF f pg sm sv t hi .non))
  pg : PgAt K H pg rows s
  sm : SmA K H sm m
  st : StO H sv st
  hi : H hi = some (.tup (cs.map fun z => .ref z.1))
  cs : ∀ z ∈ cs, ChA H z.1 z.2
def PfA (K : S.Frag) (H : Hp) (p : Addr) (rows : List Rw) (s : Str) (m : Sm) (f : Int) (st : Option St5) (t : Int) (hs : List Cho) : Prop := ∃ dx pg sm sv hi cs, PfF K H p dx pg sm sv hi cs rows s m f st t ∧ cs.map Prod.snd = hs
theorem PfF.same {H H' : Hp} {p dx pg sm : Addr} {sv : V} {hi : Addr} {cs : List (Addr × Cho)} {rows : List Rw} {s : Str} {m : Sm} {f : Int} {st : Option St5} {t : Int} (h : PfF K H p dx pg sm sv hi cs rows s m f st t) (e : Same H H') : PfF K H' p dx pg sm sv hi cs rows s m f st t :=
  ⟨e _ _ h.at_, h.pg.same e, h.sm.same e, h.st.same e, e _ _ h.hi, fun z hz => e _ _ (h.cs z hz)⟩
theorem PfA.same {H H' : Hp} {p : Addr} {rows : List Rw} {s : Str} {m : Sm} {f : Int} {st : Option St5} {t : Int} {hs : List Cho} (h : PfA K H p rows s m f st t hs) (e : Same H H') : PfA K H' p rows s m f st t hs := let ⟨dx, pg, sm, sv, hi, cs, F, g⟩ := h; ⟨dx, pg, sm, sv, hi, cs, F.same e, g⟩
theorem ok_BadChoice___init__ (T : Txt K mg) : FnOk P w K mg base (L2.CX P w) 1 (He.fAd K ("BadChoice", some "__init__")) (S.fdA K ("BadChoice", some "__init__")) ["self", "index"] (sp_err (He.ga K "BadChoice") "index") := by
  refine FunD.ok T.F_BadChoice___init__ sc_BadChoice___init__ (fun vs H Q E h => S.splen2 h) (fun cdv A outer s H vs Q E hr h => ?_)
  have hu := hu_of hr
  refine ⟨_, (pss_one (S.ps_ostK (K := K) rfl (pv 0) (pv 1) rfl)), ?_⟩
  obtain ⟨_, y, rfl, a, rfl, ha, k⟩ := h
  exact ⟨_, rfl, _, rfl, a, _, rfl, T.ox_BadChoice, T.xn_BadChoice_index, .inl ⟨ha, k⟩⟩
theorem ins_ne {H : Hp} {a p C C' dx dx' : Addr} {fs gs : List (Str × V)} (h : H a = some (.ins C dx fs)) (hp : H p = some (.ins C' dx' gs)) (hl : gs.length ≠ fs.length) : a ≠ p := fun e => by
  rw [e, hp] at h
  injection h with h
  injection h with _ _ h
  exact hl (by rw [h])
theorem PgAt.kp {H H' : Hp} {g p C dx : Addr} {fs : List (Str × V)} {rows : List Rw} {s : Str} (h : PgAt K H g rows s) (hp : H p = some (.ins C dx fs)) (h4 : fs.length ≠ 4) (k : Kp p H H') : PgAt K H' g rows s := by
  obtain ⟨d, l, u, c, F⟩ := h
  refine ⟨d, l, u, c, k _ _ (ins_ne F.at_ hp h4) F.at_, k _ _ (ne_of F.pl hp (by intro e; cases e)) F.pl, k _ _ (ne_of F.nm hp (by intro e; cases e)) F.nm, k _ _ (ne_of F.lk hp (by intro e; cases e)) F.lk, fun r hr => ?_⟩
  obtain ⟨⟨dr, er⟩, et⟩ := F.rw_ r hr
  exact ⟨⟨dr, k _ _ (ins_ne er hp h4) er⟩, k _ _ (ne_of et hp (by intro e; cases e)) et⟩
theorem SmA.kp {H H' : Hp} {a p C dx : Addr} {fs : List (Str × V)} {m : Sm} (h : SmA K H a m) (hp : H p = some (.ins C dx fs)) (h3 : fs.length ≠ 3) (k : Kp p H H') : SmA K H' a m := let ⟨d, e⟩ := h; ⟨d, k _ _ (ins_ne e hp h3) e⟩
def spPfG (K : S.Frag) : Sp := Sp4 fun self x y z H Q E => ∃ (p dx pg sm : Addr) (rows : List Rw) (s : Str) (m : Sm), self = .ref p ∧ H p = some (.ins (He.ga K "Profile") dx []) ∧ x = .ref pg ∧ PgAt K H pg rows s ∧ y = .ref sm ∧ SmA K H sm m ∧ Od H z ∧ (phFit m z = false → badAt K "BadPhase" "phase" z H E) ∧
  (phFit m z = true → ∀ H', Kp p H H' → PfA K H' p rows s m (phOf m z) none 0 [] → Q .non H')
theorem ok_Profile___init__ (T : Txt K mg) : FnOk P w K mg base (L2.CX P w) 4 (He.fAd K ("Profile", some "__init__")) (S.fdA K ("Profile", some "__init__")) ["self", "program", "sampler", "phase"] (spPfG K) := by
  have G_phase_of := ok_phase_of (P := P) (w := w) (base := base) T
  refine FunD.ok T.F_Profile___init__ sc_Profile___init__ (fun vs H Q E h => S.splen4 h) (fun cdv A outer s H vs Q E hr h => ?_)
  have hu := hu_of hr
  refine ⟨_, (pss_cons (S.ps_fldK (K := K) rfl (pv 0) (S.pe_fnS G_phase_of (hr.mono (by decide)) rfl T.g_phase_of T.F_phase_of.kp (kb_phase_of_2 T) (S.pasE (takes_of rfl rfl rfl rfl)) (pa_cons (pv 2) (pa_cons (pv 3) pa_nil)) pk_nil rfl rfl) rfl)
      (pss_cons (S.ps_fldK (K := K) rfl (pv 0) (pv 1) rfl)
      (pss_cons (S.ps_fldK (K := K) rfl (pv 0) (pv 2) rfl)
      (pss_cons (S.ps_fldK (K := K) rfl (pv 0) pe_non rfl)
      (pss_cons (S.ps_fldK (K := K) rfl (pv 0) pe_int rfl)
      (pss_cons (S.ps_fldK (K := K) rfl (pv 0) (pe_tup pa_nil) rfl)
      (pss_one (S.ps_fldK (K := K) rfl (pv 0) pe_non rfl)))))))), ?_⟩
  obtain ⟨_, _, _, z, rfl, p, dx, pg, sm, rows, s, m, rfl, hp, rfl, hg, rfl, hm, oz, bad, q⟩ := h
  obtain ⟨dm, em⟩ := id hm
  obtain ⟨dg, lg, ug, kg, G⟩ := id hg
  refine ⟨_, rfl, _, rfl, rfl, rfl, _, _, rfl, sm, m, rfl, hm, oz, (fun c => ?_), bad⟩
  have q := q c
  generalize phOf m z = f at *
  refine ⟨_, rfl, p, _, dx, _, rfl, hp, T.cl_Profile, T.na_Profile_phase, (by show 0 < 1000; decide), ?_⟩
  refine ⟨_, rfl, _, rfl, p, _, dx, _, rfl, upd_same, T.cl_Profile, T.na_Profile_program, (by show 1 < 1000; decide), ?_⟩
  refine ⟨_, rfl, _, rfl, p, _, dx, _, rfl, upd_same, T.cl_Profile, T.na_Profile_sampler, (by show 2 < 1000; decide), ?_⟩
  refine ⟨_, rfl, p, _, dx, _, rfl, upd_same, T.cl_Profile, T.na_Profile_state, (by show 3 < 1000; decide), ?_⟩
  refine ⟨_, rfl, p, _, dx, _, rfl, upd_same, T.cl_Profile, T.na_Profile_ticks, (by show 4 < 1000; decide), ?_⟩
  refine ⟨by decide, fun hi hhi => ?_⟩
  have nhi : ∀ (b : Addr) (o : HO), b ≠ p → H b = some o → b ≠ hi := fun b o nb h => ne_of_none (o := o) (by rw [upd_ne nb, upd_ne nb, upd_ne nb, upd_ne nb, upd_ne nb]; exact h) hhi
  have npi : p ≠ hi := ne_of_none upd_same hhi
  refine ⟨_, rfl, p, _, dx, _, rfl, (by rw [upd_ne npi]; exact upd_same), T.cl_Profile, T.na_Profile_history, (by show 5 < 1000; decide), ?_⟩
  refine ⟨_, rfl, p, _, dx, _, rfl, upd_same, T.cl_Profile, T.na_Profile_saved, (by show 6 < 1000; decide), ?_⟩
  have fin : ∀ J, Kp p H J → J p = some (.ins (He.ga K "Profile") dx (fldF f pg sm .non 0 hi .non)) → J hi = some (.tup []) → Q .non J := fun J k e1 e2 => q J k ⟨dx, pg, sm, .non, hi, [], ⟨e1, hg.kp hp (by decide) k, hm.kp hp (by decide) k, rfl, e2, fun z hz => by cases hz⟩, rfl⟩
  refine fin _ (fun b o nb h => ?_) upd_same ?_
  · rw [upd_ne nb, upd_ne nb, upd_ne (nhi b o nb h), upd_ne nb, upd_ne nb, upd_ne nb, upd_ne nb, upd_ne nb]
    exact h
  · rw [upd_ne npi.symm, upd_ne npi.symm, upd_same]
/-! the possible next ticks -/
def optP (l : Vw) (s0 : Str) : Option St5 → List (Option Str × Str × Int)
  | none => [(some s0, s0, 1)]
  | some s => (if s.sp < (plV l s.n).m then [(none, s.n, s.sp + 1)] else []) ++ if (plV l s.n).l ≤ s.sp then ((l.map fun z => z.1.n).filter fun n => decide (n ∈ nxV l s.n)).map fun n => (some n, n, 1) else []
def OpA (H : Hp) (a : Addr) (o : Option Str × Str × Int) : Prop := H a = some (.tup [mvV o.1, .str o.2.1, .int o.2.2])
def OpsA (H : Hp) (L : Addr) (os : List (Addr × (Option Str × Str × Int))) : Prop := H L = some (.lst (os.map fun z => .ref z.1)) ∧ ∀ z ∈ os, OpA H z.1 z.2
theorem OpsA.same {H H' : Hp} {L : Addr} {os : List (Addr × (Option Str × Str × Int))} (h : OpsA H L os) (e : Same H H') : OpsA H' L os := ⟨e _ _ h.1, fun z hz => e _ _ (h.2 z hz)⟩
def spOpts (K : S.Frag) : Sp := Sp1 fun x H Q _ => ∃ (p : Addr) (rows : List Rw) (s : Str) (m : Sm) (f : Int) (st : Option St5) (t : Int) (hs : List Cho), x = .ref p ∧ PfA K H p rows s m f st t hs ∧ okRows rows ∧ t ≠ 2000 ∧ (∀ s', st = some s' → s'.n ∈ rNames rows) ∧
  ∀ L os H', H L = none → Same H H' → OpsA H' L os → os.map Prod.snd = optP (vw rows) s st → Q (.ref L) H'
theorem ok_Profile_options (T : Txt K mg) : FnOk P w K mg base (L2.CX P w) 5 (He.fAd K ("Profile", some "options")) (S.fdA K ("Profile", some "options")) ["self"] (spOpts K) := by
  have G_Program___getitem__ := ok_Program___getitem__ (P := P) (w := w) (base := base) T
  have G_Program_nexts := ok_Program_nexts (P := P) (w := w) (base := base) T
  refine FunD.ok T.F_Profile_options sc_Profile_options (fun vs H Q E h => S.splen1 h) (fun cdv A outer s H vs Q E hr h => ?_)
  have hu := hu_of hr
  refine ⟨_, (pss_cons (ps_if (pt_cmpR op_eq (S.pe_fldK (K := K) rfl (pv 0) rfl) (S.pe_globI rfl T.c_MOST_RUN) (nomark _)) (pss_one (ps_ret (pe_lst pa_nil))) pss_nil)
      (pss_cons (ps_if (pt_cmpR op_isN (S.pe_fldK (K := K) rfl (pv 0) rfl) pe_non (nomark _)) (pss_one (ps_ret (pe_lst (pa_cons (pe_tup (pa_cons (S.pe_fldK (K := K) rfl (S.pe_fldK (K := K) rfl (pv 0) rfl) rfl) (pa_cons (S.pe_fldK (K := K) rfl (S.pe_fldK (K := K) rfl (pv 0) rfl) rfl) (pa_cons pe_int pa_nil)))) pa_nil)))) pss_nil)
      (pss_cons (ps_par (i := 1) (j := 2) rfl sc_Profile_options.nd rfl rfl (by decide) rfl rfl (pa_cons (pe_ix (S.ixK (K := K) rfl) (S.pe_fldK (K := K) rfl (pv 0) rfl) pe_int (fun _ _ => rfl)) (pa_cons (pe_ix (S.ixK (K := K) rfl) (S.pe_fldK (K := K) rfl (pv 0) rfl) pe_int (fun _ _ => rfl)) pa_nil)) rfl)
      (pss_cons (ps_set (i := 3) sc_Profile_options.nd rfl (by first | exact Or.inl rfl | exact Or.inr rfl) (pe_lst pa_nil))
      (S.pss_cut (ps_if (pt_cmpR op_lt (pv 2) (S.pe_fldK (K := K) rfl (S.pe_ixO (C := He.ga K "Program") T.me_Program___getitem__.1 T.fn_Program___getitem__ T.me_Program___getitem__.2 (S.raw_of G_Program___getitem__ (kb_Program___getitem___2 T)) (hr.mono (by decide)) (S.pasE (takes_of rfl rfl rfl rfl)) (S.pe_fldK (K := K) rfl (pv 0) rfl) (pv 1)) rfl) (nomark _)) (pss_one (ps_expr (pe_bm PySem.F.plainAttrs_list PySem.F.slot_list_append PySem.F.type_list_append mt_append (pv 3) (pa_cons (pe_tup (pa_cons pe_non (pa_cons (pv 1) (pa_cons (pe_op op_add (pv 2) pe_int) pa_nil)))) pa_nil)))) pss_nil)
      (S.pss_cut (ps_if (pt_cmpR op_ge (pv 2) (S.pe_fldK (K := K) rfl (S.pe_ixO (C := He.ga K "Program") T.me_Program___getitem__.1 T.fn_Program___getitem__ T.me_Program___getitem__.2 (S.raw_of G_Program___getitem__ (kb_Program___getitem___2 T)) (hr.mono (by decide)) (S.pasE (takes_of rfl rfl rfl rfl)) (S.pe_fldK (K := K) rfl (pv 0) rfl) (pv 1)) rfl) (nomark _)) (pss_cons (ps_set (i := 4) sc_Profile_options.nd rfl (by first | exact Or.inl rfl | exact Or.inr rfl) (pe_dget hu (pe_prop (S.pe_fldK (K := K) rfl (pv 0) rfl) T.cl_Program T.pr_Program_nexts G_Program_nexts (hr.mono (by decide)) (T.F_Program_nexts.bindsN fun _ _ _ _ _ _ us hl => match us, hl with | [_], _ => rfl) .nil passL rfl) (pv 1) (fun _ _ => rfl)))
      (pss_one (ps_expr (pe_bm PySem.F.plainAttrs_list PySem.F.slot_list_extend PySem.F.type_list_extend mt_extend (pv 3) (pa_cons (pe_lc (own := [("other", 5)]) (g := gName 5) rfl sc_Profile_options.nd (S.pi_seqK (K := K) rfl (S.pe_fldK (K := K) rfl (S.pe_fldK (K := K) rfl (pv 0) rfl) rfl)) (blkOk_by (N := ["self", "name", "spent", "rows", "links", "other"]) (sc := defScope s_Profile_options) (by decide +kernel)) (fun _ _ _ _ _ => (pg_name (i := 5) sc_Profile_options.nd rfl (by first | exact Or.inl rfl | exact Or.inr rfl))) (fun _ _ _ _ _ => pts_one (pt_cmpR (S.inGK (K := K) rfl (S.hu64 hr)) (pv 5) (pv 4) rfl)) (fun _ _ _ _ _ => (pe_tup (pa_cons (pv 5) (pa_cons (pv 5) (pa_cons pe_int pa_nil)))))) pa_nil))))) pss_nil)
      (pss_one (ps_ret (pv 3))))))))), ?_⟩
  obtain ⟨_, rfl, p, rows, s, m, f, st, t, hs, rfl, hp, ok, ht, hn, q⟩ := h
  obtain ⟨dx, pg, sm, sv, hi, cs, F, _⟩ := id hp
  obtain ⟨dg, lg, ug, kg, G⟩ := id F.pg
  refine ⟨_, rfl, p, _, dx, _, _, rfl, F.at_, T.cl_Profile, T.na_Profile_ticks, lf_ticks _ _ _ _ _ _ _, rfl, _, rfl, iteN (by simpa using ht) ?_⟩
  refine ⟨_, rfl, p, _, dx, _, _, rfl, F.at_, T.cl_Profile, T.na_Profile_state, lf_state _ _ _ _ _ _ _, rfl, _, rfl, ?_⟩
  cases st with
  | none =>
    have e : sv = .non := F.st
    refine iteY (by simp [e]) ?_
    refine ⟨_, rfl, p, _, dx, _, _, rfl, F.at_, T.cl_Profile, T.na_Profile_program, lf_program _ _ _ _ _ _ _, pg, _, dg, _, _, rfl, G.at_, T.cl_Program, T.na_Program_start, lg_start _ _ _ _, ?_⟩
    refine ⟨_, rfl, p, _, dx, _, _, rfl, F.at_, T.cl_Profile, T.na_Profile_program, lf_program _ _ _ _ _ _ _, pg, _, dg, _, _, rfl, G.at_, T.cl_Program, T.na_Program_start, lg_start _ _ _ _, by show 3 ≤ sizeLine; decide, fun a ha => ⟨by show 1 ≤ sizeLine; decide, fun L hL => ?_⟩⟩
    have sa := Same.new (o := .tup [.str s, .str s, .int 1]) ha
    have sL := Same.new (o := .lst [.ref a]) hL
    refine q L [(a, (some s, s, 1))] _ (sa.free hL) (sa.trans sL) ⟨upd_same, fun z hz => ?_⟩ rfl
    rw [List.mem_singleton.mp hz]
    exact sL _ _ upd_same
  | some s' =>
    obtain ⟨sa, e, hsa⟩ := F.st
    refine iteN (by simp [e]) ?_
    obtain ⟨r, hr', er⟩ := List.mem_map.mp (hn s' rfl)
    subst e
    refine ⟨_, rfl, p, _, dx, _, _, rfl, F.at_, T.cl_Profile, T.na_Profile_state, lf_state _ _ _ _ _ _ _, ixT hsa rfl ?_⟩
    refine ⟨_, rfl, p, _, dx, _, _, rfl, F.at_, T.cl_Profile, T.na_Profile_state, lf_state _ _ _ _ _ _ _, ixT hsa rfl ?_⟩
    obtain ⟨dr, edr⟩ := (G.rw_ r hr').1
    have pl : plV (vw rows) s'.n = r.d := by rw [← er]; exact plV_at ok.nd hr'
    have nx : nxV (vw rows) s'.n = r.nx := by rw [← er]; exact nxV_at ok.nd hr'
    have l6 := ok.l6
    refine ⟨_, _, rfl, ?_⟩
    refine ⟨by decide, fun L hL => ?_⟩
    have s1 := Same.new (o := .lst []) hL
    refine ⟨fun τ J => Same H J ∧ (∃ os, OpsA J L os ∧ os.map Prod.snd = (if s'.sp < (plV (vw rows) s'.n).m then [(none, s'.n, s'.sp + 1)] else []) ∧ os.length ≤ 1) ∧ τ = [some (.ref p), some (.str s'.n), some (.int s'.sp), some (.ref L), none, none], ?_, ?_⟩
    · have F1 := F.same s1
      have G1 := G.same s1
      refine ⟨_, rfl, _, rfl, p, _, dx, _, _, rfl, F1.at_, T.cl_Profile, T.na_Profile_program, lf_program _ _ _ _ _ _ _, _, rfl, pg, dg, _, rfl, G1.at_, _, _, rfl, pg, rows, s, r, rfl, F1.pg, by rw [er], hr', ok.nd, r.a, _, dr, _, _, rfl, s1 _ _ edr, T.cl_Place, T.na_Place_most, lk_most _ _ _ _, _, _, rfl, rfl, _, rfl, ?_⟩
      rw [pl]
      by_cases c : s'.sp < r.d.m
      · refine iteY (by simpa using c) ⟨_, rfl, .inl ⟨rfl, _, .inl (.inl upd_same)⟩, _, rfl, _, rfl, _, _, rfl, rfl, by show 3 ≤ sizeLine; decide, fun a ha => ?_⟩
        have sa' := Same.new (o := .tup [.non, .str s'.n, .int (s'.sp + 1)]) ha
        refine ⟨L, _, _, rfl, rfl, sa' _ _ upd_same, by show 0 < sizeLine; decide, Same.upd (s1.trans sa') hL, ⟨[(a, (none, s'.n, s'.sp + 1))], ⟨upd_same, fun z hz => ?_⟩, by rw [if_pos c]; rfl, Nat.le_refl _⟩, rfl⟩
        rw [List.mem_singleton.mp hz]
        show upd _ L _ a = _
        have naL : a ≠ L := fun e => by rw [e, upd_same] at ha; cases ha
        rw [upd_ne naL]
        exact upd_same
      · exact iteN (by simpa using c) ⟨s1, ⟨[], ⟨upd_same, fun _ h => by cases h⟩, by rw [if_neg c]; rfl, Nat.zero_le _⟩, rfl⟩
    rintro τ J ⟨sJ, ⟨os, ho, eo, lo⟩, rfl⟩
    refine ⟨fun τ J2 => Same H J2 ∧ (∃ os, OpsA J2 L os ∧ os.map Prod.snd = optP (vw rows) s (some s')) ∧ ∃ v4 v5, τ = [some (.ref p), some (.str s'.n), some (.int s'.sp), some (.ref L), v4, v5], ?_, ?_⟩
    · have F1 := F.same sJ
      have G1 := G.same sJ
      refine ⟨_, rfl, _, rfl, p, _, dx, _, _, rfl, F1.at_, T.cl_Profile, T.na_Profile_program, lf_program _ _ _ _ _ _ _, _, rfl, pg, dg, _, rfl, G1.at_, _, _, rfl, pg, rows, s, r, rfl, F1.pg, by rw [er], hr', ok.nd, r.a, _, dr, _, _, rfl, sJ _ _ edr, T.cl_Place, T.na_Place_least, lk_least _ _ _ _, _, _, rfl, rfl, _, rfl, ?_⟩
      have eopt : optP (vw rows) s (some s') = (if s'.sp < r.d.m then [(none, s'.n, s'.sp + 1)] else []) ++ if r.d.l ≤ s'.sp then ((rNames rows).filter fun n => decide (n ∈ r.nx)).map fun n => (some n, n, 1) else [] := by
        show (if s'.sp < (plV (vw rows) s'.n).m then _ else _) ++ (if (plV (vw rows) s'.n).l ≤ s'.sp then _ else _) = _
        rw [pl, nx, vw_nm]
      rw [eopt]
      rw [pl] at eo
      by_cases c : r.d.l ≤ s'.sp
      · refine iteY (by simpa using c) ⟨_, rfl, p, _, dx, _, _, rfl, F1.at_, T.cl_Profile, T.na_Profile_program, lf_program _ _ _ _ _ _ _, pg, dg, _, rfl, G1.at_, _, rfl, pg, rows, s, rfl, F1.pg, ok.nd, l6, fun d J3 hd s3 ed => ?_⟩
        have g : DGet J3 d (.str s'.n) (some (.ref r.ta)) := by
          have := DGet.k (k := .inr r.d.n) ed
          rw [valV_rows ok.nd hr'] at this
          rw [← er]
          exact this
        have s03 := sJ.trans s3
        have et := s03 _ _ (G.rw_ r hr').2
        have ho3 := ho.same s3
        have G3 := G.same s03
        have F3 := F.same s03
        refine ⟨_, rfl, d, _, rfl, g, ?_⟩
        refine ⟨_, rfl, .inl ⟨rfl, _, .inl (.inl ho3.1)⟩, _, rfl, p, _, dx, _, _, rfl, F3.at_, T.cl_Profile, T.na_Profile_program, lf_program _ _ _ _ _ _ _, pg, _, dg, _, _, rfl, G3.at_, T.cl_Program, T.na_Program_names, lg_names _ _ _ _, ug, _, rfl, .inr (.inl (.inl G3.nm)), fun It wk D hD => lc_seq wk (fun i J => Same J3 J ∧ ∃ ys : List (Addr × (Option Str × Str × Int)), J D = some (.lst (ys.map fun z => .ref z.1)) ∧ (∀ z ∈ ys, OpA J z.1 z.2) ∧ ys.map Prod.snd = (((rNames rows).take i).filter fun n => decide (n ∈ r.nx)).map (fun n => (some n, n, 1)) ∧ ys.length ≤ i) ⟨Same.new hD, [], upd_same, fun _ h => (by cases h), rfl, Nat.le_refl _⟩ (fun i J _ h => h.1) ?_ ?_⟩
        · rintro i x J4 hx ⟨s4, ys, eD, hy, ey, ly⟩
          rw [List.getElem?_map] at hx
          obtain ⟨n, hn', rfl⟩ := Option.map_eq_some_iff.mp hx
          have etk : (rNames rows).take (i + 1) = (rNames rows).take i ++ [n] := by rw [List.take_add_one, hn']; rfl
          have hil := (List.getElem?_eq_some_iff.mp hn').1
          rw [rNames_len] at hil
          refine ⟨rfl, _, rfl, _, rfl, in_strs (.inr (.inl (.inl (s4 _ _ et)))) false ⟨_, rfl, ?_⟩⟩
          rw [etk, List.filter_append, List.map_append]
          by_cases cn : n ∈ r.nx
          · refine iteY (by simp [cn]) ⟨_, rfl, _, rfl, by show 3 ≤ sizeLine; decide, fun a ha => ?_⟩
            have sa' := Same.new (o := .tup [.str n, .str n, .int 1]) ha
            refine ⟨_, sa' _ _ eD, by rw [List.length_map]; exact Nat.lt_of_le_of_lt (show ys.length ≤ 100 by omega) (by decide), Same.upd (s4.trans sa') hD, ys ++ [(a, (some n, n, 1))], by rw [upd_same, List.map_append]; rfl, fun z hz => ?_, by rw [List.map_append, ey]; simp [cn], by simp; omega⟩
            have : upd J4 a (.tup [.str n, .str n, .int 1]) z.1 = some (.tup [mvV z.2.1, .str z.2.2.1, .int z.2.2.2]) := by
              rcases List.mem_append.mp hz with hz | hz
              · exact sa' _ _ (hy z hz)
              · rw [List.mem_singleton.mp hz]
                exact upd_same
            show upd _ D _ z.1 = _
            rw [upd_ne (ne_of this (sa' _ _ eD) (by intro e; cases e))]
            exact this
          · exact iteN (by simp [cn]) ⟨s4, ys, eD, hy, by rw [ey]; simp [cn], by omega⟩
        · rintro J4 ⟨s4, ys, eD, hy, ey, ly⟩
          rw [List.length_map, List.take_length] at ey
          rw [List.length_map, rNames_len] at ly
          have ho4 := ho3.same s4
          have nLD : L ≠ D := ne_of_none ho3.1 hD
          refine ⟨L, D, _, _, rfl, rfl, ho4.1, eD, ?_, Same.upd (s03.trans s4) hL, ⟨os ++ ys, ⟨by rw [upd_same, List.map_append], fun z hz => ?_⟩, ?_⟩, _, _, rfl⟩
          · rw [List.length_map, List.length_map]
            exact Nat.le_trans (show os.length + ys.length ≤ 100 by omega) (by decide)
          · have : J4 z.1 = some (.tup [mvV z.2.1, .str z.2.2.1, .int z.2.2.2]) := by
              rcases List.mem_append.mp hz with hz | hz
              · exact ho4.2 z hz
              · exact hy z hz
            show upd _ L _ z.1 = _
            rw [upd_ne (ne_of this ho4.1 (by intro e; cases e))]
            exact this
          · rw [List.map_append, eo, ey, if_pos c]
      · refine iteN (by simpa using c) ⟨sJ, ⟨os, ho, ?_⟩, _, _, rfl⟩
        rw [eo, if_neg c, List.append_nil]
    rintro τ J2 ⟨s2, ⟨os2, ho2, eo2⟩, v4, v5, rfl⟩
    exact ⟨_, rfl, q L os2 J2 hL s2 ho2 eo2⟩
end
end W

namespace W
open PySem PySem.Spec PyProof.Rows L2
section
variable {P : Program} {w : World} {K : S.Frag} {mg : Str → Option Value} {base : Heap}
open S
/-! the moves of a profile -/
def befO (m : Sm) (slot : Int) : Option St5 → Bool
  | none => decide (m.j < slot)
  | some s => decide (0 < slot) && s.dn
def waO : Option St5 → Bool
  | none => false
  | some s => s.wt
def mvT (bf : Bool) (mv : Option Str) (q : Pr) : Cho × Pr := ((mv, q.1.dn && !bf), q)
def mvO (l : Vw) (m : Sm) (slot : Int) (bf wt : Bool) (o : Option Str × Str × Int) : List (Cho × Pr) := (tk (plV l o.2.1) m.j o.2.2 slot bf wt).map (mvT bf o.1)
def movP (l : Vw) (s0 : Str) (m : Sm) (slot : Int) (st : Option St5) : List (Cho × Pr) := (optP l s0 st).flatMap (mvO l m slot (befO m slot st) (waO st))
def MvA (H : Hp) (a : Addr) (z : Cho × Pr) : Prop := ∃ ca sa, H a = some (.tup [.ref ca, .ref sa, .bl z.2.2]) ∧ ChA H ca z.1 ∧ StA H sa z.2.1
def MvsA (H : Hp) (L : Addr) (ms : List (Addr × (Cho × Pr))) : Prop := H L = some (.lst (ms.map fun z => .ref z.1)) ∧ ∀ z ∈ ms, MvA H z.1 z.2
theorem MvA.same {H H' : Hp} {a : Addr} {z : Cho × Pr} (h : MvA H a z) (e : Same H H') : MvA H' a z := let ⟨ca, sa, h1, h2, h3⟩ := h; ⟨ca, sa, e _ _ h1, e _ _ h2, e _ _ h3⟩
theorem MvsA.same {H H' : Hp} {L : Addr} {ms : List (Addr × (Cho × Pr))} (h : MvsA H L ms) (e : Same H H') : MvsA H' L ms := ⟨e _ _ h.1, fun z hz => (h.2 z hz).same e⟩
theorem MvA.put {H : Hp} {a L : Addr} {z : Cho × Pr} {xs : List V} {o : HO} (h : MvA H a z) (hL : H L = some (.lst xs)) : MvA (upd H L o) a z := by
  obtain ⟨ca, sa, h1, h2, h3⟩ := h
  unfold ChA at h2
  unfold StA at h3
  refine ⟨ca, sa, ?_, ?_, ?_⟩
  · rw [upd_ne (ne_of h1 hL (by intro e; cases e))]; exact h1
  · show upd H L o ca = _
    rw [upd_ne (ne_of h2 hL (by intro e; cases e))]; exact h2
  · show upd H L o sa = _
    rw [upd_ne (ne_of h3 hL (by intro e; cases e))]; exact h3
theorem opt_len (l : Vw) (s0 : Str) (st : Option St5) : (optP l s0 st).length ≤ l.length + 1 := by
  cases st with
  | none =>
    show 1 ≤ _
    omega
  | some s =>
    show ((if _ then _ else _) ++ if _ then _ else _ : List (Option Str × Str × Int)).length ≤ _
    rw [List.length_append]
    have h1 : ∀ (c : Prop) [Decidable c], (if c then [((none : Option Str), s.n, s.sp + 1)] else []).length ≤ 1 := fun c _ => by split <;> simp
    have h2 := List.length_filter_le (fun n => decide (n ∈ nxV l s.n)) (l.map fun z => z.1.n)
    rw [List.length_map] at h2
    have h3 := h1 (s.sp < (plV l s.n).m)
    split <;> split <;> simp_all <;> omega
theorem opt_nm {rows : List Rw} {s0 : Str} {st : Option St5} (h0 : s0 ∈ rNames rows) (hs : ∀ s, st = some s → s.n ∈ rNames rows) : ∀ o ∈ optP (vw rows) s0 st, o.2.1 ∈ rNames rows := by
  intro o ho
  cases st with
  | none =>
    rw [List.mem_singleton.mp ho]
    exact h0
  | some s =>
    rcases List.mem_append.mp (show o ∈ (if s.sp < (plV (vw rows) s.n).m then [((none : Option Str), s.n, s.sp + 1)] else []) ++ (if (plV (vw rows) s.n).l ≤ s.sp then (((vw rows).map fun z => z.1.n).filter fun n => decide (n ∈ nxV (vw rows) s.n)).map fun n => (some n, n, (1 : Int)) else []) from ho) with h | h
    · split at h
      · rw [List.mem_singleton.mp h]
        exact hs s rfl
      · cases h
    · split at h
      · obtain ⟨n, hn, rfl⟩ := List.mem_map.mp h
        have := (List.mem_filter.mp hn).1
        rw [vw_nm] at this
        exact this
      · cases h
def slF (m : Sm) (f t : Int) : Int := (f + t) % m.p
def spMoves (K : S.Frag) : Sp := Sp1 fun x H Q _ => ∃ (p : Addr) (rows : List Rw) (s : Str) (m : Sm) (f : Int) (st : Option St5) (t : Int) (hs : List Cho), x = .ref p ∧ PfA K H p rows s m f st t hs ∧ okRows rows ∧ okSm m ∧ s ∈ rNames rows ∧ t ≠ 2000 ∧ (∀ s', st = some s' → s'.n ∈ rNames rows) ∧
  ∀ L ms H', H L = none → Same H H' → MvsA H' L ms → ms.map Prod.snd = movP (vw rows) s m (slF m f t) st → ms.length ≤ 14 → Q (.ref L) H'
theorem ok_Profile_moves (T : Txt K mg) : FnOk P w K mg base (L2.CX P w) 6 (He.fAd K ("Profile", some "moves")) (S.fdA K ("Profile", some "moves")) ["self"] (spMoves K) := by
  have G_Profile_options := ok_Profile_options (P := P) (w := w) (base := base) T
  have G_settle := ok_settle (P := P) (w := w) (base := base) T
  have G_Program___getitem__ := ok_Program___getitem__ (P := P) (w := w) (base := base) T
  refine FunD.ok T.F_Profile_moves sc_Profile_moves (fun vs H Q E h => S.splen1 h) (fun cdv A outer s H vs Q E hr h => ?_)
  have hu := hu_of hr
  refine ⟨_, (pss_cons (ps_set (i := 1) sc_Profile_moves.nd rfl (by first | exact Or.inl rfl | exact Or.inr rfl) (pe_op op_mod (pe_op op_add (S.pe_fldK (K := K) rfl (pv 0) rfl) (S.pe_fldK (K := K) rfl (pv 0) rfl)) (S.pe_fldK (K := K) rfl (S.pe_fldK (K := K) rfl (pv 0) rfl) rfl)))
      (S.pss_cut (ps_set (i := 2) sc_Profile_moves.nd rfl (by first | exact Or.inl rfl | exact Or.inr rfl) (pe_and (pe_cmpR op_notN (S.pe_fldK (K := K) rfl (pv 0) rfl) pe_non (nomark _)) (pe_and (pe_cmpR op_gt (pv 1) pe_int (nomark _)) (pe_one (pe_ix (S.ixK (K := K) rfl) (S.pe_fldK (K := K) rfl (pv 0) rfl) pe_int (fun _ _ => rfl))))))
      (S.pss_cut (ps_if (pt_cmpR op_isN (S.pe_fldK (K := K) rfl (pv 0) rfl) pe_non (nomark _)) (pss_one (ps_set (i := 2) sc_Profile_moves.nd rfl (by first | exact Or.inl rfl | exact Or.inr rfl) (pe_cmpR op_gt (pv 1) (S.pe_fldK (K := K) rfl (S.pe_fldK (K := K) rfl (pv 0) rfl) rfl) (nomark _)))) pss_nil)
      (S.pss_cut (ps_set (i := 3) sc_Profile_moves.nd rfl (by first | exact Or.inl rfl | exact Or.inr rfl) (pe_and (pe_cmpR op_notN (S.pe_fldK (K := K) rfl (pv 0) rfl) pe_non (nomark _)) (pe_one (pe_ix (S.ixK (K := K) rfl) (S.pe_fldK (K := K) rfl (pv 0) rfl) pe_int (fun _ _ => rfl)))))
      (pss_cons (ps_set (i := 4) sc_Profile_moves.nd rfl (by first | exact Or.inl rfl | exact Or.inr rfl) (pe_lst pa_nil))
      (pss_cons (ps_for (S.own_of rfl) rfl (S.pi_listK (K := K) rfl (S.pe_mtS0 (pv 0) T.cl_Profile T.me_Profile_options G_Profile_options (hr.mono (by decide)) (kb_Profile_options_1 T) S.pas0  pk_nil rfl rfl)) (pg_tup rfl (pgs_cons (pg_name (i := 5) sc_Profile_moves.nd rfl (by first | exact Or.inl rfl | exact Or.inr rfl)) (pgs_cons (pg_name (i := 6) sc_Profile_moves.nd rfl (by first | exact Or.inl rfl | exact Or.inr rfl)) (pgs_cons (pg_name (i := 7) sc_Profile_moves.nd rfl (by first | exact Or.inl rfl | exact Or.inr rfl)) pgs_nil))))
        (pss_one (ps_for (S.own_of rfl) rfl (S.pi_listK (K := K) rfl (S.pe_fnS G_settle (hr.mono (by decide)) rfl T.g_settle T.F_settle.kp (kb_settle_6 T) S.pas0 (pa_cons (S.pe_ixO (C := He.ga K "Program") T.me_Program___getitem__.1 T.fn_Program___getitem__ T.me_Program___getitem__.2 (S.raw_of G_Program___getitem__ (kb_Program___getitem___2 T)) (hr.mono (by decide)) (S.pasE (takes_of rfl rfl rfl rfl)) (S.pe_fldK (K := K) rfl (pv 0) rfl) (pv 6)) (pa_cons (S.pe_fldK (K := K) rfl (pv 0) rfl) (pa_cons (pv 7) (pa_cons (pv 1) (pa_cons (pv 2) (pa_cons (pv 3) pa_nil)))))) pk_nil rfl rfl)) (pg_tup rfl (pgs_cons (pg_name (i := 8) sc_Profile_moves.nd rfl (by first | exact Or.inl rfl | exact Or.inr rfl)) (pgs_cons (pg_name (i := 9) sc_Profile_moves.nd rfl (by first | exact Or.inl rfl | exact Or.inr rfl)) pgs_nil)))
        (pss_one (ps_expr (pe_bm PySem.F.plainAttrs_list PySem.F.slot_list_append PySem.F.type_list_append mt_append (pv 4) (pa_cons (pe_tup (pa_cons (pe_tup (pa_cons (pv 5) (pa_cons (pe_and (pe_ix (S.ixK (K := K) rfl) (pv 8) pe_int (fun _ _ => rfl)) (pe_one (pe_not (pv 2)))) pa_nil))) (pa_cons (pv 8) (pa_cons (pv 9) pa_nil)))) pa_nil)))))))
      (pss_one (ps_ret (pv 4))))))))), ?_⟩
  obtain ⟨_, rfl, p, rows, s, m, f, st, t, hs, rfl, hp, ok, okm, hs0, ht, hn, q⟩ := h
  obtain ⟨dx, pg, sm, sv, hi, cs, F, _⟩ := id hp
  obtain ⟨dm, em⟩ := F.sm
  obtain ⟨dg, lg, ug, kg, G⟩ := id F.pg
  have p1 := okm.p1
  refine ⟨_, rfl, p, _, dx, _, _, rfl, F.at_, T.cl_Profile, T.na_Profile_phase, lf_phase _ _ _ _ _ _ _, _, rfl, p, _, dx, _, _, rfl, F.at_, T.cl_Profile, T.na_Profile_ticks, lf_ticks _ _ _ _ _ _ _, _, _, rfl, rfl, _, rfl, p, _, dx, _, _, rfl, F.at_, T.cl_Profile, T.na_Profile_sampler, lf_sampler _ _ _ _ _ _ _, sm, _, dm, _, _, rfl, em, T.cl_Sampler, T.na_Sampler_period, lm_period _, _, _, rfl, rfl, by omega, ?_⟩
  show tCut _ _ _ [some (.ref p), some (.int (slF m f t)), none, none, none, none, none, none, none, none] _
  generalize slF m f t = slot at *
  refine ⟨fun τ J => J = H ∧ ∃ v2, (∀ s', st = some s' → v2 = some (.bl (befO m slot st))) ∧ τ = [some (.ref p), some (.int slot), v2, none, none, none, none, none, none, none], ?_, ?_⟩
  · refine ⟨_, rfl, p, _, dx, _, _, rfl, F.at_, T.cl_Profile, T.na_Profile_state, lf_state _ _ _ _ _ _ _, rfl, _, rfl, ?_⟩
    cases st with
    | none =>
      have e : sv = .non := F.st
      exact iteN (by simp [e]) ⟨rfl, _, (fun s' h => by cases h), rfl⟩
    | some s' =>
      obtain ⟨sa, e, hsa⟩ := F.st
      refine iteY (by simp [e]) ⟨_, rfl, _, _, rfl, rfl, _, rfl, ?_⟩
      by_cases c : 0 < slot
      · refine iteY (by simpa using c) ⟨_, rfl, p, _, dx, _, _, rfl, F.at_, T.cl_Profile, T.na_Profile_state, lf_state _ _ _ _ _ _ _, ?_⟩
        subst e
        refine ixT hsa rfl ⟨rfl, _, (fun s2 h => ?_), rfl⟩
        show some _ = some (V.bl (decide (0 < slot) && s'.dn))
        rw [decide_eq_true c, Bool.true_and]
      · refine iteN (by simpa using c) ⟨rfl, _, (fun s2 h => ?_), rfl⟩
        show some _ = some (V.bl (decide (0 < slot) && s'.dn))
        rw [decide_eq_false c, Bool.false_and]
  rintro τ J ⟨rfl, v2, e2, rfl⟩
  refine ⟨fun τ J' => J' = J ∧ τ = [some (.ref p), some (.int slot), some (.bl (befO m slot st)), none, none, none, none, none, none, none], ?_, ?_⟩
  · refine ⟨_, rfl, p, _, dx, _, _, rfl, F.at_, T.cl_Profile, T.na_Profile_state, lf_state _ _ _ _ _ _ _, rfl, _, rfl, ?_⟩
    cases st with
    | none =>
      have e : sv = .non := F.st
      exact iteY (by simp [e]) ⟨_, rfl, _, rfl, p, _, dx, _, _, rfl, F.at_, T.cl_Profile, T.na_Profile_sampler, lf_sampler _ _ _ _ _ _ _, sm, _, dm, _, _, rfl, em, T.cl_Sampler, T.na_Sampler_jitter, lm_jitter _, _, _, rfl, rfl, rfl, rfl⟩
    | some s' =>
      obtain ⟨sa, e, hsa⟩ := F.st
      refine iteN (by simp [e]) ⟨rfl, ?_⟩
      rw [e2 s' rfl]
  rintro τ J' ⟨rfl, rfl⟩
  refine ⟨fun τ J => J = J' ∧ τ = [some (.ref p), some (.int slot), some (.bl (befO m slot st)), some (.bl (waO st)), none, none, none, none, none, none], ?_, ?_⟩
  · refine ⟨_, rfl, p, _, dx, _, _, rfl, F.at_, T.cl_Profile, T.na_Profile_state, lf_state _ _ _ _ _ _ _, rfl, _, rfl, ?_⟩
    cases st with
    | none =>
      have e : sv = .non := F.st
      exact iteN (by simp [e]) ⟨rfl, rfl⟩
    | some s' =>
      obtain ⟨sa, e, hsa⟩ := F.st
      refine iteY (by simp [e]) ⟨_, rfl, p, _, dx, _, _, rfl, F.at_, T.cl_Profile, T.na_Profile_state, lf_state _ _ _ _ _ _ _, ?_⟩
      subst e
      exact ixT hsa rfl ⟨rfl, rfl⟩
  rintro τ J ⟨rfl, rfl⟩
  have nmo := opt_nm hs0 hn
  have lno := opt_len (vw rows) s st
  have lvw : (vw rows).length = rows.length := List.length_map _
  have l6 := ok.l6
  generalize hbf : befO m slot st = bf at *
  generalize hwt : waO st = wt at *
  refine ⟨by decide, fun L hL => ?_⟩
  have s1 := Same.new (o := .lst []) hL
  refine ⟨_, rfl, p, dx, _, rfl, s1 _ _ F.at_, lf_none _ _ _ _ _ _ _ (by decide +kernel), rfl, rfl, _, rfl, p, rows, s, m, f, st, t, hs, rfl, hp.same s1, ok, ht, hn, fun Lo os J2 nLo s2 ho eo => ?_⟩
  have nLL : L ≠ Lo := ne_of_none (upd_same (H := J) (a := L) (o := .lst [])) nLo
  have lo : os.length ≤ 7 := by
    have := congrArg List.length eo
    rw [List.length_map] at this
    omega
  have emov : ∀ i o, (os.map Prod.snd)[i]? = some o → ((os.map Prod.snd).take (i + 1)).flatMap (mvO (vw rows) m slot bf wt) = ((os.map Prod.snd).take i).flatMap (mvO (vw rows) m slot bf wt) ++ mvO (vw rows) m slot bf wt o := fun i o h => flat_take h
  refine ⟨Lo, rfl, ⟨_, .inl (.inl ho.1)⟩, for_list (xs := os.map fun z => V.ref z.1) (fun i σ J3 => Same J J3 ∧ OpsA J3 Lo os ∧ (∃ ms, MvsA J3 L ms ∧ ms.map Prod.snd = ((os.map Prod.snd).take i).flatMap (mvO (vw rows) m slot bf wt) ∧ ms.length ≤ 2 * i) ∧ ∃ v5 v6 v7 v8 v9, σ = [some (.ref p), some (.int slot), some (.bl bf), some (.bl wt), some (.ref L), v5, v6, v7, v8, v9]) ⟨s1.trans s2, ho, ⟨[], ⟨s2 _ _ upd_same, fun _ h => by cases h⟩, rfl, Nat.le_refl _⟩, _, _, _, _, _, rfl⟩ (fun i σ J3 _ h => .inl (.inl h.2.1.1)) ?_ ?_⟩
  · rintro i x σ J3 hx ⟨s3, ho3, ⟨ms, hms, ems, lms⟩, v5, v6, v7, v8, v9, rfl⟩
    rw [List.getElem?_map] at hx
    obtain ⟨z, hz', rfl⟩ := Option.map_eq_some_iff.mp hx
    have hil := (List.getElem?_eq_some_iff.mp hz').1
    have hzd : (os.map Prod.snd)[i]? = some z.2 := by rw [List.getElem?_map, hz']; rfl
    have hzo := List.mem_of_getElem? hz'
    have hnz := nmo z.2 (by rw [← eo]; exact List.mem_of_getElem? hzd)
    obtain ⟨r, hr', er⟩ := List.mem_map.mp hnz
    have pl : plV (vw rows) z.2.2.1 = r.d := by rw [← er]; exact plV_at ok.nd hr'
    have F3 := F.same s3
    have G3 := G.same s3
    obtain ⟨dr, edr⟩ := (G3.rw_ r hr').1
    rw [emov i z.2 hzd]
    refine ⟨z.1, _, rfl, .inl (.inl (ho3.2 z hzo)), rfl, _, _, rfl, _, _, rfl, _, _, rfl, rfl, ?_⟩
    refine ⟨_, rfl, p, _, dx, _, _, rfl, F3.at_, T.cl_Profile, T.na_Profile_program, lf_program _ _ _ _ _ _ _, _, rfl, pg, dg, _, rfl, G3.at_, _, _, rfl, pg, rows, s, r, rfl, F3.pg, by rw [er], hr', ok.nd, ?_⟩
    refine ⟨_, rfl, p, _, dx, _, _, rfl, F3.at_, T.cl_Profile, T.na_Profile_sampler, lf_sampler _ _ _ _ _ _ _, _, rfl, _, rfl, _, rfl, _, rfl, rfl, rfl, _, _, _, _, _, _, rfl, r.a, sm, r.d, m, z.2.2.2, slot, bf, wt, rfl, ⟨dr, edr⟩, rfl, F3.sm, rfl, rfl, rfl, rfl, fun B ys J4 hB s4 hy ey => ?_⟩
    have nLB : L ≠ B := ne_of_none hms.1 hB
    have ly : ys.length ≤ 2 := by
      have := congrArg List.length ey
      rw [snds_len] at this
      have := tk_len r.d m.j z.2.2.2 slot bf wt
      omega
    have emv : mvO (vw rows) m slot bf wt z.2 = (snds ys).map (mvT bf z.2.1) := by
      unfold mvO
      rw [pl, ey]
    rw [emv]
    refine ⟨B, rfl, ⟨_, .inl (.inl hy.1)⟩, for_list (xs := ys.map fun z => V.ref z.1) (fun k σ J5 => Same J J5 ∧ OpsA J5 Lo os ∧ PrsA J5 B ys ∧ (∃ ms2, MvsA J5 L ms2 ∧ ms2.map Prod.snd = ((os.map Prod.snd).take i).flatMap (mvO (vw rows) m slot bf wt) ++ ((snds ys).take k).map (mvT bf z.2.1) ∧ ms2.length ≤ 2 * i + k) ∧ ∃ v8 v9, σ = [some (.ref p), some (.int slot), some (.bl bf), some (.bl wt), some (.ref L), some (mvV z.2.1), some (.str z.2.2.1), some (.int z.2.2.2), v8, v9]) ⟨s3.trans s4, ho3.same s4, hy, ⟨ms, hms.same s4, by rw [ems]; simp, by omega⟩, _, _, rfl⟩ (fun k σ J5 _ h => .inl (.inl h.2.2.1.1)) ?_ ?_⟩
    · rintro k y σ J5 hyk ⟨s5, ho5, hy5, ⟨ms2, hms2, ems2, lms2⟩, v8', v9', rfl⟩
      rw [List.getElem?_map] at hyk
      obtain ⟨u, hu', rfl⟩ := Option.map_eq_some_iff.mp hyk
      have hkl := (List.getElem?_eq_some_iff.mp hu').1
      obtain ⟨su, u1, u2⟩ := hy5.2 u (List.mem_of_getElem? hu')
      have hus : (snds ys)[k]? = some u.2 := by rw [snds, List.getElem?_map, hu']; rfl
      have etk : (snds ys).take (k + 1) = (snds ys).take k ++ [u.2] := by rw [List.take_add_one, hus]; rfl
      refine ⟨u.1, _, rfl, .inl (.inl u1), rfl, _, _, rfl, _, _, rfl, rfl, ?_⟩
      refine ⟨_, rfl, .inl ⟨rfl, _, .inl (.inl hms2.1)⟩, _, rfl, tAndV_of (c := u.2.1.dn) (d := !bf) (fun Z h => ⟨_, rfl, ixT u2 rfl h⟩) (fun Z h => ⟨_, rfl, _, rfl, h⟩) ?_⟩
      refine ⟨by show 2 ≤ sizeLine; decide, fun ca hca => ?_⟩
      have sc := Same.new (o := .tup [mvV z.2.1, .bl (u.2.1.dn && !bf)]) hca
      refine ⟨_, rfl, _, rfl, by show 3 ≤ sizeLine; decide, fun a ha => ?_⟩
      have sa := Same.new (o := .tup [.ref ca, .ref su, .bl u.2.2]) ha
      have sca := sc.trans sa
      have hms3 := hms2.same sca
      refine ⟨L, _, _, rfl, rfl, hms3.1, by rw [List.length_map]; exact Nat.lt_of_le_of_lt (show ms2.length ≤ 100 by omega) (by decide), Same.upd (s5.trans sca) hL, ?_, ?_, ⟨ms2 ++ [(a, mvT bf z.2.1 u.2)], ⟨by rw [upd_same, List.map_append]; rfl, fun y hy => ?_⟩, by rw [List.map_append, ems2, etk, List.map_append, List.append_assoc]; rfl, by simp; omega⟩, _, _, rfl⟩
      · exact ⟨by rw [upd_ne nLL.symm]; exact sca _ _ ho5.1, fun y hy => by
          have := sca _ _ (ho5.2 y hy)
          show upd _ L _ y.1 = _
          rw [upd_ne (ne_of this hms3.1 (by intro e; cases e))]
          exact this⟩
      · exact ⟨by rw [upd_ne nLB.symm]; exact sca _ _ hy5.1, fun y hy => ((hy5.2 y hy).same sca).put hms3.1⟩
      · rcases List.mem_append.mp hy with hy | hy
        · exact (hms3.2 y hy).put hms3.1
        · rw [List.mem_singleton.mp hy]
          exact MvA.put (z := mvT bf z.2.1 u.2) ⟨ca, su, upd_same, sa _ _ upd_same, sca _ _ u2⟩ hms3.1
    · rintro σ J5 ⟨s5, ho5, hy5, ⟨ms2, hms2, ems2, lms2⟩, v8', v9', rfl⟩
      rw [List.length_map] at ems2 lms2
      rw [← snds_len ys, List.take_length] at ems2
      exact ⟨s5, ho5, ⟨ms2, hms2, ems2, by omega⟩, _, _, _, _, _, rfl⟩
  · rintro σ J3 ⟨s3, ho3, ⟨ms, hms, ems, lms⟩, v5, v6, v7, v8, v9, rfl⟩
    rw [List.length_map] at ems lms
    rw [← List.length_map (f := Prod.snd) (as := os), List.take_length, eo] at ems
    refine ⟨_, rfl, q L ms J3 hL s3 hms ?_ (by omega)⟩
    rw [ems]
    unfold movP
    rw [hbf, hwt]
def ChsA (H : Hp) (L : Addr) (cs : List (Addr × Cho)) : Prop := H L = some (.lst (cs.map fun z => .ref z.1)) ∧ ∀ z ∈ cs, ChA H z.1 z.2
theorem ChsA.same {H H' : Hp} {L : Addr} {cs : List (Addr × Cho)} (h : ChsA H L cs) (e : Same H H') : ChsA H' L cs := ⟨e _ _ h.1, fun z hz => e _ _ (h.2 z hz)⟩
/-- where the choice of a move stands -/
def chAd (H : Hp) (a : Addr) : Addr := match H a with
  | some (.tup (.ref sa :: _)) => sa
  | _ => 0
theorem chAd_of {H : Hp} {a : Addr} {z : Cho × Pr} (h : MvA H a z) : ∃ sa, H a = some (.tup [.ref (chAd H a), .ref sa, .bl z.2.2]) ∧ ChA H (chAd H a) z.1 ∧ StA H sa z.2.1 := by
  obtain ⟨ca, sa, h1, h2, h3⟩ := h
  have e : chAd H a = ca := by unfold chAd; rw [h1]
  rw [e]
  exact ⟨sa, h1, h2, h3⟩
def spChs (K : S.Frag) : Sp := Sp1 fun x H Q _ => ∃ (p : Addr) (rows : List Rw) (s : Str) (m : Sm) (f : Int) (st : Option St5) (t : Int) (hs : List Cho), x = .ref p ∧ PfA K H p rows s m f st t hs ∧ okRows rows ∧ okSm m ∧ s ∈ rNames rows ∧ t ≠ 2000 ∧ (∀ s', st = some s' → s'.n ∈ rNames rows) ∧
  ∀ L cs H', H L = none → Same H H' → ChsA H' L cs → cs.map Prod.snd = (movP (vw rows) s m (slF m f t) st).map Prod.fst → cs.length ≤ 14 → Q (.ref L) H'
theorem ok_Profile_choices (T : Txt K mg) : FnOk P w K mg base (L2.CX P w) 7 (He.fAd K ("Profile", some "choices")) (S.fdA K ("Profile", some "choices")) ["self"] (spChs K) := by
  have G_Profile_moves := ok_Profile_moves (P := P) (w := w) (base := base) T
  refine FunD.ok T.F_Profile_choices sc_Profile_choices (fun vs H Q E h => S.splen1 h) (fun cdv A outer s H vs Q E hr h => ?_)
  have hu := hu_of hr
  refine ⟨_, (pss_one (ps_ret (pe_lc (own := [("row", 1)]) (g := gName 1) (tt := tYes) rfl sc_Profile_choices.nd (S.pi_seqK (K := K) rfl (S.pe_mtS0 (pv 0) T.cl_Profile T.me_Profile_moves G_Profile_moves (hr.mono (by decide)) (kb_Profile_moves_1 T) S.pas0  pk_nil rfl rfl)) (blkOk_by (N := ["self", "row"]) (sc := defScope s_Profile_choices) (by decide +kernel)) (fun _ _ _ _ _ => (pg_name (i := 1) sc_Profile_choices.nd rfl (by first | exact Or.inl rfl | exact Or.inr rfl))) (fun _ _ _ _ _ => pts_nil) (fun _ _ _ _ _ => (pe_ix (S.ixK (K := K) rfl) (pv 1) pe_int (fun _ _ => rfl)))))), ?_⟩
  obtain ⟨_, rfl, p, rows, s, m, f, st, t, hs, rfl, hp, ok, okm, hs0, ht, hn, q⟩ := h
  obtain ⟨dx, pg, sm, sv, hi, cs, F, _⟩ := id hp
  refine ⟨_, rfl, p, dx, _, rfl, F.at_, lf_none _ _ _ _ _ _ _ (by decide +kernel), rfl, rfl, _, rfl, p, rows, s, m, f, st, t, hs, rfl, hp, ok, okm, hs0, ht, hn, fun L ms J nL s1 hms ems lms => ?_⟩
  refine ⟨L, _, rfl, .inl (.inl (.inl hms.1)), fun It wk D hD => lc_mapA (as := ms) (v := fun z => V.ref z.1) wk (fun z => .ref (chAd J z.1)) (fun x hx y hy e => ?_) hD (by omega) (fun x => rfl) (fun z J2 Z hz s2 k => ?_) fun J2 s2 eD => ?_⟩
  · injection e with e
    rw [e]
  · obtain ⟨sa, h1, _⟩ := chAd_of (hms.2 z hz)
    exact ⟨_, rfl, ixT (s2 _ _ h1) rfl (k J2 fun _ _ h => h)⟩
  · refine q D (ms.map fun z => (chAd J z.1, z.2.1)) J2 (s1.free hD) (s1.trans s2) ⟨by rw [List.map_map]; exact eD, fun y hy => ?_⟩ ?_ (by rw [List.length_map]; exact lms)
    · obtain ⟨z, hz, rfl⟩ := List.mem_map.mp hy
      obtain ⟨sa, _, h2, _⟩ := chAd_of (hms.2 z hz)
      exact s2 _ _ h2
    · rw [← ems, List.map_map, List.map_map]
      rfl
end
end W

namespace W
open PySem PySem.Spec PyProof.Rows L2
section
variable {P : Program} {w : World} {K : S.Frag} {mg : Str → Option Value} {base : Heap}
open S
/-! a tick made -/
def mvD : Option Str → PyData
  | none => .none
  | some s => .str s
def chD (c : Cho) : PyData := .tuple [mvD c.1, .bool c.2]
theorem dp_mv {H : Hp} (c : Option Str) : Dp K H (mvV c) (mvD c) := by
  cases c with
  | none => exact .non
  | some s => exact .str s
theorem dp_ch {H : Hp} {a : Addr} {c : Cho} (h : ChA H a c) : Dp K H (.ref a) (chD c) := .tup (.inl (.inl h)) (.cons (dp_mv _) (.cons (.bl _) .nil))
theorem ch_plain (c : Cho) : (chD c).plain = true := by
  obtain ⟨c1, c2⟩ := c
  cases c1 <;> rfl
theorem ch_depth (c : Cho) : (chD c).depth ≤ 5 := by
  obtain ⟨c1, c2⟩ := c
  cases c1 <;> simp [chD, mvD, PyData.depth, PyData.depthAll]
theorem ch_eqv (c c' : Cho) : PyData.eqv (chD c) (chD c') = decide (c = c') := by
  obtain ⟨c1, c2⟩ := c
  obtain ⟨d1, d2⟩ := c'
  cases c1 <;> cases d1 <;> cases c2 <;> cases d2 <;> simp [chD, mvD, PyData.eqv, PyData.eqvAll]
  all_goals (rw [Bool.eq_iff_iff]; simp)
/-- the move that a choice means -/
def hitP (e : PyData) (b : Bool) (z : Cho × Pr) : Bool := PyData.eqv (chD z.1) (.tuple [e, .bool b])
def spCall (K : S.Frag) : Sp := Sp2 fun x y H Q E => ∃ (p : Addr) (rows : List Rw) (s : Str) (m : Sm) (f : Int) (st : Option St5) (t : Int) (hs : List Cho), x = .ref p ∧ PfA K H p rows s m f st t hs ∧ okRows rows ∧ okSm m ∧ s ∈ rNames rows ∧ t ≠ 2000 ∧ hs.length ≤ 2100 ∧ (∀ s', st = some s' → s'.n ∈ rNames rows) ∧
  ((NoT H y ∧ badAt K "BadChoice" "index" (.int t) H E) ∨
   (∃ (a : Addr) (xs : List V), y = .ref a ∧ H a = some (.tup xs) ∧ (∀ v ∈ xs, Od H v) ∧ (xs.length ≠ 2 ∨ ∃ u v, xs = [u, v] ∧ isBl v = false) ∧ badAt K "BadChoice" "index" (.int t) H E) ∨
   (∃ (a : Addr) (v : V) (b : Bool) (e : PyData), y = .ref a ∧ H a = some (.tup [v, .bl b]) ∧ Dp K H v e ∧ e.plain = true ∧ e.depth ≤ 10 ∧
     ((movP (vw rows) s m (slF m f t) st).find? (hitP e b) = none → badAt K "BadChoice" "index" (.int t) H E) ∧
     ∀ z, (movP (vw rows) s m (slF m f t) st).find? (hitP e b) = some z → ∀ H', Kp p H H' → PfA K H' p rows s m f (some z.2.1) (t + 1) (hs ++ [z.1]) → Q (if z.2.2 then .str z.2.1.n else .non) H'))
theorem dp_two {H : Hp} {a : Addr} {v : V} {b : Bool} {e : PyData} (h : H a = some (.tup [v, .bl b])) (d : Dp K H v e) : Dp K H (.ref a) (.tuple [e, .bool b]) := .tup (.inl (.inl h)) (.cons d (.cons (.bl _) .nil))
theorem plain_two {e : PyData} {b : Bool} (h : e.plain = true) : (PyData.tuple [e, .bool b]).plain = true := by
  show (e.plain && ((PyData.bool b).plain && true)) = true
  rw [h]
  rfl
theorem ok_Profile___call__ (T : Txt K mg) : FnOk P w K mg base (L2.CX P w) 7 (He.fAd K ("Profile", some "__call__")) (S.fdA K ("Profile", some "__call__")) ["self", "choice"] (spCall K) := by
  have G_BadChoice___init__ := ok_BadChoice___init__ (P := P) (w := w) (base := base) T
  have G_Profile_moves := ok_Profile_moves (P := P) (w := w) (base := base) T
  refine FunD.ok T.F_Profile___call__ sc_Profile___call__ (fun vs H Q E h => S.splen2 h) (fun cdv A outer s H vs Q E hr h => ?_)
  have hu := hu_of hr
  refine ⟨_, (pss_cons (ps_if (PW.pt (pw_or (pt_not (pt_val (pe_callB (S.isiK (K := K) rfl) rfl T.n_isinstance S.boot_isinstance (pa_cons (pv 1) (pa_cons (pe_bltn (v := .ty "tuple") rfl T.n_tuple S.boot_tuple rfl) pa_nil))))) (pw_or (pt_cmpR op_ne (pe_callB (S.lenK (K := K) rfl) rfl T.n_len S.boot_len (pa_cons (pv 1) pa_nil)) pe_int (nomark _)) (pw_or1 (pt_not (pt_val (pe_callB (S.isiK (K := K) rfl) rfl T.n_isinstance S.boot_isinstance (pa_cons (pe_ix (S.ixK (K := K) rfl) (pv 1) pe_int (fun _ _ => rfl)) (pa_cons (pe_bltn (v := .ty "bool") rfl T.n_bool S.boot_bool rfl) pa_nil))))))))) (pss_one (S.ps_raiseO rfl (takes_of rfl rfl rfl rfl) T.ox_BadChoice T.xi_BadChoice T.xt_BadChoice G_BadChoice___init__ (hr.mono (by decide)) (kb_BadChoice___init___2 T) rfl T.g_BadChoice (pa_cons (S.pe_fldK (K := K) rfl (pv 0) rfl) pa_nil))) pss_nil)
      (pss_cons (ps_for (S.own_of rfl) rfl (S.pi_listK (K := K) rfl (S.pe_mtS0 (pv 0) T.cl_Profile T.me_Profile_moves G_Profile_moves (hr.mono (by decide)) (kb_Profile_moves_1 T) S.pas0  pk_nil rfl rfl)) (pg_tup rfl (pgs_cons (pg_name (i := 2) sc_Profile___call__.nd rfl (by first | exact Or.inl rfl | exact Or.inr rfl)) (pgs_cons (pg_name (i := 3) sc_Profile___call__.nd rfl (by first | exact Or.inl rfl | exact Or.inr rfl)) (pgs_cons (pg_name (i := 4) sc_Profile___call__.nd rfl (by first | exact Or.inl rfl | exact Or.inr rfl)) pgs_nil))))
        (pss_one (ps_if (pt_cmpR (S.eqGK (K := K) rfl (S.hu64 hr)) (pv 2) (pv 1) (nomark _)) (pss_cons (S.ps_fldK (K := K) rfl (pv 0) (pv 3) rfl)
      (pss_cons (S.ps_fldaugK (K := K) rfl (pv 0) pe_int in_add)
      (pss_cons (S.ps_fldK (K := K) rfl (pv 0) (pe_op (S.catTK (K := K) rfl) (S.pe_fldK (K := K) rfl (pv 0) rfl) (pe_tup (pa_cons (pv 2) pa_nil))) rfl)
      (pss_cons (ps_if (pt_val (pv 4)) (pss_one (ps_ret (pe_ix (S.ixK (K := K) rfl) (pv 3) pe_int (fun _ _ => rfl)))) pss_nil)
      (pss_one (ps_ret pe_non)))))) pss_nil)))
      (pss_one (S.ps_raiseO rfl (takes_of rfl rfl rfl rfl) T.ox_BadChoice T.xi_BadChoice T.xt_BadChoice G_BadChoice___init__ (hr.mono (by decide)) (kb_BadChoice___init___2 T) rfl T.g_BadChoice (pa_cons (S.pe_fldK (K := K) rfl (pv 0) rfl) pa_nil))))), ?_⟩
  obtain ⟨_, y, rfl, p, rows, s, m, f, st, t, hs, rfl, hp, ok, okm, hs0, ht, lh, hn, hc⟩ := h
  obtain ⟨dx, pg, sm, sv, hi, cs, F, ecs⟩ := id hp
  have tick : ∀ (J : Hp), Same H J → ∀ (Z : TA → Prop), True := fun _ _ _ => trivial
  rcases hc with ⟨nt, bad⟩ | ⟨a, xs, rfl, ha, od, hx, bad⟩ | ⟨a, v, b, e, rfl, ha, dv, pe, de, b0, q⟩
  · obtain ⟨tt, ty, kt⟩ := nt.ty (K := K)
    exact ⟨_, rfl, _, _, _, _, false, rfl, .ty _, ty, kt, _, rfl, iteT (iteT (raise_err (.int t) bad (fun R r => ⟨_, rfl, p, _, dx, _, _, rfl, F.at_, T.cl_Profile, T.na_Profile_ticks, lf_ticks _ _ _ _ _ _ _, r⟩)))⟩
  · refine ⟨_, rfl, _, _, _, _, true, rfl, .ty _, .base (.tup ha), kit_ty (by decide +kernel), _, rfl, iteF ?_⟩
    refine ⟨_, rfl, _, _, rfl, lenVX (.inr (.inl (.inl ha))), rfl, _, rfl, ?_⟩
    by_cases c : xs.length = 2
    · rcases hx with hx | ⟨u, v, rfl, hv⟩
      · exact absurd c hx
      · refine iteN (by simp) ?_
        obtain ⟨t1, ty1, kt1⟩ := (od v (by simp)).bl? (K := K)
        rw [hv] at kt1
        exact ⟨_, rfl, ixT ha rfl ⟨_, _, _, _, _, rfl, .ty _, ty1, kt1, _, rfl, iteT (raise_err (.int t) bad (fun R r => ⟨_, rfl, p, _, dx, _, _, rfl, F.at_, T.cl_Profile, T.na_Profile_ticks, lf_ticks _ _ _ _ _ _ _, r⟩))⟩⟩
    · refine iteY ?_ (iteT (raise_err (.int t) bad (fun R r => ⟨_, rfl, p, _, dx, _, _, rfl, F.at_, T.cl_Profile, T.na_Profile_ticks, lf_ticks _ _ _ _ _ _ _, r⟩)))
      have : ¬ (V.int (xs.length : Int) = V.int 2) := fun e => by injection e with e; omega
      simpa using this
  refine ⟨_, rfl, _, _, _, _, true, rfl, .ty _, .base (.tup ha), kit_ty (by decide +kernel), _, rfl, iteF ?_⟩
  refine ⟨_, rfl, _, _, rfl, lenVX (.inr (.inl (.inl ha))), rfl, _, rfl, iteF ?_⟩
  refine ⟨_, rfl, ixT ha rfl ⟨_, _, _, _, true, rfl, .ty _, .base (.bl _), kit_ty (by decide +kernel), _, rfl, iteF ?_⟩⟩
  refine ⟨_, rfl, p, dx, _, rfl, F.at_, lf_none _ _ _ _ _ _ _ (by decide +kernel), rfl, rfl, _, rfl, p, rows, s, m, f, st, t, hs, rfl, hp, ok, okm, hs0, ht, hn, fun L ms J1 nL s1 hms ems lms => ?_⟩
  rw [← ems] at b0 q
  refine ⟨L, rfl, ⟨_, .inl (.inl hms.1)⟩, for_list (xs := ms.map fun z => V.ref z.1) (fun i σ J => J = J1 ∧ (∀ z ∈ (ms.map Prod.snd).take i, hitP e b z = false) ∧ ∃ v2 v3 v4, σ = [some (.ref p), some (.ref a), v2, v3, v4]) ⟨rfl, fun z hz => (by simp at hz), _, _, _, rfl⟩ (fun i σ J _ h => by rw [h.1]; exact .inl (.inl hms.1)) ?_ ?_⟩
  · rintro i x σ J hx ⟨rfl, no, v2, v3, v4, rfl⟩
    rw [List.getElem?_map] at hx
    obtain ⟨z, hz', rfl⟩ := Option.map_eq_some_iff.mp hx
    have hzd : (ms.map Prod.snd)[i]? = some z.2 := by rw [List.getElem?_map, hz']; rfl
    obtain ⟨ca, sa, z1, z2, z3⟩ := hms.2 z (List.mem_of_getElem? hz')
    have F1 := F.same s1
    have ha1 := s1 _ _ ha
    refine ⟨z.1, _, rfl, .inl (.inl z1), rfl, _, _, rfl, _, _, rfl, _, _, rfl, rfl, ?_⟩
    have pq := eg_dat (K := K) (dp_ch z2) (dp_two ha1 (dp_same s1 dv)) (ch_plain _) (plain_two pe)
    refine ⟨_, rfl, _, rfl, 20, _, by decide, (pq.up (show min (chD z.2.1).depth (PyData.tuple [e, .bool b]).depth ≤ 20 by have := ch_depth z.2.1; omega)).eq, _, rfl, ?_⟩
    show if hitP e b z.2 = true then _ else _
    by_cases c : hitP e b z.2 = true
    · refine iteY c ?_
      have hf := find_first hzd no c
      have qz := q z.2 hf
      refine ⟨_, rfl, _, rfl, p, _, dx, _, rfl, F1.at_, T.cl_Profile, T.na_Profile_state, (by show 7 < 1000; decide), ?_⟩
      have at1 : upd J p (.ins (He.ga K "Profile") dx (fldF f pg sm (.ref sa) t hi .non)) p = some (.ins (He.ga K "Profile") dx (fldF f pg sm (.ref sa) t hi .non)) := upd_same
      refine ⟨_, rfl, p, _, dx, _, _, rfl, at1, T.cl_Profile, T.na_Profile_ticks, lf_ticks _ _ _ _ _ _ _, _, _, rfl, rfl, dx, _, at1, (by show 7 < 1000; decide), ?_⟩
      have at2 : upd (upd J p (.ins (He.ga K "Profile") dx (fldF f pg sm (.ref sa) t hi .non))) p (.ins (He.ga K "Profile") dx (fldF f pg sm (.ref sa) (t + 1) hi .non)) p = some (.ins (He.ga K "Profile") dx (fldF f pg sm (.ref sa) (t + 1) hi .non)) := upd_same
      refine ⟨_, rfl, p, _, dx, _, _, rfl, at2, T.cl_Profile, T.na_Profile_history, lf_history _ _ _ _ _ _ _, _, rfl, by show 1 ≤ sizeLine; decide, fun h1 hh1 => ?_⟩
      have k2 : Kp p J (upd (upd J p (.ins (He.ga K "Profile") dx (fldF f pg sm (.ref sa) t hi .non))) p (.ins (He.ga K "Profile") dx (fldF f pg sm (.ref sa) (t + 1) hi .non))) := Kp.trans Kp.put Kp.put
      have sn := Same.new (o := .tup [.ref ca]) hh1
      have nhi : hi ≠ p := ne_of F1.hi F1.at_ (by intro e; cases e)
      refine cat_TtL (sn _ _ (k2 _ _ nhi F1.hi)) upd_same (by rw [List.length_map, ← List.length_map (f := Prod.snd) (as := cs), ecs]; show hs.length + 1 ≤ 4000; omega) fun hi2 J3 s3 ehi2 => ?_
      have at3 := s3 _ _ (sn _ _ at2)
      refine ⟨_, rfl, p, _, dx, _, rfl, at3, T.cl_Profile, T.na_Profile_history, (by show 7 < 1000; decide), ?_⟩
      have k4 : ∀ o, Kp p J (upd J3 p o) := fun o => ((k2.trans (Kp.of sn)).trans (Kp.of s3)).trans Kp.put
      have nhi2 : hi2 ≠ p := ne_of ehi2 at3 (by intro e; cases e)
      have z2' : J ca = some (.tup [mvV z.2.1.1, .bl z.2.1.2]) := z2
      have z3' : J sa = some _ := z3
      have nca : ca ≠ p := ne_of z2' F1.at_ (by intro e; cases e)
      have nsa : sa ≠ p := ne_of z3' F1.at_ (by intro e; cases e)
      have fin := qz (upd J3 p (.ins (He.ga K "Profile") dx (fldF f pg sm (.ref sa) (t + 1) hi2 .non))) (fun b o n h => k4 _ b o n (s1 b o h))
        ⟨dx, pg, sm, .ref sa, hi2, cs ++ [(ca, z.2.1)], ⟨upd_same, F1.pg.kp F1.at_ (by show 7 ≠ 4; decide) (k4 _), F1.sm.kp F1.at_ (by show 7 ≠ 3; decide) (k4 _), ⟨sa, rfl, k4 _ _ _ nsa z3'⟩, (by rw [upd_ne nhi2, ehi2, List.map_append]; rfl), fun y hy => (by
          rcases List.mem_append.mp hy with hy | hy
          · have h := F1.cs y hy
            exact k4 _ _ _ (ne_of (show J y.1 = some (.tup [mvV y.2.1, .bl y.2.2]) from h) F1.at_ (by intro e; cases e)) h
          · rw [List.mem_singleton.mp hy]
            exact k4 _ _ _ nca z2')⟩, by rw [List.map_append, ecs]; rfl⟩
      refine ⟨_, rfl, _, rfl, ?_⟩
      have z4 := k4 (.ins (He.ga K "Profile") dx (fldF f pg sm (.ref sa) (t + 1) hi2 .non)) _ _ nsa z3'
      revert fin
      cases z.2.2.2 with
      | true => exact fun fin => iteT ⟨_, rfl, ixT z4 rfl fin⟩
      | false => exact fun fin => iteF fin
    · refine iteN c ⟨rfl, fun y hy => ?_, _, _, _, rfl⟩
      rw [List.take_add_one, hzd] at hy
      rcases List.mem_append.mp hy with hy | hy
      · exact no y hy
      · rw [show y = z.2 by simpa using hy]
        exact Bool.eq_false_iff.mpr c
  · rintro σ J ⟨rfl, no, v2, v3, v4, rfl⟩
    rw [List.length_map, ← List.length_map (f := Prod.snd) (as := ms), List.take_length] at no
    have F1 := F.same s1
    show tMkO (He.ga K "BadChoice") (sp_err (He.ga K "BadChoice") "index") [] (tCons (tFld K (tVar 0) "ticks") tNil) [some (.ref p), some (.ref a), v2, v3, v4] J E
    exact raise_err (.int t) ((b0 (List.find?_eq_none.mpr fun z hz => by rw [no z hz]; decide)).same s1) (fun R r => ⟨_, rfl, p, _, dx, _, _, rfl, F1.at_, T.cl_Profile, T.na_Profile_ticks, lf_ticks _ _ _ _ _ _ _, r⟩)
/-- the choices made -/
def spPath (K : S.Frag) : Sp := Sp1 fun x H Q _ => ∃ (p : Addr) (rows : List Rw) (s : Str) (m : Sm) (f : Int) (st : Option St5) (t : Int) (hs : List Cho), x = .ref p ∧ PfA K H p rows s m f st t hs ∧ hs.length ≤ 2100 ∧
  ∀ (L : Addr) (cs : List (Addr × Cho)) (H' : Hp), H L = none → Same H H' → H' L = some (.lst (cs.map fun z => .ref z.1)) → (∀ z ∈ cs, ChA H' z.1 z.2) → cs.map Prod.snd = hs → Q (.ref L) H'
theorem ok_Profile_path (T : Txt K mg) : FnOk P w K mg base (L2.CX P w) 1 (He.fAd K ("Profile", some "path")) (S.fdA K ("Profile", some "path")) ["self"] (spPath K) := by
  refine FunD.ok T.F_Profile_path sc_Profile_path (fun vs H Q E h => S.splen1 h) (fun cdv A outer s H vs Q E hr h => ?_)
  have hu := hu_of hr
  refine ⟨_, (pss_one (ps_ret (pe_callTy (S.listOfK (K := K) rfl) rfl T.n_list S.boot_list (pa_cons (S.pe_fldK (K := K) rfl (pv 0) rfl) pa_nil)))), ?_⟩
  obtain ⟨_, rfl, p, rows, s, m, f, st, t, hs, rfl, hp, lh, q⟩ := h
  obtain ⟨dx, pg, sm, sv, hi, cs, F, ecs⟩ := id hp
  refine ⟨_, rfl, p, _, dx, _, _, rfl, F.at_, T.cl_Profile, T.na_Profile_history, lf_history _ _ _ _ _ _ _, hi, _, rfl, .inr (.inl (.inl F.hi)), fun L hL => ?_⟩
  exact q L cs _ hL (Same.new hL) upd_same (fun z hz => Same.new hL _ _ (F.cs z hz)) ecs
end
end W

namespace W
open PySem PySem.Spec PyProof.Rows L2
section
variable {P : Program} {w : World} {K : S.Frag} {mg : Str → Option Value} {base : Heap}
open S
/-! the record of a profile -/
/-- the name of the tick, then the record -/
def seeH (l : Vw) (z : Str × Rc) (c : Cho) : Str × Rc := (c.1.getD z.1, seeR z.2 (c.1.getD z.1) (plV l (c.1.getD z.1)).t c.2)
def recH (l : Vw) (hs : List Cho) : Str × Rc := hs.foldl (seeH l) ("", R0)
theorem recH_snoc (l : Vw) (hs : List Cho) (c : Cho) : recH l (hs ++ [c]) = seeH l (recH l hs) c := by
  unfold recH
  rw [List.foldl_append]
  rfl
/-- the first choice goes somewhere, and all go to places -/
def okH (l : Vw) (hs : List Cho) : Prop := (∀ c, hs[0]? = some c → c.1 ≠ none) ∧ ∀ c ∈ hs, ∀ n, c.1 = some n → n ∈ l.map fun z => z.1.n
theorem recH_n {l : Vw} {hs : List Cho} (h : okH l hs) : ∀ k, 0 < k → k ≤ hs.length → (recH l (hs.take k)).1 ∈ l.map fun z => z.1.n := by
  intro k
  induction k with
  | zero => intro h0; omega
  | succ k ih =>
    intro _ hk
    have e := List.getElem?_eq_getElem (show k < hs.length by omega)
    rw [List.take_add_one, e]
    show (recH l (hs.take k ++ [hs[k]])).1 ∈ _
    rw [recH_snoc]
    show (hs[k]).1.getD (recH l (hs.take k)).1 ∈ _
    cases c : (hs[k]).1 with
    | some n => exact h.2 _ (List.mem_of_getElem? e) n c
    | none =>
      cases k with
      | zero => exact absurd c (h.1 _ e)
      | succ k => exact ih (by omega) (by omega)
def spPRec (K : S.Frag) : Sp := Sp1 fun x H Q _ => ∃ (p : Addr) (rows : List Rw) (s : Str) (m : Sm) (f : Int) (st : Option St5) (t : Int) (hs : List Cho), x = .ref p ∧ PfA K H p rows s m f st t hs ∧ okRows rows ∧ okH (vw rows) hs ∧ hs.length ≤ 2000 ∧
  ∀ (b dx D N : Addr) (vs : List (Addr × (Int × Str))) (H' : Hp), H b = none → H N = none → Same H H' → RcF K H' b dx D N vs (rNames rows) (recH (vw rows) hs).2 → vs.length ≤ 2000 → Q (.ref b) H'
theorem ok_Profile_record (T : Txt K mg) : FnOk P w K mg base (L2.CX P w) 5 (He.fAd K ("Profile", some "record")) (S.fdA K ("Profile", some "record")) ["self"] (spPRec K) := by
  have G_Record___init__ := ok_Record___init__ (P := P) (w := w) (base := base) T
  have G_Record_see := ok_Record_see (P := P) (w := w) (base := base) T
  have G_Program___getitem__ := ok_Program___getitem__ (P := P) (w := w) (base := base) T
  refine FunD.ok T.F_Profile_record sc_Profile_record (fun vs H Q E h => S.splen1 h) (fun cdv A outer s H vs Q E hr h => ?_)
  have hu := hu_of hr
  refine ⟨_, (pss_cons (ps_set (i := 1) sc_Profile_record.nd rfl (by first | exact Or.inl rfl | exact Or.inr rfl) (S.pe_mkS T.mk_Record G_Record___init__ (hr.mono (by decide)) rfl T.g_Record (kb_Record___init___2 T) S.pas0 (pa_cons (S.pe_fldK (K := K) rfl (S.pe_fldK (K := K) rfl (pv 0) rfl) rfl) pa_nil) pk_nil rfl rfl))
      (pss_cons (ps_set (i := 2) sc_Profile_record.nd rfl (by first | exact Or.inl rfl | exact Or.inr rfl) pe_non)
      (pss_cons (ps_for (S.own_of rfl) rfl (S.pi_tupK (K := K) rfl (S.pe_fldK (K := K) rfl (pv 0) rfl)) (pg_tup rfl (pgs_cons (pg_name (i := 3) sc_Profile_record.nd rfl (by first | exact Or.inl rfl | exact Or.inr rfl)) (pgs_cons (pg_name (i := 4) sc_Profile_record.nd rfl (by first | exact Or.inl rfl | exact Or.inr rfl)) pgs_nil)))
        (S.pss_cut (ps_if (pt_cmpR op_notN (pv 3) pe_non (nomark _)) (pss_one (ps_set (i := 2) sc_Profile_record.nd rfl (by first | exact Or.inl rfl | exact Or.inr rfl) (pv 3))) pss_nil)
      (pss_one (ps_expr (S.pe_mtS (pv 1) T.cl_Record T.me_Record_see G_Record_see (hr.mono (by decide)) (kb_Record_see_4 T) S.pas0 (pa_cons (pv 2) (pa_cons (S.pe_fldK (K := K) rfl (S.pe_ixO (C := He.ga K "Program") T.me_Program___getitem__.1 T.fn_Program___getitem__ T.me_Program___getitem__.2 (S.raw_of G_Program___getitem__ (kb_Program___getitem___2 T)) (hr.mono (by decide)) (S.pasE (takes_of rfl rfl rfl rfl)) (S.pe_fldK (K := K) rfl (pv 0) rfl) (pv 2)) rfl) (pa_cons (pv 4) pa_nil))) pk_nil rfl rfl)))))
      (pss_one (ps_ret (pv 1)))))), ?_⟩
  obtain ⟨_, rfl, p, rows, s, m, f, st, t, hs, rfl, hp, ok, oh, lh, q⟩ := h
  obtain ⟨dx, pg, sm, sv, hi, cs, F, ecs⟩ := id hp
  obtain ⟨dg, lg, ug, kg, G⟩ := id F.pg
  have lnm : (rNames rows).length ≤ 6 := by unfold rNames; rw [List.length_map]; exact ok.l6
  have lcs : cs.length = hs.length := by rw [← ecs, List.length_map]
  refine ⟨_, rfl, p, _, dx, _, _, rfl, F.at_, T.cl_Profile, T.na_Profile_program, lf_program _ _ _ _ _ _ _, pg, _, dg, _, _, rfl, G.at_, T.cl_Program, T.na_Program_names, lg_names _ _ _ _, rfl, rfl, fun b db nb ndb ne => ?_⟩
  have s1 : Same H (upd (upd H db (.own b)) b (.ins (He.ga K "Record") db [])) := (Same.new ndb).trans (Same.new (by rw [upd_ne ne.symm]; exact nb))
  refine ⟨_, _, rfl, b, db, ug, rNames rows, rfl, upd_same, rfl, s1 _ _ G.nm, ok.nd, lnm, fun H2 D N kp hD hN rc => ⟨rfl, ?_⟩⟩
  have s2 : Same H H2 := fun x o h => kp x o (ne_of_none h nb) (s1 x o h)
  have fD := s1.free hD
  have fN := s1.free hN
  have F2 := F.same s2
  refine ⟨_, rfl, p, _, dx, _, _, rfl, F2.at_, T.cl_Profile, T.na_Profile_history, lf_history _ _ _ _ _ _ _, hi, rfl, ⟨_, .inl (.inl F2.hi)⟩, for_tup (xs := cs.map fun z => V.ref z.1) (fun i σ J => Same H J ∧ ∃ (vs : List (Addr × (Int × Str))) (v2 : V) (v3 v4 : Option V), RcF K J b db D N vs (rNames rows) (recH (vw rows) (hs.take i)).2 ∧ vs.length ≤ i ∧ ((i = 0 ∧ v2 = .non) ∨ (0 < i ∧ v2 = .str (recH (vw rows) (hs.take i)).1)) ∧ σ = [some (.ref p), some (.ref b), some v2, v3, v4]) ⟨s2, [], .non, _, _, rc, Nat.le_refl _, .inl ⟨rfl, rfl⟩, rfl⟩ (fun i σ J _ h => .inl (.inl (h.1 _ _ F.hi))) ?_ ?_⟩
  · rintro i x σ J hx ⟨sJ, vs, v2, v3, v4, rcJ, lvs, hv2, rfl⟩
    rw [List.getElem?_map] at hx
    obtain ⟨z, hz, rfl⟩ := Option.map_eq_some_iff.mp hx
    have hil := (List.getElem?_eq_some_iff.mp hz).1
    have hz2 : hs[i]? = some z.2 := by rw [← ecs, List.getElem?_map, hz]; rfl
    have et : hs.take (i + 1) = hs.take i ++ [z.2] := by rw [List.take_add_one, hz2]; rfl
    have tz : J z.1 = some (.tup [mvV z.2.1, .bl z.2.2]) := sJ _ _ (F.cs z (List.mem_of_getElem? hz))
    have hn := recH_n oh (i + 1) (by omega) (by omega)
    have e1 : recH (vw rows) (hs.take (i + 1)) = seeH (vw rows) (recH (vw rows) (hs.take i)) z.2 := by rw [et, recH_snoc]
    rw [vw_nm] at hn
    obtain ⟨r, hr', er⟩ := List.mem_map.mp hn
    have pl : plV (vw rows) (recH (vw rows) (hs.take (i + 1))).1 = r.d := by rw [← er]; exact plV_at ok.nd hr'
    refine ⟨z.1, _, rfl, .inl (.inl tz), rfl, _, _, rfl, _, _, rfl, rfl, ?_⟩
    refine ⟨fun τ J2 => J2 = J ∧ τ = [some (.ref p), some (.ref b), some (.str (recH (vw rows) (hs.take (i + 1))).1), some (mvV z.2.1), some (.bl z.2.2)], ?_, ?_⟩
    · refine ⟨_, rfl, rfl, _, rfl, ?_⟩
      have en : (recH (vw rows) (hs.take (i + 1))).1 = z.2.1.getD (recH (vw rows) (hs.take i)).1 := by rw [e1]; rfl
      rw [en]
      cases c : z.2.1 with
      | some n => exact iteY (by simp [mvV]) ⟨_, rfl, rfl, rfl⟩
      | none =>
        refine iteN (by simp [mvV]) ⟨rfl, ?_⟩
        rcases hv2 with ⟨h0, _⟩ | ⟨_, h1⟩
        · subst h0
          exact absurd c (oh.1 _ hz2)
        · rw [h1]
          rfl
    rintro τ J2 ⟨rfl, rfl⟩
    have FJ := F.same sJ
    have GJ := G.same sJ
    obtain ⟨dr, er2⟩ := (GJ.rw_ r hr').1
    have e2 : (recH (vw rows) (hs.take (i + 1))).2 = seeR (recH (vw rows) (hs.take i)).2 (recH (vw rows) (hs.take (i + 1))).1 r.d.t z.2.2 := by
      rw [← pl, e1]
      rfl
    rw [e2]
    refine ⟨_, rfl, b, db, _, rfl, rcJ.at_, see_none _ _ _ _ _, _, rfl, _, rfl, p, _, dx, _, _, rfl, FJ.at_, T.cl_Profile, T.na_Profile_program, lf_program _ _ _ _ _ _ _, _, rfl, pg, dg, _, rfl, GJ.at_, _, _, rfl, pg, rows, s, r, rfl, FJ.pg, by rw [er], hr', ok.nd, r.a, _, dr, _, _, rfl, er2, T.cl_Place, T.na_Place_let, lk_let _ _ _ _, _, rfl, ?_⟩
    refine ⟨rfl, rfl, _, _, _, _, rfl, b, db, D, N, vs, rNames rows, _, _, r.d.t, z.2.2, rfl, rcJ, rfl, hn, ok.nd, lnm, rfl, rfl, by omega, fun H' v vs' kp' lv' rc' => ⟨fun x o h => kp' x o (ne_of_none h nb) (ne_of_none h fD) (ne_of_none h fN) (sJ x o h), vs', _, _, _, rc', by omega, .inr ⟨by omega, rfl⟩, rfl⟩⟩
  · rintro σ J ⟨sJ, vs, v2, v3, v4, rcJ, lvs, hv2, rfl⟩
    rw [List.length_map] at rcJ lvs
    rw [lcs, List.take_length] at rcJ
    exact ⟨_, rfl, q b db D N vs J nb fN sJ rcJ (by omega)⟩
end
end W

namespace W
open PySem PySem.Spec PyProof.Rows L2
section
variable {P : Program} {w : World} {K : S.Frag} {mg : Str → Option Value} {base : Heap}
open S
/-! observe: right stays (long, too), a phase and looks of any kind -/
/-- looks that fit, as looks -/
def lkO : V → Option Int
  | .int i => some i
  | _ => none
theorem fit_lk {v : V} {lo hi j : Int} (h : fitV v lo hi j = true) : lkV (lkO v) = v := by
  unfold fitV at h
  split at h
  · rw [of_decide_eq_true h]; rfl
  · split at h
    · rename_i e; rw [e]; rfl
    · split at h
      · obtain ⟨i, rfl, _⟩ := inR_int h; rfl
      · obtain ⟨i, rfl, _⟩ := inR_int h; rfl
theorem lookBad_none {m : Sm} {f t : Int} {u : Option (List V)} (h : lookBad m f t u = none) : ∃ xs, u = some xs ∧ (xs.length : Int) = (f + t - 1) / m.p + 1 ∧ (∀ i v, xs[i]? = some v → fitV v (lowOf f i) (hiOf m f t i) m.j = true) ∧ xs = (xs.map lkO).map lkV := by
  cases u with
  | none => cases h
  | some xs =>
    by_cases c : (xs.length : Int) = (f + t - 1) / m.p + 1
    · simp only [lookBad, if_pos c] at h
      have h : (List.range xs.length).find? (lkBad m f t xs) = none := by
        cases e : (List.range xs.length).find? (lkBad m f t xs) with
        | none => rfl
        | some a => rw [e] at h; cases h
      have all : ∀ i v, xs[i]? = some v → fitV v (lowOf f i) (hiOf m f t i) m.j = true := fun i v hv => by
        have hi := (List.getElem?_eq_some_iff.mp hv).1
        have := List.find?_eq_none.mp h i (List.mem_range.mpr hi)
        unfold lkBad at this
        rw [hv] at this
        simpa using this
      refine ⟨xs, rfl, c, all, ?_⟩
      rw [List.map_map]
      refine List.ext_getElem? fun i => ?_
      rw [List.getElem?_map]
      cases e : xs[i]? with
      | none => rfl
      | some v => exact congrArg some (fit_lk (all i v e)).symm
    · simp only [lookBad, if_neg c] at h
      cases h
def spObsL (K : S.Frag) : Sp := Sp5 fun x y u v z H Q E => ∃ (p a L : Addr) (rows : List Rw) (s : Str) (m : Sm) (ws : List (Addr × Sy)) (xl : Option (List V)), x = .ref p ∧ PgAt K H p rows s ∧ okRows rows ∧ y = .ref a ∧ SmA K H a m ∧ okSm m ∧ Od H z ∧ u = .ref L ∧ SysA H L ws ∧ LsV H v xl ∧
  0 < ws.length ∧ ws.length ≤ 3000 ∧ okSy (vw rows) s (ws.map Prod.snd) ∧ (∀ y ∈ ws.map Prod.snd, 0 ≤ y.2) ∧
  (phFit m z = false → badAt K "BadPhase" "phase" z H E) ∧
  (phFit m z = true → ∀ i, lookBad m (phOf m z) (ticksOf (ws.map Prod.snd)) xl = some i → badAt K "BadLook" "index" (.int i) H E) ∧
  (phFit m z = true → lookBad m (phOf m z) (ticksOf (ws.map Prod.snd)) xl = none → 2000 < ticksOf (ws.map Prod.snd) → ∀ H', Same H H' → E (.ref (He.ga K "NoTicks")) none H') ∧
  (∀ ls : List (Option Int), phFit m z = true → lookBad m (phOf m z) (ticksOf (ws.map Prod.snd)) xl = none → xl = some (ls.map lkV) → ticksOf (ws.map Prod.snd) ≤ 2000 → ∀ H' b dx D N vs, Same H H' → RcF K H' b dx D N vs (rNames rows) (playR (vw rows) m.p (phOf m z) ls (ws.map Prod.snd)) → Q (.ref b) H')
theorem ok_observe (T : Txt K mg) : FnOk P w K mg base (L2.CX P w) 7 (He.fAd K ("observe", none)) (S.fdA K ("observe", none)) ["program", "sampler", "stays", "looks", "phase"] (spObsL K) := by
  have G_BadStay___init__ := ok_BadStay___init__ (P := P) (w := w) (base := base) T
  have G_bad_stay := ok_bad_stay (P := P) (w := w) (base := base) T
  have G_phase_of := ok_phase_of (P := P) (w := w) (base := base) T
  have G_bad_look := ok_bad_look (P := P) (w := w) (base := base) T
  have G_BadLook___init__ := ok_BadLook___init__ (P := P) (w := w) (base := base) T
  have G_play := ok_play (P := P) (w := w) (base := base) T
  refine FunD.ok T.F_observe sc_observe (fun vs H Q E h => S.splen5 h) (fun cdv A outer s H vs Q E hr h => ?_)
  have hu := hu_of hr
  refine ⟨_, (pss_cons (ps_if (PW.pt (pw_or (pt_not (pt_val (pe_callB (S.isiK (K := K) rfl) rfl T.n_isinstance S.boot_isinstance (pa_cons (pv 2) (pa_cons (pe_bltn (v := .ty "list") rfl T.n_list S.boot_list rfl) pa_nil))))) (pw_or1 (pt_cmpR op_eq (pe_callB (S.lenK (K := K) rfl) rfl T.n_len S.boot_len (pa_cons (pv 2) pa_nil)) pe_int (nomark _))))) (pss_one (S.ps_raiseO rfl (takes_of rfl rfl rfl rfl) T.ox_BadStay T.xi_BadStay T.xt_BadStay G_BadStay___init__ (hr.mono (by decide)) (kb_BadStay___init___2 T) rfl T.g_BadStay (pa_cons (pe_un un_neg pe_int) pa_nil))) pss_nil)
      (pss_cons (ps_set (i := 5) sc_observe.nd rfl (by first | exact Or.inl rfl | exact Or.inr rfl) (S.pe_fnS G_bad_stay (hr.mono (by decide)) rfl T.g_bad_stay T.F_bad_stay.kp (kb_bad_stay_2 T) S.pas0 (pa_cons (pv 0) (pa_cons (pv 2) pa_nil)) pk_nil rfl rfl))
      (pss_cons (ps_if (pt_cmpR op_notN (pv 5) pe_non (nomark _)) (pss_one (S.ps_raiseO rfl (takes_of rfl rfl rfl rfl) T.ox_BadStay T.xi_BadStay T.xt_BadStay G_BadStay___init__ (hr.mono (by decide)) (kb_BadStay___init___2 T) rfl T.g_BadStay (pa_cons (pv 5) pa_nil))) pss_nil)
      (pss_cons (ps_set (i := 6) sc_observe.nd rfl (by first | exact Or.inl rfl | exact Or.inr rfl) (S.pe_fnS G_phase_of (hr.mono (by decide)) rfl T.g_phase_of T.F_phase_of.kp (kb_phase_of_2 T) (S.pasE (takes_of rfl rfl rfl rfl)) (pa_cons (pv 1) (pa_cons (pv 4) pa_nil)) pk_nil rfl rfl))
      (pss_cons (ps_set (i := 7) sc_observe.nd rfl (by first | exact Or.inl rfl | exact Or.inr rfl) (pe_callB (S.sumK (K := K) rfl rfl) rfl T.n_sum S.boot_sum (pa_cons (pe_lc (own := [("stay", 8)]) (g := gName 8) (tt := tYes) rfl sc_observe.nd (S.pi_seqK (K := K) rfl (pv 2)) (blkOk_by (N := ["program", "sampler", "stays", "looks", "phase", "wrong", "first", "ticks", "stay"]) (sc := defScope s_observe) (by decide +kernel)) (fun _ _ _ _ _ => (pg_name (i := 8) sc_observe.nd rfl (by first | exact Or.inl rfl | exact Or.inr rfl))) (fun _ _ _ _ _ => pts_nil) (fun _ _ _ _ _ => (pe_ix (S.ixK (K := K) rfl) (pv 8) pe_int (fun _ _ => rfl)))) pa_nil)))
      (pss_cons (ps_set (i := 5) sc_observe.nd rfl (by first | exact Or.inl rfl | exact Or.inr rfl) (S.pe_fnS G_bad_look (hr.mono (by decide)) rfl T.g_bad_look T.F_bad_look.kp (kb_bad_look_4 T) S.pas0 (pa_cons (pv 1) (pa_cons (pv 6) (pa_cons (pv 7) (pa_cons (pv 3) pa_nil)))) pk_nil rfl rfl))
      (pss_cons (ps_if (pt_cmpR op_notN (pv 5) pe_non (nomark _)) (pss_one (S.ps_raiseO rfl (takes_of rfl rfl rfl rfl) T.ox_BadLook T.xi_BadLook T.xt_BadLook G_BadLook___init__ (hr.mono (by decide)) (kb_BadLook___init___2 T) rfl T.g_BadLook (pa_cons (pv 5) pa_nil))) pss_nil)
      (pss_cons (ps_if (pt_cmpR op_gt (pv 7) (S.pe_globI rfl T.c_MOST_RUN) (nomark _)) (pss_one (S.ps_raiseP rfl (takes_of rfl rfl rfl rfl) T.op_NoTicks rfl T.g_NoTicks)) pss_nil)
      (pss_one (ps_ret (S.pe_fnS G_play (hr.mono (by decide)) rfl T.g_play T.F_play.kp (kb_play_5 T) S.pas0 (pa_cons (pv 0) (pa_cons (pv 1) (pa_cons (pv 6) (pa_cons (pv 2) (pa_cons (pv 3) pa_nil))))) pk_nil rfl rfl))))))))))), ?_⟩
  obtain ⟨_, _, _, v, z, rfl, p, a, L, rows, st, m, ws, xl, rfl, hp, ok, rfl, hm, okm, oz, rfl, hw, hv, w0, w1, oy, hy, b1, b2, b3, q⟩ := h
  have w1x : ws.length ≤ 4000 := by omega
  have lw : (ws.map fun z => V.ref z.1).length = ws.length := List.length_map _
  refine ⟨_, rfl, _, _, _, _, true, rfl, .ty _, .base (.lst hw.1), kit_ty (by decide +kernel), _, rfl, iteF ?_⟩
  refine ⟨_, rfl, _, _, rfl, lenVX (.inl (.inl (.inl hw.1))), rfl, _, rfl, iteN ?_ ?_⟩
  · rw [lw]
    have hne : ¬ (V.int (ws.length : Int) = V.int 0) := fun e => by
      injection e with e
      omega
    simpa using hne
  refine ⟨_, rfl, _, rfl, rfl, rfl, _, _, rfl, p, L, rows, st, ws, rfl, hp, ok, rfl, hw, oy, fun J s1 => ?_⟩
  refine ⟨_, rfl, rfl, _, rfl, iteN (by simp) ?_⟩
  refine ⟨_, rfl, _, rfl, rfl, rfl, _, _, rfl, a, m, rfl, hm.same s1, oz.mono s1, fun c1 => ?_, fun c1 => (b1 c1).same s1⟩
  have q := fun ls => q ls c1
  have b2 := b2 c1
  have b3 := b3 c1
  obtain ⟨f0, f1⟩ := phFit_of okm c1
  generalize phOf m z = f at *
  refine ⟨_, rfl, L, _, rfl, .inl (.inl (.inl (s1 _ _ hw.1))), fun It wk D hD => lc_mapC (as := ws) (v := fun z => .ref z.1) wk (fun z => .int z.2.2) hD w1x (fun x => rfl) (fun z J2 Z hz' sz k => ?_) fun J2 s2 eD => ?_⟩
  · exact ⟨_, rfl, ixT (sz _ _ (s1 _ _ (hw.2 z hz'))) rfl (k J2 fun _ _ h => h)⟩
  have s12 := s1.trans s2
  have esum : (ws.map fun z => z.2.2).sum = ticksOf (ws.map Prod.snd) := by
    unfold ticksOf
    rw [List.map_map]
    rfl
  refine ⟨D, ws.map fun z => z.2.2, rfl, .inl (.inl (by rw [List.map_map]; exact eD)), ?_⟩
  rw [esum]
  generalize hT : ticksOf (ws.map Prod.snd) = tt at *
  refine ⟨_, rfl, _, rfl, _, rfl, _, rfl, rfl, rfl, _, _, _, _, rfl, a, m, f, tt, xl, rfl, hm.same s12, okm, rfl, rfl, hv.same s12, fun J3 s3 => ?_⟩
  have s13 := s12.trans s3
  refine ⟨_, rfl, rfl, _, rfl, ?_⟩
  cases cb : lookBad m f tt xl with
  | some i => exact iteY (by simp [ixV]) (raise_err (.int i) ((b2 i cb).same s13) (fun R r => ⟨_, rfl, r⟩))
  | none =>
  refine iteN (by simp [ixV]) ?_
  obtain ⟨xs, rfl, hl, hf, exs⟩ := lookBad_none cb
  obtain ⟨O, rfl, hO, _, _⟩ := hv
  rw [exs] at hO
  generalize hls : xs.map lkO = ls at hO
  have ll : ls.length = xs.length := by rw [← hls, List.length_map]
  refine ⟨_, rfl, _, _, rfl, rfl, _, rfl, ?_⟩
  by_cases ht : tt ≤ 2000
  · refine iteN (by simpa using ht) ?_
    refine ⟨_, rfl, _, rfl, _, rfl, _, rfl, _, rfl, rfl, rfl, _, _, _, _, _, rfl, p, a, L, O, rows, st, m, f, ws, ls, rfl, hp.same s13, ok, rfl, hm.same s13, okm, rfl, f0, rfl, hw.same s13, rfl, s13 _ _ hO, fun y h => ⟨hy y h, ?_⟩, by rw [hT]; exact ht, fun t t0 t1 => ?_, fun H' b dx D N vs s4 rc => q ls cb (by rw [exs, hls]) ht H' b dx D N vs (s13.trans s4) rc⟩
    · have := oy.names y h
      rw [vw_nm] at this
      exact this
    · rw [hT] at t1
      have := Int.ediv_le_ediv (show 0 < m.p by have := okm.p1; omega) (show f + t ≤ f + tt - 1 by omega)
      omega
  · refine iteY (by simp; omega) ?_
    exact b3 cb (by omega) J3 s13
end
end W

namespace W
open PySem PySem.Spec PyProof.Rows L2
section
variable {P : Program} {w : World} {K : S.Frag} {mg : Str → Option Value} {base : Heap}
open S
/-! a profile behind 2000 ticks -/
def spOptsT (K : S.Frag) : Sp := Sp1 fun x H Q _ => ∃ (p : Addr) (rows : List Rw) (s : Str) (m : Sm) (f : Int) (st : Option St5) (t : Int) (hs : List Cho), x = .ref p ∧ PfA K H p rows s m f st t hs ∧ t = 2000 ∧ ∀ L, H L = none → Q (.ref L) (upd H L (.lst []))
theorem ok_Profile_options_T (T : Txt K mg) : FnOk P w K mg base (L2.CX P w) 5 (He.fAd K ("Profile", some "options")) (S.fdA K ("Profile", some "options")) ["self"] (spOptsT K) := by
  have G_Program___getitem__ := ok_Program___getitem__ (P := P) (w := w) (base := base) T
  have G_Program_nexts := ok_Program_nexts (P := P) (w := w) (base := base) T
  refine FunD.ok T.F_Profile_options sc_Profile_options (fun vs H Q E h => S.splen1 h) (fun cdv A outer s H vs Q E hr h => ?_)
  have hu := hu_of hr
  refine ⟨_, (pss_cons (ps_if (pt_cmpR op_eq (S.pe_fldK (K := K) rfl (pv 0) rfl) (S.pe_globI rfl T.c_MOST_RUN) (nomark _)) (pss_one (ps_ret (pe_lst pa_nil))) pss_nil)
      (pss_cons (ps_if (pt_cmpR op_isN (S.pe_fldK (K := K) rfl (pv 0) rfl) pe_non (nomark _)) (pss_one (ps_ret (pe_lst (pa_cons (pe_tup (pa_cons (S.pe_fldK (K := K) rfl (S.pe_fldK (K := K) rfl (pv 0) rfl) rfl) (pa_cons (S.pe_fldK (K := K) rfl (S.pe_fldK (K := K) rfl (pv 0) rfl) rfl) (pa_cons pe_int pa_nil)))) pa_nil)))) pss_nil)
      (pss_cons (ps_par (i := 1) (j := 2) rfl sc_Profile_options.nd rfl rfl (by decide) rfl rfl (pa_cons (pe_ix (S.ixK (K := K) rfl) (S.pe_fldK (K := K) rfl (pv 0) rfl) pe_int (fun _ _ => rfl)) (pa_cons (pe_ix (S.ixK (K := K) rfl) (S.pe_fldK (K := K) rfl (pv 0) rfl) pe_int (fun _ _ => rfl)) pa_nil)) rfl)
      (pss_cons (ps_set (i := 3) sc_Profile_options.nd rfl (by first | exact Or.inl rfl | exact Or.inr rfl) (pe_lst pa_nil))
      (S.pss_cut (ps_if (pt_cmpR op_lt (pv 2) (S.pe_fldK (K := K) rfl (S.pe_ixO (C := He.ga K "Program") T.me_Program___getitem__.1 T.fn_Program___getitem__ T.me_Program___getitem__.2 (S.raw_of G_Program___getitem__ (kb_Program___getitem___2 T)) (hr.mono (by decide)) (S.pasE (takes_of rfl rfl rfl rfl)) (S.pe_fldK (K := K) rfl (pv 0) rfl) (pv 1)) rfl) (nomark _)) (pss_one (ps_expr (pe_bm PySem.F.plainAttrs_list PySem.F.slot_list_append PySem.F.type_list_append mt_append (pv 3) (pa_cons (pe_tup (pa_cons pe_non (pa_cons (pv 1) (pa_cons (pe_op op_add (pv 2) pe_int) pa_nil)))) pa_nil)))) pss_nil)
      (S.pss_cut (ps_if (pt_cmpR op_ge (pv 2) (S.pe_fldK (K := K) rfl (S.pe_ixO (C := He.ga K "Program") T.me_Program___getitem__.1 T.fn_Program___getitem__ T.me_Program___getitem__.2 (S.raw_of G_Program___getitem__ (kb_Program___getitem___2 T)) (hr.mono (by decide)) (S.pasE (takes_of rfl rfl rfl rfl)) (S.pe_fldK (K := K) rfl (pv 0) rfl) (pv 1)) rfl) (nomark _)) (pss_cons (ps_set (i := 4) sc_Profile_options.nd rfl (by first | exact Or.inl rfl | exact Or.inr rfl) (pe_dget hu (pe_prop (S.pe_fldK (K := K) rfl (pv 0) rfl) T.cl_Program T.pr_Program_nexts G_Program_nexts (hr.mono (by decide)) (T.F_Program_nexts.bindsN fun _ _ _ _ _ _ us hl => match us, hl with | [_], _ => rfl) .nil passL rfl) (pv 1) (fun _ _ => rfl)))
      (pss_one (ps_expr (pe_bm PySem.F.plainAttrs_list PySem.F.slot_list_extend PySem.F.type_list_extend mt_extend (pv 3) (pa_cons (pe_lc (own := [("other", 5)]) (g := gName 5) rfl sc_Profile_options.nd (S.pi_seqK (K := K) rfl (S.pe_fldK (K := K) rfl (S.pe_fldK (K := K) rfl (pv 0) rfl) rfl)) (blkOk_by (N := ["self", "name", "spent", "rows", "links", "other"]) (sc := defScope s_Profile_options) (by decide +kernel)) (fun _ _ _ _ _ => (pg_name (i := 5) sc_Profile_options.nd rfl (by first | exact Or.inl rfl | exact Or.inr rfl))) (fun _ _ _ _ _ => pts_one (pt_cmpR (S.inGK (K := K) rfl (S.hu64 hr)) (pv 5) (pv 4) rfl)) (fun _ _ _ _ _ => (pe_tup (pa_cons (pv 5) (pa_cons (pv 5) (pa_cons pe_int pa_nil)))))) pa_nil))))) pss_nil)
      (pss_one (ps_ret (pv 3))))))))), ?_⟩
  obtain ⟨_, rfl, p, rows, s, m, f, st, t, hs, rfl, hp, ht, q⟩ := h
  obtain ⟨dx, pg, sm, sv, hi, cs, F, _⟩ := id hp
  exact ⟨_, rfl, p, _, dx, _, _, rfl, F.at_, T.cl_Profile, T.na_Profile_ticks, lf_ticks _ _ _ _ _ _ _, rfl, _, rfl, iteY (by simp [ht]) ⟨by show 0 ≤ sizeLine; decide, fun L hL => q L hL⟩⟩
def spMovesT (K : S.Frag) : Sp := Sp1 fun x H Q _ => ∃ (p : Addr) (rows : List Rw) (s : Str) (m : Sm) (f : Int) (st : Option St5) (t : Int) (hs : List Cho), x = .ref p ∧ PfA K H p rows s m f st t hs ∧ okSm m ∧ t = 2000 ∧ ∀ L H', Same H H' → H' L = some (.lst []) → Q (.ref L) H'
theorem ok_Profile_moves_T (T : Txt K mg) : FnOk P w K mg base (L2.CX P w) 6 (He.fAd K ("Profile", some "moves")) (S.fdA K ("Profile", some "moves")) ["self"] (spMovesT K) := by
  have G_Profile_options := ok_Profile_options_T (P := P) (w := w) (base := base) T
  have G_settle := ok_settle (P := P) (w := w) (base := base) T
  have G_Program___getitem__ := ok_Program___getitem__ (P := P) (w := w) (base := base) T
  refine FunD.ok T.F_Profile_moves sc_Profile_moves (fun vs H Q E h => S.splen1 h) (fun cdv A outer s H vs Q E hr h => ?_)
  have hu := hu_of hr
  refine ⟨_, (pss_cons (ps_set (i := 1) sc_Profile_moves.nd rfl (by first | exact Or.inl rfl | exact Or.inr rfl) (pe_op op_mod (pe_op op_add (S.pe_fldK (K := K) rfl (pv 0) rfl) (S.pe_fldK (K := K) rfl (pv 0) rfl)) (S.pe_fldK (K := K) rfl (S.pe_fldK (K := K) rfl (pv 0) rfl) rfl)))
      (S.pss_cut (ps_set (i := 2) sc_Profile_moves.nd rfl (by first | exact Or.inl rfl | exact Or.inr rfl) (pe_and (pe_cmpR op_notN (S.pe_fldK (K := K) rfl (pv 0) rfl) pe_non (nomark _)) (pe_and (pe_cmpR op_gt (pv 1) pe_int (nomark _)) (pe_one (pe_ix (S.ixK (K := K) rfl) (S.pe_fldK (K := K) rfl (pv 0) rfl) pe_int (fun _ _ => rfl))))))
      (S.pss_cut (ps_if (pt_cmpR op_isN (S.pe_fldK (K := K) rfl (pv 0) rfl) pe_non (nomark _)) (pss_one (ps_set (i := 2) sc_Profile_moves.nd rfl (by first | exact Or.inl rfl | exact Or.inr rfl) (pe_cmpR op_gt (pv 1) (S.pe_fldK (K := K) rfl (S.pe_fldK (K := K) rfl (pv 0) rfl) rfl) (nomark _)))) pss_nil)
      (S.pss_cut (ps_set (i := 3) sc_Profile_moves.nd rfl (by first | exact Or.inl rfl | exact Or.inr rfl) (pe_and (pe_cmpR op_notN (S.pe_fldK (K := K) rfl (pv 0) rfl) pe_non (nomark _)) (pe_one (pe_ix (S.ixK (K := K) rfl) (S.pe_fldK (K := K) rfl (pv 0) rfl) pe_int (fun _ _ => rfl)))))
      (pss_cons (ps_set (i := 4) sc_Profile_moves.nd rfl (by first | exact Or.inl rfl | exact Or.inr rfl) (pe_lst pa_nil))
      (pss_cons (ps_for (S.own_of rfl) rfl (S.pi_listK (K := K) rfl (S.pe_mtS0 (pv 0) T.cl_Profile T.me_Profile_options G_Profile_options (hr.mono (by decide)) (kb_Profile_options_1 T) S.pas0  pk_nil rfl rfl)) (pg_tup rfl (pgs_cons (pg_name (i := 5) sc_Profile_moves.nd rfl (by first | exact Or.inl rfl | exact Or.inr rfl)) (pgs_cons (pg_name (i := 6) sc_Profile_moves.nd rfl (by first | exact Or.inl rfl | exact Or.inr rfl)) (pgs_cons (pg_name (i := 7) sc_Profile_moves.nd rfl (by first | exact Or.inl rfl | exact Or.inr rfl)) pgs_nil))))
        (pss_one (ps_for (S.own_of rfl) rfl (S.pi_listK (K := K) rfl (S.pe_fnS G_settle (hr.mono (by decide)) rfl T.g_settle T.F_settle.kp (kb_settle_6 T) S.pas0 (pa_cons (S.pe_ixO (C := He.ga K "Program") T.me_Program___getitem__.1 T.fn_Program___getitem__ T.me_Program___getitem__.2 (S.raw_of G_Program___getitem__ (kb_Program___getitem___2 T)) (hr.mono (by decide)) (S.pasE (takes_of rfl rfl rfl rfl)) (S.pe_fldK (K := K) rfl (pv 0) rfl) (pv 6)) (pa_cons (S.pe_fldK (K := K) rfl (pv 0) rfl) (pa_cons (pv 7) (pa_cons (pv 1) (pa_cons (pv 2) (pa_cons (pv 3) pa_nil)))))) pk_nil rfl rfl)) (pg_tup rfl (pgs_cons (pg_name (i := 8) sc_Profile_moves.nd rfl (by first | exact Or.inl rfl | exact Or.inr rfl)) (pgs_cons (pg_name (i := 9) sc_Profile_moves.nd rfl (by first | exact Or.inl rfl | exact Or.inr rfl)) pgs_nil)))
        (pss_one (ps_expr (pe_bm PySem.F.plainAttrs_list PySem.F.slot_list_append PySem.F.type_list_append mt_append (pv 4) (pa_cons (pe_tup (pa_cons (pe_tup (pa_cons (pv 5) (pa_cons (pe_and (pe_ix (S.ixK (K := K) rfl) (pv 8) pe_int (fun _ _ => rfl)) (pe_one (pe_not (pv 2)))) pa_nil))) (pa_cons (pv 8) (pa_cons (pv 9) pa_nil)))) pa_nil)))))))
      (pss_one (ps_ret (pv 4))))))))), ?_⟩
  obtain ⟨_, rfl, p, rows, s, m, f, st, t, hs, rfl, hp, okm, ht, q⟩ := h
  obtain ⟨dx, pg, sm, sv, hi, cs, F, _⟩ := id hp
  obtain ⟨dm, em⟩ := F.sm
  obtain ⟨dg, lg, ug, kg, G⟩ := id F.pg
  have p1 := okm.p1
  refine ⟨_, rfl, p, _, dx, _, _, rfl, F.at_, T.cl_Profile, T.na_Profile_phase, lf_phase _ _ _ _ _ _ _, _, rfl, p, _, dx, _, _, rfl, F.at_, T.cl_Profile, T.na_Profile_ticks, lf_ticks _ _ _ _ _ _ _, _, _, rfl, rfl, _, rfl, p, _, dx, _, _, rfl, F.at_, T.cl_Profile, T.na_Profile_sampler, lf_sampler _ _ _ _ _ _ _, sm, _, dm, _, _, rfl, em, T.cl_Sampler, T.na_Sampler_period, lm_period _, _, _, rfl, rfl, by omega, ?_⟩
  show tCut _ _ _ [some (.ref p), some (.int (slF m f t)), none, none, none, none, none, none, none, none] _
  generalize slF m f t = slot at *
  refine ⟨fun τ J => J = H ∧ ∃ v2, (∀ s', st = some s' → v2 = some (.bl (befO m slot st))) ∧ τ = [some (.ref p), some (.int slot), v2, none, none, none, none, none, none, none], ?_, ?_⟩
  · refine ⟨_, rfl, p, _, dx, _, _, rfl, F.at_, T.cl_Profile, T.na_Profile_state, lf_state _ _ _ _ _ _ _, rfl, _, rfl, ?_⟩
    cases st with
    | none =>
      have e : sv = .non := F.st
      exact iteN (by simp [e]) ⟨rfl, _, (fun s' h => by cases h), rfl⟩
    | some s' =>
      obtain ⟨sa, e, hsa⟩ := F.st
      refine iteY (by simp [e]) ⟨_, rfl, _, _, rfl, rfl, _, rfl, ?_⟩
      by_cases c : 0 < slot
      · refine iteY (by simpa using c) ⟨_, rfl, p, _, dx, _, _, rfl, F.at_, T.cl_Profile, T.na_Profile_state, lf_state _ _ _ _ _ _ _, ?_⟩
        subst e
        refine ixT hsa rfl ⟨rfl, _, (fun s2 h => ?_), rfl⟩
        show some _ = some (V.bl (decide (0 < slot) && s'.dn))
        rw [decide_eq_true c, Bool.true_and]
      · refine iteN (by simpa using c) ⟨rfl, _, (fun s2 h => ?_), rfl⟩
        show some _ = some (V.bl (decide (0 < slot) && s'.dn))
        rw [decide_eq_false c, Bool.false_and]
  rintro τ J ⟨rfl, v2, e2, rfl⟩
  refine ⟨fun τ J' => J' = J ∧ τ = [some (.ref p), some (.int slot), some (.bl (befO m slot st)), none, none, none, none, none, none, none], ?_, ?_⟩
  · refine ⟨_, rfl, p, _, dx, _, _, rfl, F.at_, T.cl_Profile, T.na_Profile_state, lf_state _ _ _ _ _ _ _, rfl, _, rfl, ?_⟩
    cases st with
    | none =>
      have e : sv = .non := F.st
      exact iteY (by simp [e]) ⟨_, rfl, _, rfl, p, _, dx, _, _, rfl, F.at_, T.cl_Profile, T.na_Profile_sampler, lf_sampler _ _ _ _ _ _ _, sm, _, dm, _, _, rfl, em, T.cl_Sampler, T.na_Sampler_jitter, lm_jitter _, _, _, rfl, rfl, rfl, rfl⟩
    | some s' =>
      obtain ⟨sa, e, hsa⟩ := F.st
      refine iteN (by simp [e]) ⟨rfl, ?_⟩
      rw [e2 s' rfl]
  rintro τ J' ⟨rfl, rfl⟩
  refine ⟨fun τ J => J = J' ∧ τ = [some (.ref p), some (.int slot), some (.bl (befO m slot st)), some (.bl (waO st)), none, none, none, none, none, none], ?_, ?_⟩
  · refine ⟨_, rfl, p, _, dx, _, _, rfl, F.at_, T.cl_Profile, T.na_Profile_state, lf_state _ _ _ _ _ _ _, rfl, _, rfl, ?_⟩
    cases st with
    | none =>
      have e : sv = .non := F.st
      exact iteN (by simp [e]) ⟨rfl, rfl⟩
    | some s' =>
      obtain ⟨sa, e, hsa⟩ := F.st
      refine iteY (by simp [e]) ⟨_, rfl, p, _, dx, _, _, rfl, F.at_, T.cl_Profile, T.na_Profile_state, lf_state _ _ _ _ _ _ _, ?_⟩
      subst e
      exact ixT hsa rfl ⟨rfl, rfl⟩
  rintro τ J ⟨rfl, rfl⟩
  refine ⟨by decide, fun L hL => ?_⟩
  have s1 := Same.new (o := .lst []) hL
  refine ⟨_, rfl, p, dx, _, rfl, s1 _ _ F.at_, lf_none _ _ _ _ _ _ _ (by decide +kernel), rfl, rfl, _, rfl, p, rows, s, m, f, st, t, hs, rfl, hp.same s1, ht, fun Lo hLo => ?_⟩
  have s2 := Same.new (o := .lst []) hLo
  have eL := s2 _ _ (upd_same (H := J) (a := L) (o := .lst []))
  have eLo := upd_same (H := upd J L (.lst [])) (a := Lo) (o := .lst [])
  generalize upd (upd J L (.lst [])) Lo (.lst []) = J9 at s2 eL eLo
  refine ⟨Lo, rfl, ⟨_, .inl (.inl eLo)⟩, for_list (xs := []) (fun i σ J3 => J3 = J9 ∧ ∃ v5 v6 v7 v8 v9, σ = [some (.ref p), some (.int slot), some (.bl (befO m slot st)), some (.bl (waO st)), some (.ref L), v5, v6, v7, v8, v9]) ⟨rfl, _, _, _, _, _, rfl⟩ (fun i σ J _ h => by rw [h.1]; exact .inl (.inl eLo)) ?_ ?_⟩
  · rintro i x σ J3 hx _
    simp at hx
  · rintro σ J3 ⟨rfl, v5, v6, v7, v8, v9, rfl⟩
    exact ⟨_, rfl, q L J3 (s1.trans s2) eL⟩
def spChsT (K : S.Frag) : Sp := Sp1 fun x H Q _ => ∃ (p : Addr) (rows : List Rw) (s : Str) (m : Sm) (f : Int) (st : Option St5) (t : Int) (hs : List Cho), x = .ref p ∧ PfA K H p rows s m f st t hs ∧ okSm m ∧ t = 2000 ∧ ∀ L H', Same H H' → H' L = some (.lst []) → Q (.ref L) H'
theorem ok_Profile_choices_T (T : Txt K mg) : FnOk P w K mg base (L2.CX P w) 7 (He.fAd K ("Profile", some "choices")) (S.fdA K ("Profile", some "choices")) ["self"] (spChsT K) := by
  have G_Profile_moves := ok_Profile_moves_T (P := P) (w := w) (base := base) T
  refine FunD.ok T.F_Profile_choices sc_Profile_choices (fun vs H Q E h => S.splen1 h) (fun cdv A outer s H vs Q E hr h => ?_)
  have hu := hu_of hr
  refine ⟨_, (pss_one (ps_ret (pe_lc (own := [("row", 1)]) (g := gName 1) (tt := tYes) rfl sc_Profile_choices.nd (S.pi_seqK (K := K) rfl (S.pe_mtS0 (pv 0) T.cl_Profile T.me_Profile_moves G_Profile_moves (hr.mono (by decide)) (kb_Profile_moves_1 T) S.pas0  pk_nil rfl rfl)) (blkOk_by (N := ["self", "row"]) (sc := defScope s_Profile_choices) (by decide +kernel)) (fun _ _ _ _ _ => (pg_name (i := 1) sc_Profile_choices.nd rfl (by first | exact Or.inl rfl | exact Or.inr rfl))) (fun _ _ _ _ _ => pts_nil) (fun _ _ _ _ _ => (pe_ix (S.ixK (K := K) rfl) (pv 1) pe_int (fun _ _ => rfl)))))), ?_⟩
  obtain ⟨_, rfl, p, rows, s, m, f, st, t, hs, rfl, hp, okm, ht, q⟩ := h
  obtain ⟨dx, pg, sm, sv, hi, cs, F, _⟩ := id hp
  refine ⟨_, rfl, p, dx, _, rfl, F.at_, lf_none _ _ _ _ _ _ _ (by decide +kernel), rfl, rfl, _, rfl, p, rows, s, m, f, st, t, hs, rfl, hp, okm, ht, fun L J s1 eL => ?_⟩
  refine ⟨L, _, rfl, .inl (.inl (.inl eL)), fun It wk D hD => lc_mapC (as := ([] : List Nat)) (v := fun z => V.int z) wk (fun z => .int z) hD (by simp) (fun x => rfl) (fun z J2 Z hz s2 k => by cases hz) fun J2 s2 eD => ?_⟩
  exact q D J2 (s1.trans s2) eD
def spCallT (K : S.Frag) : Sp := Sp2 fun x y H Q E => ∃ (p : Addr) (rows : List Rw) (s : Str) (m : Sm) (f : Int) (st : Option St5) (t : Int) (hs : List Cho) (a : Addr) (v : V) (b : Bool), x = .ref p ∧ PfA K H p rows s m f st t hs ∧ okSm m ∧ t = 2000 ∧ y = .ref a ∧ H a = some (.tup [v, .bl b]) ∧ badAt K "BadChoice" "index" (.int t) H E
theorem ok_Profile___call___T (T : Txt K mg) : FnOk P w K mg base (L2.CX P w) 7 (He.fAd K ("Profile", some "__call__")) (S.fdA K ("Profile", some "__call__")) ["self", "choice"] (spCallT K) := by
  have G_BadChoice___init__ := ok_BadChoice___init__ (P := P) (w := w) (base := base) T
  have G_Profile_moves := ok_Profile_moves_T (P := P) (w := w) (base := base) T
  refine FunD.ok T.F_Profile___call__ sc_Profile___call__ (fun vs H Q E h => S.splen2 h) (fun cdv A outer s H vs Q E hr h => ?_)
  have hu := hu_of hr
  refine ⟨_, (pss_cons (ps_if (PW.pt (pw_or (pt_not (pt_val (pe_callB (S.isiK (K := K) rfl) rfl T.n_isinstance S.boot_isinstance (pa_cons (pv 1) (pa_cons (pe_bltn (v := .ty "tuple") rfl T.n_tuple S.boot_tuple rfl) pa_nil))))) (pw_or (pt_cmpR op_ne (pe_callB (S.lenK (K := K) rfl) rfl T.n_len S.boot_len (pa_cons (pv 1) pa_nil)) pe_int (nomark _)) (pw_or1 (pt_not (pt_val (pe_callB (S.isiK (K := K) rfl) rfl T.n_isinstance S.boot_isinstance (pa_cons (pe_ix (S.ixK (K := K) rfl) (pv 1) pe_int (fun _ _ => rfl)) (pa_cons (pe_bltn (v := .ty "bool") rfl T.n_bool S.boot_bool rfl) pa_nil))))))))) (pss_one (S.ps_raiseO rfl (takes_of rfl rfl rfl rfl) T.ox_BadChoice T.xi_BadChoice T.xt_BadChoice G_BadChoice___init__ (hr.mono (by decide)) (kb_BadChoice___init___2 T) rfl T.g_BadChoice (pa_cons (S.pe_fldK (K := K) rfl (pv 0) rfl) pa_nil))) pss_nil)
      (pss_cons (ps_for (S.own_of rfl) rfl (S.pi_listK (K := K) rfl (S.pe_mtS0 (pv 0) T.cl_Profile T.me_Profile_moves G_Profile_moves (hr.mono (by decide)) (kb_Profile_moves_1 T) S.pas0  pk_nil rfl rfl)) (pg_tup rfl (pgs_cons (pg_name (i := 2) sc_Profile___call__.nd rfl (by first | exact Or.inl rfl | exact Or.inr rfl)) (pgs_cons (pg_name (i := 3) sc_Profile___call__.nd rfl (by first | exact Or.inl rfl | exact Or.inr rfl)) (pgs_cons (pg_name (i := 4) sc_Profile___call__.nd rfl (by first | exact Or.inl rfl | exact Or.inr rfl)) pgs_nil))))
        (pss_one (ps_if (pt_cmpR (S.eqGK (K := K) rfl (S.hu64 hr)) (pv 2) (pv 1) (nomark _)) (pss_cons (S.ps_fldK (K := K) rfl (pv 0) (pv 3) rfl)
      (pss_cons (S.ps_fldaugK (K := K) rfl (pv 0) pe_int in_add)
      (pss_cons (S.ps_fldK (K := K) rfl (pv 0) (pe_op (S.catTK (K := K) rfl) (S.pe_fldK (K := K) rfl (pv 0) rfl) (pe_tup (pa_cons (pv 2) pa_nil))) rfl)
      (pss_cons (ps_if (pt_val (pv 4)) (pss_one (ps_ret (pe_ix (S.ixK (K := K) rfl) (pv 3) pe_int (fun _ _ => rfl)))) pss_nil)
      (pss_one (ps_ret pe_non)))))) pss_nil)))
      (pss_one (S.ps_raiseO rfl (takes_of rfl rfl rfl rfl) T.ox_BadChoice T.xi_BadChoice T.xt_BadChoice G_BadChoice___init__ (hr.mono (by decide)) (kb_BadChoice___init___2 T) rfl T.g_BadChoice (pa_cons (S.pe_fldK (K := K) rfl (pv 0) rfl) pa_nil))))), ?_⟩
  obtain ⟨_, _, rfl, p, rows, s, m, f, st, t, hs, a, v, b, rfl, hp, okm, ht, rfl, ha, bad⟩ := h
  obtain ⟨dx, pg, sm, sv, hi, cs, F, ecs⟩ := id hp
  refine ⟨_, rfl, _, _, _, _, true, rfl, .ty _, .base (.tup ha), kit_ty (by decide +kernel), _, rfl, iteF ?_⟩
  refine ⟨_, rfl, _, _, rfl, lenVX (.inr (.inl (.inl ha))), rfl, _, rfl, iteF ?_⟩
  refine ⟨_, rfl, ixT ha rfl ⟨_, _, _, _, true, rfl, .ty _, .base (.bl _), kit_ty (by decide +kernel), _, rfl, iteF ?_⟩⟩
  refine ⟨_, rfl, p, dx, _, rfl, F.at_, lf_none _ _ _ _ _ _ _ (by decide +kernel), rfl, rfl, _, rfl, p, rows, s, m, f, st, t, hs, rfl, hp, okm, ht, fun L J1 s1 eL => ?_⟩
  refine ⟨L, rfl, ⟨_, .inl (.inl eL)⟩, for_list (xs := []) (fun i σ J => J = J1 ∧ ∃ v2 v3 v4, σ = [some (.ref p), some (.ref a), v2, v3, v4]) ⟨rfl, _, _, _, rfl⟩ (fun i σ J _ h => by rw [h.1]; exact .inl (.inl eL)) ?_ ?_⟩
  · rintro i x σ J hx _
    simp at hx
  · rintro σ J ⟨rfl, v2, v3, v4, rfl⟩
    have F1 := F.same s1
    show tMkO (He.ga K "BadChoice") (sp_err (He.ga K "BadChoice") "index") [] (tCons (tFld K (tVar 0) "ticks") tNil) [some (.ref p), some (.ref a), v2, v3, v4] J E
    exact raise_err (.int t) (bad.same s1) (fun R r => ⟨_, rfl, p, _, dx, _, _, rfl, F1.at_, T.cl_Profile, T.na_Profile_ticks, lf_ticks _ _ _ _ _ _ _, r⟩)
theorem ok_Profile_choices_A (T : Txt K mg) : FnOk P w K mg base (L2.CX P w) 7 (He.fAd K ("Profile", some "choices")) (S.fdA K ("Profile", some "choices")) ["self"] (S.spOr (spChs K) (spChsT K)) := S.fnOr (ok_Profile_choices T) (ok_Profile_choices_T T)
theorem ok_Profile___call___A (T : Txt K mg) : FnOk P w K mg base (L2.CX P w) 7 (He.fAd K ("Profile", some "__call__")) (S.fdA K ("Profile", some "__call__")) ["self", "choice"] (S.spOr (spCall K) (spCallT K)) := S.fnOr (ok_Profile___call__ T) (ok_Profile___call___T T)
end
end W

namespace W
open PySem PySem.Spec PyProof.Rows L2
section
variable {P : Program} {w : World} {K : S.Frag} {mg : Str → Option Value} {base : Heap}
open S
/-- what the law's call of observe tells -/
def ToldA (H : Hp) (o : Addr) (lb : Option Int) (tt : Int) (xl : Option (List V)) (names : List Str) (R : List (Option Int) → Rc) : Prop :=
  (∃ i, lb = some i ∧ H o = some (.tup [.str "look", .int i])) ∨
  (lb = none ∧ 2000 < tt ∧ H o = some (.tup [.str "long", .bl true, .bl false])) ∨
  (∃ (ls : List (Option Int)) (D : Addr), lb = none ∧ xl = some (ls.map lkV) ∧ tt ≤ 2000 ∧ H D = some (.dK (tmK names (R ls).tm)) ∧ H o = some (.tup [.str "told", .int (R ls).t, .ref D, .int ((R ls).ns.length : Int), .int (R ls).lo, .bl (R ls).wt]))
def spTold (K : S.Frag) : Sp := Sp4 fun x y u v H Q _ => ∃ (p a L : Addr) (rows : List Rw) (s : Str) (m : Sm) (ws : List (Addr × Sy)) (xl : Option (List V)), x = .ref p ∧ PgAt K H p rows s ∧ okRows rows ∧ y = .ref a ∧ SmA K H a m ∧ okSm m ∧ phFit m .non = true ∧ u = .ref L ∧ SysA H L ws ∧ LsV H v xl ∧
  0 < ws.length ∧ ws.length ≤ 3000 ∧ okSy (vw rows) s (ws.map Prod.snd) ∧ (∀ y ∈ ws.map Prod.snd, 0 ≤ y.2) ∧
  ∀ o H', Same H H' → ToldA H' o (lookBad m (phOf m .non) (ticksOf (ws.map Prod.snd)) xl) (ticksOf (ws.map Prod.snd)) xl (rNames rows) (fun ls => playR (vw rows) m.p (phOf m .non) ls (ws.map Prod.snd)) → Q (.ref o) H'
theorem ok__law_told (T : Txt K mg) : FnOk P w K mg base (L2.CX P w) 8 (He.fAd K ("_law_told", none)) (S.fdA K ("_law_told", none)) ["_law_program", "_law_sampler", "_law_stays", "_law_looks"] (spTold K) := by
  have G_observe := ok_observe (P := P) (w := w) (base := base) T
  refine FunD.ok T.F__law_told sc__law_told (fun vs H Q E h => S.splen4 h) (fun cdv A outer s H vs Q E hr h => ?_)
  have hu := hu_of hr
  refine ⟨_, (pss_cons (S.ps_try_cl rfl rfl takes0
        (fun W pn xe tk ow => (pss_cons (ps_set (i := 4) sc__law_told.nd rfl (by first | exact Or.inl rfl | exact Or.inr rfl) (S.pe_fnS G_observe (hr.mono (by decide)) rfl T.g_observe T.F_observe.kp (kb_observe_4 T).choose_spec (fun σ => passAt tk σ) (pa_cons (pv 0) (pa_cons (pv 1) (pa_cons (pv 2) (pa_cons (pv 3) pa_nil)))) pk_nil rfl rfl))
      (pss_one (ps_set (i := 5) sc__law_told.nd rfl (by first | exact Or.inl rfl | exact Or.inr rfl) (pe_tup (pa_cons pe_str (pa_cons (S.pe_fldK (K := K) rfl (pv 4) rfl) (pa_cons (S.pe_fldK (K := K) rfl (pv 4) rfl) (pa_cons (pe_callB (S.lenK (K := K) rfl) rfl T.n_len S.boot_len (pa_cons (S.pe_fldK (K := K) rfl (pv 4) rfl) pa_nil)) (pa_cons (S.pe_fldK (K := K) rfl (pv 4) rfl) (pa_cons (S.pe_fldK (K := K) rfl (pv 4) rfl) pa_nil)))))))))))
        (.as_ (i := 6) sc__law_told.nd rfl rfl ⟨rfl, by decide, .inl T.g_NoTicks⟩
        (fun a oe cls d pn hz hf => (pss_one (ps_set (i := 5) sc__law_told.nd rfl (by first | exact Or.inl rfl | exact Or.inr rfl) (pe_tup (pa_cons pe_str (pa_cons (pe_callB (S.call_isX T.xc_NoTicks hz hf) rfl T.n_isinstance S.boot_isinstance (pa_cons (pv 6) (pa_cons (pe_glob (v := .ref _) rfl T.g_SeenError rfl) pa_nil))) (pa_cons (pe_callB (S.call_isX T.xc_NoTicks hz hf) rfl T.n_isinstance S.boot_isinstance (pa_cons (pv 6) (pa_cons (pe_glob (v := .ref _) rfl T.g_BadLook rfl) pa_nil))) pa_nil))))))) (.as_ (i := 6) sc__law_told.nd rfl rfl ⟨rfl, by decide, .inl T.g_BadLook⟩
        (fun a oe cls d pn hz hf => (pss_one (ps_set (i := 5) sc__law_told.nd rfl (by first | exact Or.inl rfl | exact Or.inr rfl) (pe_tup (pa_cons pe_str (pa_cons (pe_xf T.xf_BadLook T.xn_BadLook_index hz hf (pv 6) rfl) pa_nil)))))) .nil)))
      (pss_one (ps_ret (pv 5)))), ?_⟩
  obtain ⟨_, _, _, v, rfl, p, a, L, rows, st, m, ws, xl, rfl, hp, ok, rfl, hm, okm, pf, rfl, hw, hv, w0, w1, oy, hy, q⟩ := h
  refine ⟨_, rfl, _, rfl, _, rfl, _, rfl, rfl, rfl, _, _, _, _, _, rfl, p, a, L, rows, st, m, ws, xl, rfl, hp, ok, rfl, hm, okm, .non, rfl, hw, hv, w0, w1, oy, hy, fun c => ?_, fun _ i hb d H' nd sm' hd => ?_, fun _ hb ht H' s' => ?_, fun ls _ hb hl ht H' b dx D N vs s' rc => ?_⟩
  · rw [pf] at c
    cases c
  · have k := fun o H' s1 e => q o H' s1 (.inl ⟨i, hb, e⟩)
    refine ⟨false, T.xm_BadLook_NoTicks, fun z => Bool.noConfusion z, fun _ => ⟨true, T.xm_BadLook_BadLook, fun _ a0 ha0 => ?_, fun z => Bool.noConfusion z⟩⟩
    refine ⟨_, rfl, rfl, rfl, d, _, _, rfl, hd, (by rw [lookup_put, if_pos rfl]), ?_⟩
    exact ⟨by show 2 ≤ sizeLine; decide, fun o ho => ⟨_, rfl, k o _ (Same.upd sm' (sm'.free ho)) upd_same⟩⟩
  · have k := fun o H' s1 e => q o H' s1 (.inr (.inl ⟨hb, ht, e⟩))
    refine ⟨true, T.xm_NoTicks_NoTicks, fun _ a0 ha0 => ?_, fun z => Bool.noConfusion z⟩
    refine ⟨_, rfl, rfl, .inl rfl, _, _, _, rfl, .own _, T.xk_NoTicks_SeenError, ?_⟩
    refine ⟨_, rfl, rfl, .inl rfl, _, _, _, rfl, .own _, T.xk_NoTicks_BadLook, ?_⟩
    exact ⟨by show 3 ≤ sizeLine; decide, fun o ho => ⟨_, rfl, k o _ (s'.trans (Same.new ho)) upd_same⟩⟩
  · have k : ∀ (o D : Addr) (H' : Hp), Same H H' → H' D = some (.dK (tmK (rNames rows) (playR (vw rows) m.p (phOf m .non) ls (ws.map Prod.snd)).tm)) → H' o = some (.tup [.str "told", .int (playR (vw rows) m.p (phOf m .non) ls (ws.map Prod.snd)).t, .ref D, .int ((playR (vw rows) m.p (phOf m .non) ls (ws.map Prod.snd)).ns.length : Int), .int (playR (vw rows) m.p (phOf m .non) ls (ws.map Prod.snd)).lo, .bl (playR (vw rows) m.p (phOf m .non) ls (ws.map Prod.snd)).wt]) → Q (.ref o) H' := fun o D H' s1 e1 e2 => q o H' s1 (.inr (.inr ⟨ls, D, hb, hl, ht, e1, e2⟩))
    generalize playR (vw rows) m.p (phOf m .non) ls (ws.map Prod.snd) = R at k rc
    have lvs : vs.length = R.ns.length := by rw [← rc.ns, List.length_map]
    refine ⟨_, rfl, b, _, dx, _, _, rfl, rc.at_, T.cl_Record, T.na_Record_ticks, lr_ticks _ _ _ _ _, ?_⟩
    refine ⟨_, rfl, b, _, dx, _, _, rfl, rc.at_, T.cl_Record, T.na_Record_times, lr_times _ _ _ _ _, ?_⟩
    refine ⟨_, rfl, b, _, dx, _, _, rfl, rc.at_, T.cl_Record, T.na_Record_notes, lr_notes _ _ _ _ _, _, _, rfl, lenVX (.inl (.inl (.inl rc.nt))), ?_⟩
    rw [List.length_map, lvs]
    refine ⟨_, rfl, b, _, dx, _, _, rfl, rc.at_, T.cl_Record, T.na_Record_lost, lr_lost _ _ _ _ _, ?_⟩
    refine ⟨_, rfl, b, _, dx, _, _, rfl, rc.at_, T.cl_Record, T.na_Record_waiting, lr_waiting _ _ _ _ _, ?_⟩
    exact ⟨by show 6 ≤ sizeLine; decide, fun o ho => ⟨_, rfl, k o D _ (s'.trans (Same.new ho)) (Same.new ho _ _ rc.tm) upd_same⟩⟩
def spCalled (K : S.Frag) : Sp := Sp2 fun x y H Q E => ∃ (p : Addr) (rows : List Rw) (s : Str) (m : Sm) (f : Int) (st : Option St5) (t : Int) (hs : List Cho) (a : Addr) (c : Cho), x = .ref p ∧ PfA K H p rows s m f st t hs ∧ okSm m ∧ y = .ref a ∧ ChA H a c ∧
  ((t = 2000 ∧ ∀ o H', Same H H' → H' o = some (.tup [.str "bad", .int t]) → Q (.ref o) H') ∨
   (t ≠ 2000 ∧ okRows rows ∧ s ∈ rNames rows ∧ hs.length ≤ 2100 ∧ (∀ s', st = some s' → s'.n ∈ rNames rows) ∧ ∃ z, (movP (vw rows) s m (slF m f t) st).find? (hitP (mvD c.1) c.2) = some z ∧ ∀ o H', Kp p H H' → H p ≠ none → PfA K H' p rows s m f (some z.2.1) (t + 1) (hs ++ [z.1]) → H' o = some (.tup [.str "told", if z.2.2 then .str z.2.1.n else .non]) → Q (.ref o) H'))
theorem ok__law_called (T : Txt K mg) : FnOk P w K mg base (L2.CX P w) 9 (He.fAd K ("_law_called", none)) (S.fdA K ("_law_called", none)) ["_law_live", "_law_choice"] (spCalled K) := by
  have G_Profile___call__ := ok_Profile___call___A (P := P) (w := w) (base := base) T
  refine FunD.ok T.F__law_called sc__law_called (fun vs H Q E h => S.splen2 h) (fun cdv A outer s H vs Q E hr h => ?_)
  have hu := hu_of hr
  refine ⟨_, (pss_cons (ps_try_as (i := 3) rfl rfl sc__law_called.nd rfl rfl ⟨rfl, by decide, .inl T.g_BadChoice⟩ takes0
        (fun W pn xe tk ow => (pss_one (ps_set (i := 2) sc__law_called.nd rfl (by first | exact Or.inl rfl | exact Or.inr rfl) (pe_tup (pa_cons pe_str (pa_cons (S.pe_callX (C := He.ga K "Profile") (pv 0) ⟨T.me_Profile___call__.1, T.me_Profile___call__.2, T.fn_Profile___call__⟩ (S.raw_of G_Profile___call__ (kb_Profile___call___2 T)) (hr.mono (by decide)) (fun σ => passAt tk σ) (pa_cons (pv 1) pa_nil)) pa_nil))))))
        (fun a oe cls d pn hz hf => (pss_one (ps_set (i := 2) sc__law_called.nd rfl (by first | exact Or.inl rfl | exact Or.inr rfl) (pe_tup (pa_cons pe_str (pa_cons (pe_xf T.xf_BadChoice T.xn_BadChoice_index hz hf (pv 3) rfl) pa_nil)))))))
      (pss_one (ps_ret (pv 2)))), ?_⟩
  obtain ⟨_, _, rfl, p, rows, s, m, f, st, t, hs, a, c, rfl, hp, okm, rfl, hc, q⟩ := h
  obtain ⟨dx, pg, sm, sv, hi, cs, F, ecs⟩ := id hp
  refine ⟨_, rfl, p, rfl, _, rfl, ⟨dx, _, F.at_⟩, ?_⟩
  rcases q with ⟨ht, q⟩ | ⟨ht, ok, hs0, lh, hn, z, hz, q⟩
  · refine .inr ⟨_, _, rfl, p, rows, s, m, f, st, t, hs, a, _, c.2, rfl, hp, okm, ht, rfl, hc, fun d H' nd sm' hd => ?_⟩
    refine ⟨true, T.xm_BadChoice_BadChoice, fun _ a0 ha0 => ?_, fun z => Bool.noConfusion z⟩
    refine ⟨_, rfl, rfl, rfl, d, _, _, rfl, hd, (by rw [lookup_put, if_pos rfl]), ?_⟩
    exact ⟨by show 2 ≤ sizeLine; decide, fun k hk => ⟨_, rfl, q k _ (Same.upd sm' (sm'.free hk)) upd_same⟩⟩
  · refine .inl ⟨_, _, rfl, p, rows, s, m, f, st, t, hs, rfl, hp, ok, okm, hs0, ht, lh, hn, ?_⟩
    refine .inr (.inr ⟨a, _, c.2, mvD c.1, rfl, hc, dp_mv _, by cases c.1 <;> rfl, by cases c.1 <;> simp [mvD, PyData.depth], fun hf => ?_, fun z' hz' H' kp pf => ?_⟩)
    · rw [hz] at hf
      cases hf
    · rw [hz] at hz'
      cases hz'
      exact ⟨by show 2 ≤ sizeLine; decide, fun k hk => ⟨_, rfl, q k _ (fun c u nc hcu => Same.new hk _ _ (kp c u nc hcu)) (fun e => by rw [F.at_] at e; cases e) (pf.same (Same.new hk)) upd_same⟩⟩
end
end W

namespace W
open PySem PySem.Spec PyProof.Rows L2
/-! one long run (plain) -/
open S
def vL (sz : Nat) (op : Bool) : Vw := [(⟨"aa", (sz : Int), 6, op⟩, ["aa", "b"]), (⟨"b", 1, 6, true⟩, ["b"])]
theorem plL (sz : Nat) (op : Bool) : plV (vL sz op) "aa" = ⟨"aa", (sz : Int), 6, op⟩ := rfl
theorem nxL (sz : Nat) (op : Bool) : nxV (vL sz op) "aa" = (["aa", "b"] : List Str) := rfl
theorem mod_succ {s k : Nat} (h : 0 < s) : (k + 1) % s = if k % s + 1 = s then 0 else k % s + 1 := by
  have e := Nat.div_add_mod k s
  have l := Nat.mod_lt k h
  have e2 : k + 1 = s * (k / s) + (k % s + 1) := by omega
  rw [e2, Nat.mul_add_mod]
  split
  · rename_i c
    rw [c, Nat.mod_self]
  · exact Nat.mod_eq_of_lt (by omega)
/-- the state behind tick k -/
def stB (sz sc : Nat) (op : Bool) (k : Nat) : St5 := ⟨"aa", ((k % sz : Nat) : Int) + 1, ((k % sc : Nat) : Int), true, !op⟩
def stO (sz sc : Nat) (op : Bool) : Nat → Option St5
  | 0 => none
  | k + 1 => some (stB sz sc op k)
def mvC (sz k : Nat) : Option Str := if k % sz = 0 then some ("aa" : Str) else none
def lkC (sc k : Nat) : Bool := decide (k % sc = 0)
theorem mvO_one {l : Vw} {m : Sm} {slot : Int} {bf wt : Bool} (hj : m.j = 0) (h0 : 0 ≤ slot) (hb : bf = decide (0 < slot)) (o : Option Str × Str × Int) : mvO l m slot bf wt o = [((o.1, !bf), mkP (plV l o.2.1) o.2.2 slot bf wt (!bf))] := by
  have e : duesOf bf (decide (slot = m.j)) = [!bf] := by
    rw [hj]
    unfold duesOf
    by_cases c : 0 < slot
    · rw [hb, decide_eq_true c]
      rfl
    · have c0 : slot = 0 := by omega
      rw [hb, decide_eq_false c, decide_eq_true c0]
      rfl
  unfold mvO tk
  rw [e]
  show [mvT bf o.1 (mkP (plV l o.2.1) o.2.2 slot bf wt (!bf))] = _
  unfold mvT mkP
  cases bf <;> rfl
theorem find_mv {l : Vw} {m : Sm} {slot : Int} {bf wt : Bool} (hj : m.j = 0) (h0 : 0 ≤ slot) (hb : bf = decide (0 < slot)) (mv : Option Str) : ∀ os : List (Option Str × Str × Int), (os.flatMap (mvO l m slot bf wt)).find? (hitP (mvD mv) (!bf)) = (os.find? fun o => decide (o.1 = mv)).map fun o => ((mv, !bf), mkP (plV l o.2.1) o.2.2 slot bf wt (!bf))
  | [] => rfl
  | o :: os => by
    rw [List.flatMap_cons, mvO_one hj h0 hb]
    show List.find? _ (_ :: _) = _
    rw [List.find?_cons, List.find?_cons]
    have e : hitP (mvD mv) (!bf) ((o.1, !bf), mkP (plV l o.2.1) o.2.2 slot bf wt (!bf)) = decide (o.1 = mv) := by
      unfold hitP
      show PyData.eqv (chD (o.1, !bf)) (chD (mv, !bf)) = _
      rw [ch_eqv]
      simp
    rw [e]
    by_cases c : o.1 = mv
    · rw [decide_eq_true c, c]
      rfl
    · rw [decide_eq_false c]
      exact find_mv hj h0 hb mv os
theorem mov_long {sz sc : Nat} {op : Bool} {m : Sm} (hj : m.j = 0) (hp : m.p = (sc : Int)) (s0 : 0 < sz) (s6 : sz ≤ 6) (c0 : 0 < sc) (k : Nat) :
    (movP (vL sz op) "aa" m (slF m 0 (k : Int)) (stO sz sc op k)).find? (hitP (mvD (mvC sz k)) (lkC sc k)) = some ((mvC sz k, lkC sc k), (stB sz sc op k, lkC sc k && op)) := by
  have es : slF m 0 (k : Int) = ((k % sc : Nat) : Int) := by
    unfold slF
    rw [hp, Int.zero_add, Int.natCast_emod]
  rw [es]
  have h0 : (0 : Int) ≤ ((k % sc : Nat) : Int) := by omega
  have hbf : befO m ((k % sc : Nat) : Int) (stO sz sc op k) = decide ((0 : Int) < ((k % sc : Nat) : Int)) := by
    cases k with
    | zero => unfold stO befO; simp only [hj]
    | succ k => unfold stO befO stB; simp
  have el : lkC sc k = !decide ((0 : Int) < ((k % sc : Nat) : Int)) := by
    unfold lkC
    rw [Bool.eq_iff_iff]
    simp
    omega
  unfold movP
  rw [hbf, el, find_mv hj h0 rfl]
  rw [← el]
  have ebf : decide ((0 : Int) < ((k % sc : Nat) : Int)) = !lkC sc k := by rw [el, Bool.not_not]
  rw [ebf]
  cases k with
  | zero =>
    have e1 : mvC sz 0 = some ("aa" : Str) := by unfold mvC; simp
    have e2 : lkC sc 0 = true := by unfold lkC; simp
    rw [e1, e2]
    unfold stO optP
    rw [List.find?_cons_of_pos (by simp)]
    simp only [Option.map_some]
    rw [plL]
    unfold mkP stB waO
    simp
  | succ k =>
    have ms := mod_succ (k := k) s0
    have lt := Nat.mod_lt k s0
    unfold stO optP waO
    simp only
    have en : (stB sz sc op k).n = "aa" := rfl
    have esp : (stB sz sc op k).sp = ((k % sz : Nat) : Int) + 1 := rfl
    have ewt : (stB sz sc op k).wt = !op := rfl
    rw [en, esp, ewt, plL, nxL]
    simp only
    have eo : (((vL sz op).map fun z => z.1.n).filter fun n => decide (n ∈ (["aa", "b"] : List Str))).map (fun n => ((some n, n, 1) : Option Str × Str × Int)) = ([(some ("aa" : Str), "aa", 1), (some ("b" : Str), "b", 1)] : List (Option Str × Str × Int)) := rfl
    rw [eo]
    by_cases c : k % sz + 1 = sz
    · rw [if_pos c] at ms
      have e1 : mvC sz (k + 1) = some ("aa" : Str) := by unfold mvC; rw [ms]; rfl
      rw [e1]
      have f : ((if ((k % sz : Nat) : Int) + 1 < 6 then [((none, "aa", ((k % sz : Nat) : Int) + 1 + 1) : Option Str × Str × Int)] else []) ++ if (sz : Int) ≤ ((k % sz : Nat) : Int) + 1 then ([(some ("aa" : Str), "aa", 1), (some ("b" : Str), "b", 1)] : List (Option Str × Str × Int)) else []).find? (fun o => decide (o.1 = some ("aa" : Str))) = some (some ("aa" : Str), ("aa" : Str), (1 : Int)) := by
        rw [if_pos (show (sz : Int) ≤ ((k % sz : Nat) : Int) + 1 by omega)]
        split
        · rfl
        · rfl
      rw [f]
      simp only [Option.map_some]
      rw [plL]
      unfold mkP stB
      rw [ms]
      cases op <;> cases lkC sc (k + 1) <;> rfl
    · rw [if_neg c] at ms
      have e1 : mvC sz (k + 1) = none := by unfold mvC; rw [ms, if_neg (by omega)]
      rw [e1]
      have f : ((if ((k % sz : Nat) : Int) + 1 < 6 then [((none, "aa", ((k % sz : Nat) : Int) + 1 + 1) : Option Str × Str × Int)] else []) ++ if (sz : Int) ≤ ((k % sz : Nat) : Int) + 1 then ([(some ("aa" : Str), "aa", 1), (some ("b" : Str), "b", 1)] : List (Option Str × Str × Int)) else []).find? (fun o => decide (o.1 = none)) = some (none, ("aa" : Str), ((k % sz : Nat) : Int) + 1 + 1) := by
        rw [if_pos (show ((k % sz : Nat) : Int) + 1 < 6 by omega)]
        rfl
      rw [f]
      simp only [Option.map_some]
      rw [plL]
      unfold mkP stB
      rw [ms]
      have e5 : ((k % sz + 1 : Nat) : Int) + 1 = ((k % sz : Nat) : Int) + 1 + 1 := by omega
      rw [e5]
      cases op <;> cases lkC sc (k + 1) <;> rfl
/-! the record of the run -/
/-- the looks that came due in k ticks -/
def cnt (sc k : Nat) : Nat := (k + sc - 1) / sc
theorem cnt_succ {sc k : Nat} (h : 0 < sc) : cnt sc (k + 1) = cnt sc k + if k % sc = 0 then 1 else 0 := by
  unfold cnt
  have e := Nat.div_add_mod k sc
  have l := Nat.mod_lt k h
  rw [show k + 1 + sc - 1 = k + sc by omega, Nat.add_div_right _ h]
  by_cases c : k % sc = 0
  · rw [if_pos c]
    have : (k + sc - 1) / sc = k / sc := by
      rw [show k + sc - 1 = sc * (k / sc) + (sc - 1) by omega, Nat.mul_add_div h, Nat.div_eq_of_lt (show sc - 1 < sc by omega)]
      rfl
    rw [this]
  · rw [if_neg c]
    have : (k + sc - 1) / sc = k / sc + 1 := by
      rw [show k + sc - 1 = sc * (k / sc) + (sc + (k % sc - 1)) by omega, Nat.mul_add_div h, Nat.add_comm sc, Nat.add_div_right _ h, Nat.div_eq_of_lt (show k % sc - 1 < sc by omega)]
    rw [this]
structure LongR (sc : Nat) (op : Bool) (k : Nat) (R : Rc) : Prop where
  t : R.t = (k : Int)
  a : R.tm "aa" = (k : Int)
  b : R.tm "b" = 0
  n : R.ns.length = if op then cnt sc k else 0
  wt : R.wt = (!op && decide (0 < k))
  lo : R.lo = if op then 0 else ((cnt sc k - 1 : Nat) : Int)
theorem many_long {sz sc N : Nat} {op : Bool} (c0 : 0 < sc) {ls : List (Option Int)} (hl : ∀ t, t < N → ls[t / sc]? = some (some 0)) : ∀ k, k ≤ N → LongR sc op k (manyR (vL sz op) (sc : Int) 0 ls "aa" k R0)
  | 0, _ => by
    refine ⟨rfl, rfl, rfl, ?_, ?_, ?_⟩
    · show 0 = _
      have : cnt sc 0 = 0 := by unfold cnt; rw [Nat.zero_add]; exact Nat.div_eq_of_lt (by omega)
      rw [this]
      split <;> rfl
    · show false = _
      simp
    · show (0 : Int) = _
      have : cnt sc 0 = 0 := by unfold cnt; rw [Nat.zero_add]; exact Nat.div_eq_of_lt (by omega)
      rw [this]
      split <;> rfl
  | k + 1, hk => by
    have ih := many_long (sz := sz) (op := op) c0 hl k (by omega)
    show LongR sc op (k + 1) (tickR _ _ _ _ _ _)
    unfold tickR
    generalize manyR (vL sz op) (sc : Int) 0 ls "aa" k R0 = R at ih
    have ed : dueB (sc : Int) 0 ls R.t = decide (k % sc = 0) := by
      unfold dueB
      rw [ih.t, Int.zero_add]
      rw [show (k : Int) / (sc : Int) = ((k / sc : Nat) : Int) from (Int.natCast_ediv k sc).symm, Int.toNat_natCast, hl k (by omega), show (k : Int) % (sc : Int) = ((k % sc : Nat) : Int) from (Int.natCast_emod k sc).symm]
      rw [Bool.eq_iff_iff]
      simp
      omega
    rw [ed, plL]
    have cs := cnt_succ (k := k) c0
    have ck : 0 < k → 0 < cnt sc k := fun h => by
      unfold cnt
      exact Nat.div_pos (by omega) c0
    have z : k % sc ≠ 0 → 0 < k := fun h => by
      rcases Nat.eq_zero_or_pos k with rfl | h2
      · rw [Nat.zero_mod] at h
        exact absurd rfl h
      · exact h2
    refine ⟨?_, ?_, ?_, ?_, ?_, ?_⟩
    · show R.t + 1 = _
      rw [ih.t]
      omega
    · show bump R.tm "aa" "aa" = _
      unfold bump
      rw [if_pos rfl, ih.a]
      omega
    · show bump R.tm "aa" "b" = _
      unfold bump
      rw [if_neg (by decide), ih.b]
    · show (if (R.wt || decide (k % sc = 0)) && op then R.ns ++ [(R.t, ("aa" : Str))] else R.ns).length = _
      rw [ih.wt, cs]
      have hn := ih.n
      cases op with
      | true =>
        by_cases c : k % sc = 0
        · simp [c]
          simpa using hn
        · simp [c]
          simpa using hn
      | false => simpa using hn
    · show ((R.wt || decide (k % sc = 0)) && !op) = _
      rw [ih.wt]
      cases op with
      | true => simp
      | false =>
        by_cases c : k % sc = 0
        · simp [c]
        · have := z c
          simp [this]
    · show (if decide (k % sc = 0) && R.wt then R.lo + 1 else R.lo) = _
      rw [ih.wt, ih.lo, cs]
      cases op with
      | true => simp
      | false =>
        by_cases c : k % sc = 0
        · by_cases k0 : 0 < k
          · have := ck k0
            simp [c, k0]
            omega
          · have k00 : k = 0 := by omega
            subst k00
            have : cnt sc 0 = 0 := by unfold cnt; rw [Nat.zero_add]; exact Nat.div_eq_of_lt (by omega)
            simp [this]
        · simp [c]
end W

namespace W
open PySem PySem.Spec PyProof.Rows L2
section
variable {P : Program} {w : World} {K : S.Frag} {mg : Str → Option Value} {base : Heap}
open S
theorem same_kp {J0 H H' : Hp} {p : Addr} (s : Same J0 H) (n : J0 p = none) (k : Kp p H H') : Same J0 H' := fun b o h => k b o (fun e => by rw [e, n] at h; cases h) (s b o h)
def ntV (b : Bool) : V := if b then .str "aa" else .non
def ntD (b : Bool) : PyData := if b then .str "aa" else .none
theorem dp_nt {H : Hp} (b : Bool) : Dp K H (ntV b) (ntD b) := by
  cases b
  · exact .non
  · exact .str _
theorem eg_told {H : Hp} {o t : Addr} {b : Bool} (h1 : H o = some (.tup [.str "told", ntV b])) (h2 : H t = some (.tup [.str "told", ntV b])) : EqG K H 30 (.ref o) (.ref t) true := by
  have p : (PyData.tuple [.str "told", ntD b]).plain = true := by cases b <;> rfl
  have e := eg_dat (K := K) (.tup (.inl (.inl h1)) (.cons (.str _) (.cons (dp_nt b) .nil))) (.tup (.inl (.inl h2)) (.cons (.str _) (.cons (dp_nt b) .nil))) p p
  exact (e.to (SeqAt.eqv_refl_plain _ p)).up (by cases b <;> simp [ntD, PyData.depth, PyData.depthAll])
theorem eg_bad {H : Hp} {o t : Addr} {i : Int} (h1 : H o = some (.tup [.str "bad", .int i])) (h2 : H t = some (.tup [.str "bad", .int i])) : EqG K H 30 (.ref o) (.ref t) true := by
  have p : (PyData.tuple [.str "bad", .int i]).plain = true := rfl
  have e := eg_dat (K := K) (.tup (.inl (.inl h1)) (.cons (.str _) (.cons (.int _) .nil))) (.tup (.inl (.inl h2)) (.cons (.str _) (.cons (.int _) .nil))) p p
  exact (e.to (SeqAt.eqv_refl_plain _ p)).up (by simp [PyData.depth, PyData.depthAll])
theorem eg_nils {H : Hp} {a b : Addr} (h1 : H a = some (.lst [])) (h2 : H b = some (.lst [])) : EqG K H 30 (.ref a) (.ref b) true := by
  have e := eg_dat (K := K) (.lst (.inl (.inl h1)) .nil) (.lst (.inl (.inl h2)) .nil) rfl rfl
  exact (e.to (SeqAt.eqv_refl_plain _ rfl)).up (by simp [PyData.depth, PyData.depthAll])
theorem recH_t (l : Vw) (hs : List Cho) : ∀ k, k ≤ hs.length → (recH l (hs.take k)).2.t = (k : Int)
  | 0, _ => rfl
  | k + 1, hk => by
    have e := List.getElem?_eq_getElem (show k < hs.length by omega)
    rw [List.take_add_one, e]
    show (recH l (hs.take k ++ [hs[k]])).2.t = _
    rw [recH_snoc]
    show (recH l (hs.take k)).2.t + 1 = _
    rw [recH_t l hs k (by omega)]
    omega
def spPFits (K : S.Frag) : Sp := Sp5 fun x y z u v H Q _ => ∃ (pg : Addr) (rows : List Rw) (sz sc N : Nat) (op : Bool), x = .ref pg ∧ PgAt K H pg rows "aa" ∧ okRows rows ∧ vw rows = vL sz op ∧ y = .int (sz : Int) ∧ z = .int (sc : Int) ∧ u = .int (N : Int) ∧ v = .bl op ∧ 1 ≤ sz ∧ sz ≤ 6 ∧ 1 ≤ sc ∧ sc ≤ 8 ∧ 1985 ≤ N ∧ N ≤ 2015 ∧ ∀ H', Same H H' → Q (.bl true) H'
theorem ok__law_profile_fits (T : Txt K mg) : FnOk P w K mg base (L2.CX P w) 10 (He.fAd K ("_law_profile_fits", none)) (S.fdA K ("_law_profile_fits", none)) ["_law_program", "_law_size", "_law_spec", "_law_many", "_law_opened"] (spPFits K) := by
  have G_Profile___init__ := ok_Profile___init__ (P := P) (w := w) (base := base) T
  have G_Sampler___init__ := ok_Sampler___init__ (P := P) (w := w) (base := base) T
  have G__law_called := ok__law_called (P := P) (w := w) (base := base) T
  have G_Profile_choices := ok_Profile_choices_T (P := P) (w := w) (base := base) T
  have G_Profile_record := ok_Profile_record (P := P) (w := w) (base := base) T
  have G_Profile_path := ok_Profile_path (P := P) (w := w) (base := base) T
  refine FunD.ok T.F__law_profile_fits sc__law_profile_fits (fun vs H Q E h => S.splen5 h) (fun cdv A outer s H vs Q E hr h => ?_)
  have hu := hu_of hr
  refine ⟨_, (pss_cons (ps_set (i := 5) sc__law_profile_fits.nd rfl (by first | exact Or.inl rfl | exact Or.inr rfl) (S.pe_mkS T.mk_Profile G_Profile___init__ (hr.mono (by decide)) rfl T.g_Profile (kb_Profile___init___3 T).choose_spec (S.pasE (takes_of rfl rfl rfl rfl)) (pa_cons (pv 0) (pa_cons (S.pe_mkS T.mk_Sampler G_Sampler___init__ (hr.mono (by decide)) rfl T.g_Sampler (kb_Sampler___init___2 T).choose_spec S.pas0 (pa_cons (pv 2) pa_nil) pk_nil rfl rfl) pa_nil)) pk_nil rfl rfl))
      (pss_cons (ps_for (S.own_of rfl) rfl (pi_range1 rfl T.n_range (pa_cons (pv 3) pa_nil)) (pg_name (i := 6) sc__law_profile_fits.nd rfl (by first | exact Or.inl rfl | exact Or.inr rfl))
        (pss_cons (ps_set (i := 7) sc__law_profile_fits.nd rfl (by first | exact Or.inl rfl | exact Or.inr rfl) (pe_cmpR op_eq (pe_op op_mod (pe_callTy call_int1 rfl T.n_int S.boot_int (pa_cons (pv 6) pa_nil)) (pv 2)) pe_int (nomark _)))
      (pss_cons (ps_set (i := 8) sc__law_profile_fits.nd rfl (by first | exact Or.inl rfl | exact Or.inr rfl) pe_non)
      (S.pss_cut (ps_if (PW.pt (pw_and (pt_val (pv 7)) (pw_and1 (pt_val (pv 4))))) (pss_one (ps_set (i := 8) sc__law_profile_fits.nd rfl (by first | exact Or.inl rfl | exact Or.inr rfl) pe_str)) pss_nil)
      (pss_cons (ps_set (i := 9) sc__law_profile_fits.nd rfl (by first | exact Or.inl rfl | exact Or.inr rfl) pe_non)
      (S.pss_cut (ps_if (pt_cmpR op_eq (pe_op op_mod (pe_callTy call_int1 rfl T.n_int S.boot_int (pa_cons (pv 6) pa_nil)) (pv 1)) pe_int (nomark _)) (pss_one (ps_set (i := 9) sc__law_profile_fits.nd rfl (by first | exact Or.inl rfl | exact Or.inr rfl) pe_str)) pss_nil)
      (pss_cons (ps_if (PW.pt (pw_and (pt_cmpR op_lt (pv 6) pe_int (nomark _)) (pw_and1 (pt_cmpR (S.neGK (K := K) rfl (S.hu64 hr)) (S.pe_fnS G__law_called (hr.mono (by decide)) rfl T.g__law_called T.F__law_called.kp (kb__law_called_2 T) S.pas0 (pa_cons (pv 5) (pa_cons (pe_tup (pa_cons (pv 9) (pa_cons (pv 7) pa_nil))) pa_nil)) pk_nil rfl rfl) (pe_tup (pa_cons pe_str (pa_cons (pv 8) pa_nil))) (nomark _))))) (pss_one (ps_ret pe_bl)) pss_nil)
      (pss_one (ps_if (PW.pt (pw_and (pt_cmpR op_ge (pv 6) pe_int (nomark _)) (pw_and1 (PW.pt (pw_or (pt_cmpR (S.neGK (K := K) rfl (S.hu64 hr)) (S.pe_mtS0 (pv 5) T.cl_Profile T.me_Profile_choices G_Profile_choices (hr.mono (by decide)) (kb_Profile_choices_1 T) S.pas0  pk_nil rfl rfl) (pe_lst pa_nil) (nomark _)) (pw_or1 (pt_cmpR (S.neGK (K := K) rfl (S.hu64 hr)) (S.pe_fnS G__law_called (hr.mono (by decide)) rfl T.g__law_called T.F__law_called.kp (kb__law_called_2 T) S.pas0 (pa_cons (pv 5) (pa_cons (pe_tup (pa_cons (pv 9) (pa_cons (pv 7) pa_nil))) pa_nil)) pk_nil rfl rfl) (pe_tup (pa_cons pe_str (pa_cons pe_int pa_nil))) (nomark _)))))))) (pss_one (ps_ret pe_bl)) pss_nil)))))))))
      (pss_cons (ps_set (i := 10) sc__law_profile_fits.nd rfl (by first | exact Or.inl rfl | exact Or.inr rfl) (S.pe_mtS0 (pv 5) T.cl_Profile T.me_Profile_record G_Profile_record (hr.mono (by decide)) (kb_Profile_record_1 T) S.pas0  pk_nil rfl rfl))
      (pss_one (ps_ret (pe_and (pe_cmpR op_eq (S.pe_fldK (K := K) rfl (pv 5) rfl) (pe_callB (S.minK (K := K) rfl rfl) rfl T.n_min S.boot_min (pa_cons (pe_lst (pa_cons pe_int (pa_cons (pe_callTy call_int1 rfl T.n_int S.boot_int (pa_cons (pv 3) pa_nil)) pa_nil))) pa_nil)) (nomark _)) (pe_and (pe_cmpR op_eq (S.pe_fldK (K := K) rfl (pv 10) rfl) (S.pe_fldK (K := K) rfl (pv 5) rfl) (nomark _)) (pe_one (pe_cmpR op_eq (pe_callB (S.lenK (K := K) rfl) rfl T.n_len S.boot_len (pa_cons (S.pe_mtS0 (pv 5) T.cl_Profile T.me_Profile_path G_Profile_path (hr.mono (by decide)) (kb_Profile_path_1 T) S.pas0  pk_nil rfl rfl) pa_nil)) (S.pe_fldK (K := K) rfl (pv 5) rfl) (nomark _)))))))))), ?_⟩
  obtain ⟨_, _, _, _, _, rfl, pg, rows, sz, sc, N, op, rfl, hg, ok, ev, rfl, rfl, rfl, rfl, s1, s6, c1, c8, n1, n2, q⟩ := h
  have e0 : ∀ b : Addr, b ∉ ([] : List Addr) := fun _ h => by cases h
  refine ⟨_, rfl, _, rfl, rfl, rfl, fun sm dxs nps ndxs nes => ?_⟩
  have sS : Same H (upd (upd H dxs (.own sm)) sm (.ins (He.ga K "Sampler") dxs [])) := Same.upd (Same.new ndxs) nps
  have okm : okSm ⟨(sc : Int), 0, some 0⟩ := ⟨by show (1 : Int) ≤ sc; omega, by show (sc : Int) ≤ 8; omega, Int.le_refl _, by show (0 : Int) < sc; omega, fun i h => by cases h; exact ⟨Int.le_refl _, by show (0 : Int) < sc; omega⟩⟩
  refine ⟨_, _, _, _, rfl, sm, dxs, ⟨(sc : Int), 0, some 0⟩, rfl, upd_same, okm, rfl, rfl, rfl, fun H1 k1 hm1 => ⟨rfl, ?_⟩⟩
  have sH1 : Same H H1 := same_kp sS nps k1
  refine ⟨rfl, rfl, fun p dx np ndx ne => ?_⟩
  have sP : Same H1 (upd (upd H1 dx (.own p)) p (.ins (He.ga K "Profile") dx [])) := Same.upd (Same.new ndx) np
  refine ⟨_, _, _, _, rfl, p, dx, pg, sm, rows, "aa", ⟨(sc : Int), 0, some 0⟩, rfl, upd_same, rfl, (hg.same sH1).same sP, rfl, hm1.same sP,   .non, (fun c => by cases c), fun _ H2 k2 pf2 => ⟨rfl, ?_⟩⟩
  have sH2 : Same H1 H2 := same_kp sP np k2
  have sH02 := sH1.trans sH2
  have nP : H p = none := sH1.free np
  have mem : ("aa" : Str) ∈ rNames rows := by
    rw [← vw_nm, ev]
    exact List.mem_cons_self
  refine ⟨_, rfl, _, rfl, by omega, by omega, for_range (n := N) (fun i σ J => Same H J ∧ ∃ (hs : List Cho) (v7 v8 v9 : Option V), PfA K J p rows "aa" ⟨(sc : Int), 0, some 0⟩ 0 (stO sz sc op (min i 2000)) ((min i 2000 : Nat) : Int) hs ∧ hs.length = min i 2000 ∧ okH (vw rows) hs ∧ (∃ v6, σ = [some (.ref pg), some (.int (sz : Int)), some (.int (sc : Int)), some (.int (N : Int)), some (.bl op), some (.ref p), v6, v7, v8, v9, none])) ⟨sH02, [], _, _, _, pf2, rfl, ⟨(fun c h => by cases h), (fun c h => by cases h)⟩, _, rfl⟩ ?_ ?_⟩
  · rintro i σ J hi ⟨sJ, hs, v7, v8, v9, pf, lh, oh, v6, rfl⟩
    have elk : decide (V.int ((0 + (i : Int)) % (sc : Int)) = V.int 0) = lkC sc i := by
      unfold lkC
      rw [Int.zero_add, dec_int, show (i : Int) % (sc : Int) = ((i % sc : Nat) : Int) from (Int.natCast_emod i sc).symm, Bool.eq_iff_iff]
      simp
      omega
    have emv : decide (V.int ((i : Int) % (sz : Int)) = V.int 0) = decide (i % sz = 0) := by
      rw [dec_int, show (i : Int) % (sz : Int) = ((i % sz : Nat) : Int) from (Int.natCast_emod i sz).symm, Bool.eq_iff_iff]
      simp
      omega
    refine ⟨_, rfl, .inl ⟨_, rfl, _, rfl, _, _, rfl, rfl, by omega, rfl, ?_⟩⟩
    refine ⟨fun σ J' => J' = J ∧ σ = [some (.ref pg), some (.int (sz : Int)), some (.int (sc : Int)), some (.int (N : Int)), some (.bl op), some (.ref p), some (.int (i : Int)), some (.bl (lkC sc i)), some (ntV (lkC sc i && op)), v9, none], ?_, ?_⟩
    · show tIfS _ _ _ _ [some (.ref pg), some (.int (sz : Int)), some (.int (sc : Int)), some (.int (N : Int)), some (.bl op), some (.ref p), some (.int (0 + (i : Int))), some (.bl (decide (V.int ((0 + (i : Int)) % (sc : Int)) = V.int 0))), some .non, v9, none] J
      rw [elk, Int.zero_add]
      generalize lkC sc i = L
      cases L with
      | false => exact ⟨_, rfl, _, rfl, iteF (iteF ⟨rfl, rfl⟩)⟩
      | true =>
        refine ⟨_, rfl, _, rfl, iteT ⟨_, rfl, _, rfl, ?_⟩⟩
        cases op with
        | false => exact iteF ⟨rfl, rfl⟩
        | true => exact iteT ⟨rfl, rfl⟩
    rintro σ J' ⟨rfl, rfl⟩
    refine ⟨fun σ J2 => J2 = J' ∧ σ = [some (.ref pg), some (.int (sz : Int)), some (.int (sc : Int)), some (.int (N : Int)), some (.bl op), some (.ref p), some (.int (i : Int)), some (.bl (lkC sc i)), some (ntV (lkC sc i && op)), some (mvV (mvC sz i)), none], ?_, ?_⟩
    · refine ⟨_, rfl, .inl ⟨_, rfl, _, rfl, _, _, rfl, rfl, by omega, rfl, _, rfl, ?_⟩⟩
      rw [emv]
      unfold mvC
      by_cases c : i % sz = 0
      · rw [if_pos c]
        exact iteY (decide_eq_true c) ⟨rfl, rfl⟩
      · rw [if_neg c]
        exact iteN (by simpa using c) ⟨rfl, rfl⟩
    rintro σ J2 ⟨rfl, rfl⟩
    have tupc : ∀ {J : Hp} {ca : Addr}, J ca = none → ChA (upd J ca (.tup [mvV (mvC sz i), .bl (lkC sc i)])) ca (mvC sz i, lkC sc i) := fun {J ca} h => upd_same
    refine ⟨_, rfl, _, _, rfl, rfl, _, rfl, ?_⟩
    by_cases c : i < 2000
    · have em : min i 2000 = i := by omega
      rw [em] at pf lh
      refine iteY (by simp; omega) ?_
      refine ⟨_, rfl, _, rfl, _, rfl, by show 2 ≤ sizeLine; decide, fun ca hca => ?_⟩
      have sc1 := Same.new (o := .tup [mvV (mvC sz i), .bl (lkC sc i)]) hca
      have mv := mov_long (sz := sz) (sc := sc) (op := op) (m := ⟨(sc : Int), 0, some 0⟩) rfl rfl (by omega) s6 (by omega) i
      rw [← ev] at mv
      refine ⟨rfl, rfl, _, _, rfl, p, rows, "aa", ⟨(sc : Int), 0, some 0⟩, 0, stO sz sc op i, (i : Int), hs, ca, (mvC sz i, lkC sc i), rfl, pf.same sc1, okm, rfl, upd_same, .inr ⟨by omega, ok, mem, by omega, fun s' h => ?_, _, mv, fun o H' kp np' pf' eo => ?_⟩⟩
      · cases i with
        | zero => cases h
        | succ k =>
          cases h
          exact mem
      have sH' : Same H H' := same_kp (sJ.trans sc1) nP kp
      have eo' : H' o = some (.tup [.str "told", ntV (lkC sc i && op)]) := eo
      refine ⟨_, rfl, by show 2 ≤ sizeLine; decide, fun to hto => ?_⟩
      have st := Same.new (o := .tup [.str "told", ntV (lkC sc i && op)]) hto
      refine ⟨30, true, by decide, (eg_told (st _ _ eo') upd_same).ne, _, rfl, iteN (by decide) ?_⟩
      refine ⟨_, rfl, _, _, rfl, rfl, _, rfl, ?_⟩
      refine iteN (by simp; omega) (iteN (by decide) ?_)
      have em2 : min (i + 1) 2000 = i + 1 := by omega
      refine ⟨sH'.trans st, hs ++ [(mvC sz i, lkC sc i)], _, _, _, ?_, by rw [List.length_append, lh, em2]; rfl, ⟨fun c hc0 => ?_, fun c hc0 n hn => ?_⟩, _, rfl⟩
      · rw [em2]
        exact pf'.same st
      · cases i with
        | zero =>
          have : hs = [] := List.length_eq_zero_iff.mp lh
          subst this
          cases hc0
          unfold mvC
          simp
        | succ k =>
          rw [List.getElem?_append_left (by omega)] at hc0
          exact oh.1 _ hc0
      · rcases List.mem_append.mp hc0 with h | h
        · exact oh.2 c h n hn
        · rw [List.mem_singleton.mp h] at hn
          have : mvC sz i = some n := hn
          unfold mvC at this
          split at this
          · cases this
            rw [vw_nm]
            exact mem
          · cases this
    · have em : min i 2000 = 2000 := by omega
      have em2 : min (i + 1) 2000 = 2000 := by omega
      rw [em] at pf lh
      rw [em2]
      refine iteN (by simp; omega) (iteN (by decide) ?_)
      refine ⟨_, rfl, _, _, rfl, rfl, _, rfl, ?_⟩
      refine iteY (by simp; omega) ?_
      obtain ⟨pdx, ppg, psm, psv, phi, pcs, F, pecs⟩ := id pf
      refine ⟨_, rfl, p, pdx, _, rfl, F.at_, lf_none _ _ _ _ _ _ _ (by decide +kernel), rfl, rfl, _, rfl, p, rows, "aa", ⟨(sc : Int), 0, some 0⟩, 0, _, _, hs, rfl, pf, okm, rfl, fun L3 J3 s3 e3 => ?_⟩
      refine ⟨by show 0 ≤ sizeLine; decide, fun L4 h4 => ?_⟩
      have s4 := Same.new (o := .lst []) h4
      refine ⟨30, true, by decide, (eg_nils (s4 _ _ e3) upd_same).ne, _, rfl, iteN (by decide) ?_⟩
      have s34 := s3.trans s4
      generalize upd J3 L4 (.lst []) = J4 at s34
      refine ⟨_, rfl, _, rfl, _, rfl, by show 2 ≤ sizeLine; decide, fun ca hca => ?_⟩
      have sc1 := Same.new (o := .tup [mvV (mvC sz i), .bl (lkC sc i)]) hca
      refine ⟨rfl, rfl, _, _, rfl, p, rows, "aa", ⟨(sc : Int), 0, some 0⟩, 0, _, _, hs, ca, (mvC sz i, lkC sc i), rfl, (pf.same s34).same sc1, okm, rfl, upd_same, .inl ⟨rfl, fun o H' s5 eo => ?_⟩⟩
      refine ⟨by show 2 ≤ sizeLine; decide, fun to hto => ?_⟩
      have st := Same.new (o := .tup [.str "bad", .int 2000]) hto
      refine ⟨30, true, by decide, (eg_bad (st _ _ eo) upd_same).ne, _, rfl, iteN (by decide) ?_⟩
      have sAll := ((s34.trans sc1).trans s5).trans st
      exact ⟨sJ.trans sAll, hs, _, _, _, pf.same sAll, lh, oh, _, rfl⟩
  · rintro σ J ⟨sJ, hs, v7, v8, v9, pf, lh, oh, v6, rfl⟩
    have lt : hs.length ≤ 2000 := by omega
    obtain ⟨pdx, ppg, psm, psv, phi, pcs, F, pecs⟩ := id pf
    refine ⟨_, rfl, p, pdx, _, rfl, F.at_, lf_none _ _ _ _ _ _ _ (by decide +kernel), rfl, rfl, _, rfl, p, rows, "aa", ⟨(sc : Int), 0, some 0⟩, 0, _, _, hs, rfl, pf, ok, oh, lt, fun b dxb D Nb vs H3 nb nN s3 rc lv => ?_⟩
    have F3 := F.same s3
    refine ⟨_, rfl, p, _, pdx, _, _, rfl, F3.at_, T.cl_Profile, T.na_Profile_ticks, lf_ticks _ _ _ _ _ _ _, _, rfl, .inl ⟨_, rfl, by show 2 ≤ sizeLine; decide, fun ml hml => ?_⟩⟩
    have sm1 := Same.new (o := .lst [V.int 2000, V.int (N : Int)]) hml
    refine ⟨ml, [2000, (N : Int)], rfl, .inl (.inl upd_same), by simp, fun mm hm hle => ⟨rfl, _, rfl, ?_⟩⟩
    have emm : mm = ((min N 2000 : Nat) : Int) := by
      have h1 := hle 2000 (by simp)
      have h2 := hle (N : Int) (by simp)
      simp at hm
      omega
    refine iteY (by rw [emm]; simp) ?_
    generalize upd H3 ml (.lst [V.int 2000, V.int (N : Int)]) = H4 at sm1
    have rc4 := rc.same sm1
    have F4 := F3.same sm1
    have et : (recH (vw rows) hs).2.t = ((min N 2000 : Nat) : Int) := by
      have := recH_t (vw rows) hs hs.length (Nat.le_refl _)
      rw [List.take_length, lh] at this
      exact this
    refine ⟨_, rfl, b, _, dxb, _, _, rfl, rc4.at_, T.cl_Record, T.na_Record_ticks, lr_ticks _ _ _ _ _, _, rfl, p, _, pdx, _, _, rfl, F4.at_, T.cl_Profile, T.na_Profile_ticks, lf_ticks _ _ _ _ _ _ _, rfl, _, rfl, ?_⟩
    refine iteY (by rw [et]; simp) ?_
    refine ⟨_, rfl, p, pdx, _, rfl, F4.at_, lf_none _ _ _ _ _ _ _ (by decide +kernel), rfl, rfl, _, rfl, p, rows, "aa", ⟨(sc : Int), 0, some 0⟩, 0, _, _, hs, rfl, (pf.same s3).same sm1, by omega, fun L cs H5 nL s5 eL hcs ecs => ?_⟩
    have F5 := F4.same s5
    refine ⟨_, _, rfl, lenVX (.inl (.inl (.inl eL))), _, rfl, p, _, pdx, _, _, rfl, F5.at_, T.cl_Profile, T.na_Profile_ticks, lf_ticks _ _ _ _ _ _ _, rfl, ?_⟩
    have lcs : cs.length = min N 2000 := by rw [← lh, ← ecs, List.length_map]
    rw [List.length_map, lcs, decide_eq_true rfl]
    exact q H5 (((sJ.trans s3).trans sm1).trans s5)
end
end W

namespace W
open PySem PySem.Spec PyProof.Rows L2
/-! the stays and the looks of the long run (plain) -/
open S
def ysL (sz N : Nat) : List Sy := List.replicate (N / sz) (("aa" : Str), (sz : Int)) ++ if 0 < N % sz then [(("aa" : Str), ((N % sz : Nat) : Int))] else []
theorem ysL_mem {sz N : Nat} (s1 : 1 ≤ sz) (s6 : sz ≤ 6) : ∀ y ∈ ysL sz N, y.1 = "aa" ∧ 1 ≤ y.2 ∧ y.2 ≤ 6 := fun y hy => by
  unfold ysL at hy
  have l := Nat.mod_lt N (show 0 < sz by omega)
  rcases List.mem_append.mp hy with h | h
  · rw [(List.mem_replicate.mp h).2]
    exact ⟨rfl, by show (1 : Int) ≤ sz; omega, by show (sz : Int) ≤ 6; omega⟩
  · split at h
    · rw [List.mem_singleton.mp h]
      exact ⟨rfl, by show (1 : Int) ≤ ((N % sz : Nat) : Int); omega, by show ((N % sz : Nat) : Int) ≤ 6; omega⟩
    · cases h
theorem sum_rep (n : Nat) (x : Int) : (List.replicate n x).sum = (n : Int) * x := by
  induction n with
  | zero => simp
  | succ n ih =>
    rw [List.replicate_succ, List.sum_cons, ih]
    grind
theorem ysL_ticks (sz N : Nat) : ticksOf (ysL sz N) = (N : Int) := by
  unfold ticksOf ysL
  rw [List.map_append, sum_app, List.map_replicate, sum_rep]
  have e := Nat.div_add_mod N sz
  have e2 : ((N / sz : Nat) : Int) * (sz : Int) = ((sz * (N / sz) : Nat) : Int) := by rw [Int.natCast_mul, Int.mul_comm]
  show ((N / sz : Nat) : Int) * (sz : Int) + _ = _
  rw [e2]
  by_cases c : 0 < N % sz
  · rw [if_pos c]
    show _ + (((N % sz : Nat) : Int) + 0) = _
    omega
  · rw [if_neg c]
    show _ + (0 : Int) = _
    omega
theorem ysL_ok {sz N : Nat} {op : Bool} (s1 : 1 ≤ sz) (s6 : sz ≤ 6) : okSy (vL sz op) "aa" (ysL sz N) where
  first := fun y h => (ysL_mem s1 s6 y (List.mem_of_getElem? h)).1
  next := fun i y z h1 h2 => by
    obtain ⟨e1, _, _⟩ := ysL_mem s1 s6 y (List.mem_of_getElem? h1)
    obtain ⟨e2, _, _⟩ := ysL_mem s1 s6 z (List.mem_of_getElem? h2)
    rw [e1, e2, nxL]
    refine ⟨List.mem_cons_self, ?_⟩
    have hl : i + 1 < (ysL sz N).length := (List.getElem?_eq_some_iff.mp h2).1
    have hr : i < N / sz := by
      unfold ysL at hl
      rw [List.length_append, List.length_replicate] at hl
      split at hl <;> simp at hl <;> omega
    have e : y = (("aa" : Str), (sz : Int)) := by
      unfold ysL at h1
      rw [List.getElem?_append_left (by rw [List.length_replicate]; exact hr), List.getElem?_replicate, if_pos hr] at h1
      cases h1
      rfl
    subst e
    unfold syOk
    rw [plL]
    exact ⟨Int.le_refl _, by show (sz : Int) ≤ 6; omega⟩
  last := fun y h => by
    obtain ⟨e1, h1, h2⟩ := ysL_mem s1 s6 y (List.mem_of_getLast? h)
    rw [e1, plL]
    exact ⟨h1, h2⟩
  names := fun y h => by
    rw [(ysL_mem s1 s6 y h).1]
    exact List.mem_cons_self
theorem many_add (l : Vw) (p f : Int) (ls : List (Option Int)) (n : Str) (R : Rc) (a : Nat) : ∀ b, manyR l p f ls n (a + b) R = manyR l p f ls n b (manyR l p f ls n a R)
  | 0 => rfl
  | b + 1 => by
    show tickR l p f ls n (manyR l p f ls n (a + b) R) = tickR l p f ls n (manyR l p f ls n b (manyR l p f ls n a R))
    rw [many_add l p f ls n R a b]
theorem play_all (l : Vw) (p f : Int) (ls : List (Option Int)) (n : Str) : ∀ (ys : List Sy) (R : Rc), (∀ y ∈ ys, y.1 = n ∧ 0 ≤ y.2) → ys.foldl (fun R y => manyR l p f ls y.1 y.2.toNat R) R = manyR l p f ls n (ticksOf ys).toNat R
  | [], R, _ => rfl
  | y :: ys, R, h => by
    obtain ⟨e, h0⟩ := h y List.mem_cons_self
    have h2 := fun z hz => h z (List.mem_cons_of_mem _ hz)
    rw [List.foldl_cons, play_all l p f ls n ys _ h2, e, ← many_add]
    have nn := ticks_nn ys fun z hz => (h2 z hz).2
    have et : ticksOf (y :: ys) = y.2 + ticksOf ys := rfl
    rw [et, Int.toNat_add h0 nn]
/-- the slots of a run of N ticks -/
def slC (sc N : Nat) : Nat := (N - 1) / sc + 1
theorem cnt_slC {sc N : Nat} (c1 : 1 ≤ sc) (n1 : 1 ≤ N) : cnt sc N = slC sc N := by
  unfold cnt slC
  rw [show N + sc - 1 = (N - 1) + sc by omega, Nat.add_div_right _ (by omega)]
theorem rec_long {sz sc N : Nat} {op : Bool} (s1 : 1 ≤ sz) (s6 : sz ≤ 6) (c1 : 1 ≤ sc) (n1 : 1 ≤ N) : LongR sc op N (playR (vL sz op) (sc : Int) 0 (List.replicate (slC sc N) (some 0)) (ysL sz N)) := by
  unfold playR
  rw [play_all _ _ _ _ "aa" _ _ fun y hy => by
    obtain ⟨h1, h2, _⟩ := ysL_mem s1 s6 y hy
    exact ⟨h1, by omega⟩]
  rw [ysL_ticks, Int.toNat_natCast]
  refine many_long (N := N) (by omega) (fun t ht => ?_) N (Nat.le_refl _)
  rw [List.getElem?_replicate, if_pos]
  unfold slC
  have := Nat.div_le_div_right (c := sc) (show t ≤ N - 1 by omega)
  omega
theorem last_slot {sc N : Nat} (n1 : 1 ≤ N) : (0 + (N : Int) - 1) / (sc : Int) = (((N - 1) / sc : Nat) : Int) := by
  rw [Int.natCast_ediv]
  congr 1
  omega
theorem fit0 {sc N : Nat} {m : Sm} (hp : m.p = (sc : Int)) (hj : m.j = 0) (c1 : 1 ≤ sc) (i : Nat) : fitV (.int 0) (lowOf 0 i) (hiOf m 0 (N : Int) i) m.j = true ∧ fitV (.bl true) (lowOf 0 i) (hiOf m 0 (N : Int) i) m.j = false := by
  have e : lowOf 0 i = 0 := by unfold lowOf; split <;> rfl
  have hi : 0 ≤ hiOf m 0 (N : Int) i := by
    unfold hiOf
    rw [hp]
    split
    · exact Int.emod_nonneg _ (by omega)
    · omega
  rw [e, hj]
  unfold fitV
  refine ⟨?_, ?_⟩
  · rw [if_neg (by decide), if_neg (by decide), if_neg (by omega)]
    rfl
  · rw [if_neg (by decide), if_neg (by decide), if_neg (by omega)]
    rfl
theorem look_ok {sc N : Nat} {m : Sm} (hp : m.p = (sc : Int)) (hj : m.j = 0) (c1 : 1 ≤ sc) (n1 : 1 ≤ N) : lookBad m 0 (N : Int) (some ((List.replicate (slC sc N) (some (0 : Int))).map lkV)) = none := by
  unfold lookBad
  simp only
  rw [if_pos (by rw [hp, last_slot n1, List.length_map, List.length_replicate]; unfold slC; exact Int.natCast_succ _)]
  have ef : (List.range ((List.replicate (slC sc N) (some (0 : Int))).map lkV).length).find? (lkBad m 0 (N : Int) ((List.replicate (slC sc N) (some (0 : Int))).map lkV)) = none := by
   rw [List.find?_eq_none]
   intro i hi
   unfold lkBad
   rw [List.map_replicate, List.getElem?_replicate]
   split
   · rename_i v hv
     split at hv
     · cases hv
       have := (fit0 (N := N) hp hj c1 i).1
       show ¬ ((!fitV (.int 0) _ _ _) = true)
       rw [this]
       decide
     · cases hv
   · decide
  rw [ef]
  rfl
theorem look_no {sc N : Nat} {m : Sm} (hp : m.p = (sc : Int)) (hj : m.j = 0) (c1 : 1 ≤ sc) (n1 : 1 ≤ N) : lookBad m 0 (N : Int) (some (List.replicate (slC sc N - 1) (V.int 0) ++ [V.bl true])) = some ((slC sc N - 1 : Nat) : Int) := by
  have s1 : 1 ≤ slC sc N := Nat.succ_le_succ (Nat.zero_le _)
  have len : (List.replicate (slC sc N - 1) (V.int 0) ++ [V.bl true]).length = slC sc N := by simp; omega
  unfold lookBad
  simp only
  rw [if_pos (by rw [hp, last_slot n1, len]; unfold slC; exact Int.natCast_succ _), len]
  have h1 : ∀ i, i < slC sc N - 1 → lkBad m 0 (N : Int) (List.replicate (slC sc N - 1) (V.int 0) ++ [V.bl true]) i = false := fun i hi => by
    unfold lkBad
    rw [List.getElem?_append_left (by rw [List.length_replicate]; exact hi), List.getElem?_replicate, if_pos hi]
    show (!fitV (.int 0) _ _ _) = false
    rw [(fit0 (N := N) hp hj c1 i).1]
    rfl
  have h2 : lkBad m 0 (N : Int) (List.replicate (slC sc N - 1) (V.int 0) ++ [V.bl true]) (slC sc N - 1) = true := by
    unfold lkBad
    rw [List.getElem?_append_right (by rw [List.length_replicate]; exact Nat.le_refl _), List.length_replicate, Nat.sub_self]
    show (!fitV (.bl true) _ _ _) = true
    rw [(fit0 (N := N) hp hj c1 _).2]
    rfl
  have ef : (List.range (slC sc N)).find? (lkBad m 0 (N : Int) (List.replicate (slC sc N - 1) (V.int 0) ++ [V.bl true])) = some (slC sc N - 1) := by
    have er : List.range (slC sc N) = List.range (slC sc N - 1) ++ [slC sc N - 1] := by
      conv => lhs; rw [show slC sc N = (slC sc N - 1) + 1 by omega]
      rw [List.range_succ]
    rw [er, List.find?_append]
    have e1 : (List.range (slC sc N - 1)).find? (lkBad m 0 (N : Int) (List.replicate (slC sc N - 1) (V.int 0) ++ [V.bl true])) = none := by
      rw [List.find?_eq_none]
      intro i hi
      rw [h1 i (List.mem_range.mp hi)]
      decide
    rw [e1, List.find?_cons_of_pos h2]
    rfl
  rw [ef]
  rfl
end W

namespace W
open PySem PySem.Spec PyProof.Rows L2
section
variable {P : Program} {w : World} {K : S.Frag} {mg : Str → Option Value} {base : Heap}
open S
def rowsL (pa ta pb tb : Addr) (l : Int) (op : Bool) : List Rw := [⟨pa, ⟨"aa", l, 6, op⟩, ta, ["aa", "b"]⟩, ⟨pb, ⟨"b", 1, 6, true⟩, tb, ["b"]⟩]
theorem rowsL_ok {pa ta pb tb : Addr} {l : Int} {op : Bool} (h1 : 1 ≤ l) (h6 : l ≤ 6) : okRows (rowsL pa ta pb tb l op) where
  l1 := by show 1 ≤ 2; decide
  l6 := by show 2 ≤ 6; decide
  nd := by show (["aa", "b"] : List Str).Nodup; decide
  pl := fun r hr => by
    rcases List.mem_cons.mp hr with rfl | hr
    · exact ⟨by show isNm "aa" = true; decide +kernel, h1, h6, by show (6 : Int) ≤ 6; decide⟩
    · rw [List.mem_singleton.mp hr]
      exact ⟨by show isNm "b" = true; decide +kernel, by show (1 : Int) ≤ 1; decide, by show (1 : Int) ≤ 6; decide, by show (6 : Int) ≤ 6; decide⟩
  nx := fun r hr => by
    rcases List.mem_cons.mp hr with rfl | hr
    · exact ⟨by show (["aa", "b"] : List Str).Nodup; decide, fun z hz => hz⟩
    · rw [List.mem_singleton.mp hr]
      exact ⟨by show (["b"] : List Str).Nodup; decide, fun z hz => by
        rw [List.mem_singleton.mp hz]
        show ("b" : Str) ∈ (["aa", "b"] : List Str)
        decide⟩
theorem lk_inj {l l' : List (Option Int)} (h : l.map lkV = l'.map lkV) : l = l' := by
  refine (List.map_inj_right fun x y e => ?_).mp h
  cases x <;> cases y <;> simp_all [lkV]
def tlT (N sl : Nat) (op : Bool) (D : Addr) : List V := [.str "told", .int (N : Int), .ref D, .int (if op then (sl : Int) else 0), .int (if op then 0 else ((sl - 1 : Nat) : Int)), .bl (!op)]
/-- what comes of the law's run -/
def OutA (H : Hp) (o : Addr) (N sl : Nat) (op : Bool) : Prop :=
  (2000 < N ∧ H o = some (.tup [.str "long", .bl true, .bl false])) ∨
  (N ≤ 2000 ∧ ∃ D, H D = some (.dK [(.inr "aa", .int (N : Int)), (.inr "b", .int 0)]) ∧ H o = some (.tup (tlT N sl op D)))
theorem OutA.same {H H' : Hp} {o : Addr} {N sl : Nat} {op : Bool} (h : OutA H o N sl op) (s : Same H H') : OutA H' o N sl op := by
  rcases h with ⟨h1, h2⟩ | ⟨h1, D, h2, h3⟩
  · exact .inl ⟨h1, s _ _ h2⟩
  · exact .inr ⟨h1, D, s _ _ h2, s _ _ h3⟩
theorem out_of {H : Hp} {o : Addr} {sz sc N : Nat} {op : Bool} {m : Sm} (hp : m.p = (sc : Int)) (hj : m.j = 0) (z1 : 1 ≤ sz) (z6 : sz ≤ 6) (c1 : 1 ≤ sc) (n1 : 1 ≤ N)
    (h : ToldA H o (lookBad m 0 (N : Int) (some (List.replicate (slC sc N) (V.int 0)))) (N : Int) (some (List.replicate (slC sc N) (V.int 0))) ["aa", "b"] (fun ls => playR (vL sz op) m.p 0 ls (ysL sz N))) : OutA H o N (slC sc N) op := by
  have ex : List.replicate (slC sc N) (V.int 0) = (List.replicate (slC sc N) (some (0 : Int))).map lkV := by rw [List.map_replicate]; rfl
  rw [ex] at h
  rcases h with ⟨i, h1, _⟩ | ⟨_, h1, h2⟩ | ⟨ls, D, _, h1, h2, h3, h4⟩
  · rw [look_ok hp hj c1 n1] at h1
    cases h1
  · exact .inl ⟨by omega, h2⟩
  · injection h1 with h1
    have el := lk_inj h1
    subst el
    rw [hp] at h3 h4
    dsimp only at h3 h4
    obtain ⟨r1, r2, r3, r4, r5, r6⟩ := rec_long (sz := sz) (op := op) z1 z6 c1 n1
    generalize playR (vL sz op) (sc : Int) 0 (List.replicate (slC sc N) (some 0)) (ysL sz N) = R at h3 h4 r1 r2 r3 r4 r5 r6
    rw [cnt_slC c1 n1] at r4 r6
    refine .inr ⟨by omega, D, ?_, ?_⟩
    · rw [h3]
      show some (HO.dK [(.inr "aa", V.int (R.tm "aa")), (.inr "b", V.int (R.tm "b"))]) = _
      rw [r2, r3]
    · rw [h4]
      show some (HO.tup [.str "told", V.int R.t, .ref D, .int (R.ns.length : Int), .int R.lo, .bl R.wt]) = _
      rw [r1, r4, r5, r6]
      unfold tlT
      have n0 : decide (0 < N) = true := decide_eq_true (by omega)
      rw [n0, Bool.and_true]
      cases op <;> rfl
theorem eg_tup3 {H : Hp} {o t : Addr} {xs : List V} {ds : List PyData} (h1 : H o = some (.tup xs)) (h2 : H t = some (.tup xs)) (hd : DpAll K H xs ds) (pl : (PyData.tuple ds).plain = true) (l : (PyData.tuple ds).depth ≤ 20) : EqG K H 30 (.ref o) (.ref t) true := by
  have e := eg_dat (K := K) (.tup (.inl (.inl h1)) hd) (.tup (.inl (.inl h2)) hd) pl pl
  exact (e.to (SeqAt.eqv_refl_plain _ pl)).up (by omega)
theorem sc_int {H : Hp} (i : Int) : EqOk K H 20 (.int i) (.int i) true := ((eg_dat (K := K) (H := H) (.int i) (.int i) rfl rfl).to (SeqAt.eqv_refl_plain _ rfl)).at_.up (by simp [PyData.depth])
theorem sc_str {H : Hp} (i : Str) : EqOk K H 20 (.str i) (.str i) true := ((eg_dat (K := K) (H := H) (.str i) (.str i) rfl rfl).to (SeqAt.eqv_refl_plain _ rfl)).at_.up (by simp [PyData.depth])
theorem sc_bl {H : Hp} (i : Bool) : EqOk K H 20 (.bl i) (.bl i) true := ((eg_dat (K := K) (H := H) (.bl i) (.bl i) rfl rfl).to (SeqAt.eqv_refl_plain _ rfl)).at_.up (by simp [PyData.depth])
def kvT (N : Int) : List (Key × V) := [(.inr "aa", .int N), (.inr "b", .int 0)]
theorem fin_eq {H : Hp} {o t D D2 : Addr} {N n l : Int} {b : Bool} (ho : H o = some (.tup [.str "told", .int N, .ref D, .int n, .int l, .bl b])) (ht : H t = some (.tup [.str "told", .int N, .ref D2, .int n, .int l, .bl b])) (hD : H D = some (.dK (kvT N))) (hD2 : H D2 = some (.dK (kvT N))) (ne : D ≠ D2) : RcOk K H 22 (.ref o) (.ref t) true := by
  have hv : hitsV (fun _ _ => true) (kvT N) (kvT N) = true := rfl
  have ed : EqI K H 21 (.ref D) (.ref D2) true := by
    have := ei_dict (K := K) (n := 20) (f := fun _ _ => true) hD hD2 ne (fun p hp z hz => by
      rcases List.mem_cons.mp hp with rfl | hp
      · have : z = .int N := by
          have e : valV (kvT N) (.inr "aa") = some (.int N) := rfl
          rw [e] at hz
          cases hz
          rfl
        rw [this]
        exact sc_int N
      · rw [List.mem_singleton.mp hp] at hz ⊢
        have : z = .int 0 := by
          have e : valV (kvT N) (.inr "b") = some (.int 0) := rfl
          rw [e] at hz
          cases hz
          rfl
        rw [this]
        exact sc_int 0)
    exact this.to (by rw [hv]; simp)
  have h := rc_tupI (K := K) (n := 21) (e := fun _ => true) (.inl (.inl ho)) (.inl (.inl ht)) (fun i p q hp hq => by
    match i, hp, hq with
    | 0, hp, hq => cases hp; cases hq; exact (sc_str _).inn.up (by decide)
    | 1, hp, hq => cases hp; cases hq; exact (sc_int _).inn.up (by decide)
    | 2, hp, hq => cases hp; cases hq; exact ed
    | 3, hp, hq => cases hp; cases hq; exact (sc_int _).inn.up (by decide)
    | 4, hp, hq => cases hp; cases hq; exact (sc_int _).inn.up (by decide)
    | 5, hp, hq => cases hp; cases hq; exact (sc_bl _).inn.up (by decide)
    | _ + 6, hp, _ => cases hp)
  exact h
theorem ok_law (T : Txt K mg) : FnOk P w K mg base (L2.CX P w) 11 (He.fAd K ("law", none)) (S.fdA K ("law", none)) ["_law_script"] (spLaw K) := by
  have G__law_cell := ok__law_cell (P := P) (w := w) (base := base) T
  have G__law_take := ok__law_take (P := P) (w := w) (base := base) T
  have G_Place___init__ := ok_Place___init__ (P := P) (w := w) (base := base) T
  have G_Program___init__ := ok_Program___init__ (P := P) (w := w) (base := base) T
  have G__law_told := ok__law_told (P := P) (w := w) (base := base) T
  have G_Sampler___init__ := ok_Sampler___init__ (P := P) (w := w) (base := base) T
  have G__law_profile_fits := ok__law_profile_fits (P := P) (w := w) (base := base) T
  have G__law_is_integer := ok__law_is_integer (P := P) (w := w) (base := base) T
  refine FunD.ok T.F_law sc_law (fun vs H Q E h => S.splen1 h) (fun cdv A outer s H vs Q E hr h => ?_)
  have hu := hu_of hr
  refine ⟨_, (pss_cons (ps_set (i := 1) sc_law.nd rfl (by first | exact Or.inl rfl | exact Or.inr rfl) (pe_lst (pa_cons (S.pe_fnS G__law_cell (hr.mono (by decide)) rfl T.g__law_cell T.F__law_cell.kp (kb__law_cell_2 T) S.pas0 (pa_cons (pv 0) (pa_cons pe_int pa_nil)) pk_nil rfl rfl) pa_nil)))
      (pss_cons (ps_set (i := 2) sc_law.nd rfl (by first | exact Or.inl rfl | exact Or.inr rfl) (pe_op op_add pe_int (S.pe_fnS G__law_take (hr.mono (by decide)) rfl T.g__law_take T.F__law_take.kp (kb__law_take_2 T) S.pas0 (pa_cons (pv 1) (pa_cons pe_int pa_nil)) pk_nil rfl rfl)))
      (pss_cons (ps_set (i := 3) sc_law.nd rfl (by first | exact Or.inl rfl | exact Or.inr rfl) (pe_op op_add pe_int (S.pe_fnS G__law_take (hr.mono (by decide)) rfl T.g__law_take T.F__law_take.kp (kb__law_take_2 T) S.pas0 (pa_cons (pv 1) (pa_cons pe_int pa_nil)) pk_nil rfl rfl)))
      (pss_cons (ps_set (i := 4) sc_law.nd rfl (by first | exact Or.inl rfl | exact Or.inr rfl) (pe_op op_add pe_int (S.pe_fnS G__law_take (hr.mono (by decide)) rfl T.g__law_take T.F__law_take.kp (kb__law_take_2 T) S.pas0 (pa_cons (pv 1) (pa_cons pe_int pa_nil)) pk_nil rfl rfl)))
      (pss_cons (ps_set (i := 5) sc_law.nd rfl (by first | exact Or.inl rfl | exact Or.inr rfl) (pe_cmpR op_eq (S.pe_fnS G__law_take (hr.mono (by decide)) rfl T.g__law_take T.F__law_take.kp (kb__law_take_2 T) S.pas0 (pa_cons (pv 1) (pa_cons pe_int pa_nil)) pk_nil rfl rfl) pe_int (nomark _)))
      (pss_cons (ps_set (i := 6) sc_law.nd rfl (by first | exact Or.inl rfl | exact Or.inr rfl) (pe_op op_mod (pe_callTy call_int1 rfl T.n_int S.boot_int (pa_cons (pv 4) pa_nil)) (pv 2)))
      (pss_cons (ps_set (i := 7) sc_law.nd rfl (by first | exact Or.inl rfl | exact Or.inr rfl) (pe_lst (pa_cons (S.pe_mkS T.mk_Place G_Place___init__ (hr.mono (by decide)) rfl T.g_Place (kb_Place___init___4_let T).choose_spec (S.pasE (takes_of rfl rfl rfl rfl)) (pa_cons pe_str (pa_cons (pv 2) (pa_cons pe_int pa_nil))) (pk_cons (pv 5) pk_nil) rfl rfl) (pa_cons (S.pe_mkS T.mk_Place G_Place___init__ (hr.mono (by decide)) rfl T.g_Place (kb_Place___init___4_let T).choose_spec (S.pasE (takes_of rfl rfl rfl rfl)) (pa_cons pe_str (pa_cons pe_int (pa_cons pe_int pa_nil))) (pk_cons pe_bl pk_nil) rfl rfl) pa_nil))))
      (pss_cons (ps_set (i := 8) sc_law.nd rfl (by first | exact Or.inl rfl | exact Or.inr rfl) (S.pe_mkS T.mk_Program G_Program___init__ (hr.mono (by decide)) rfl T.g_Program (kb_Program___init___3_start T).choose_spec (S.pasE (takes_of rfl rfl rfl rfl)) (pa_cons (pv 7) (pa_cons (pe_disp (pps_cons pe_str (pe_tup (pa_cons pe_str (pa_cons pe_str pa_nil))) (pps_cons pe_str (pe_tup (pa_cons pe_str pa_nil)) pps_nil)) rfl rfl (fun h => nomatch h) (by decide)) pa_nil)) (pk_cons pe_str pk_nil) rfl rfl))
      (pss_cons (ps_set (i := 9) sc_law.nd rfl (by first | exact Or.inl rfl | exact Or.inr rfl) (pe_op op_rep (pe_lst (pa_cons (pe_tup (pa_cons pe_str (pa_cons (pv 2) pa_nil))) pa_nil)) (pe_op op_fdivW (pv 4) (pv 2))))
      (S.pss_cut (ps_if (pt_cmpR op_gt (pv 6) pe_int (nomark _)) (pss_one (ps_expr (pe_bm PySem.F.plainAttrs_list PySem.F.slot_list_append PySem.F.type_list_append mt_append (pv 9) (pa_cons (pe_tup (pa_cons pe_str (pa_cons (pv 6) pa_nil))) pa_nil)))) pss_nil)
      (pss_cons (ps_set (i := 10) sc_law.nd rfl (by first | exact Or.inl rfl | exact Or.inr rfl) (pe_op op_add (pe_op op_fdivW (pe_op op_sub (pv 4) pe_int) (pv 3)) pe_int))
      (pss_cons (ps_set (i := 11) sc_law.nd rfl (by first | exact Or.inl rfl | exact Or.inr rfl) (pe_op op_rep (pe_lst (pa_cons pe_int pa_nil)) (pv 10)))
      (pss_cons (ps_set (i := 12) sc_law.nd rfl (by first | exact Or.inl rfl | exact Or.inr rfl) (S.pe_fnS G__law_told (hr.mono (by decide)) rfl T.g__law_told T.F__law_told.kp (kb__law_told_4 T) S.pas0 (pa_cons (pv 8) (pa_cons (S.pe_mkS T.mk_Sampler G_Sampler___init__ (hr.mono (by decide)) rfl T.g_Sampler (kb_Sampler___init___2 T).choose_spec S.pas0 (pa_cons (pv 3) pa_nil) pk_nil rfl rfl) (pa_cons (pv 9) (pa_cons (pv 11) pa_nil)))) pk_nil rfl rfl))
      (pss_cons (ps_set (i := 13) sc_law.nd rfl (by first | exact Or.inl rfl | exact Or.inr rfl) (pe_op op_cat (pe_op op_rep (pe_lst (pa_cons pe_int pa_nil)) (pe_op op_sub (pv 10) pe_int)) (pe_lst (pa_cons pe_bl pa_nil))))
      (pss_cons (ps_if (pt_cmpR (S.neGK (K := K) rfl (S.hu64 hr)) (S.pe_fnS G__law_told (hr.mono (by decide)) rfl T.g__law_told T.F__law_told.kp (kb__law_told_4 T) S.pas0 (pa_cons (pv 8) (pa_cons (S.pe_mkS T.mk_Sampler G_Sampler___init__ (hr.mono (by decide)) rfl T.g_Sampler (kb_Sampler___init___2 T).choose_spec S.pas0 (pa_cons (pv 3) pa_nil) pk_nil rfl rfl) (pa_cons (pv 9) (pa_cons (pv 13) pa_nil)))) pk_nil rfl rfl) (pe_tup (pa_cons pe_str (pa_cons (pe_op op_sub (pv 10) pe_int) pa_nil))) (nomark _)) (pss_one (ps_ret pe_bl)) pss_nil)
      (pss_cons (ps_if (pt_not (pt_val (S.pe_fnS G__law_profile_fits (hr.mono (by decide)) rfl T.g__law_profile_fits T.F__law_profile_fits.kp (kb__law_profile_fits_5 T) S.pas0 (pa_cons (pv 8) (pa_cons (pv 2) (pa_cons (pv 3) (pa_cons (pv 4) (pa_cons (pv 5) pa_nil))))) pk_nil rfl rfl))) (pss_one (ps_ret pe_bl)) pss_nil)
      (pss_cons (ps_if (pt_cmpR op_gt (pv 4) pe_int (nomark _)) (pss_one (ps_ret (pe_cmpR (S.eqGK (K := K) rfl (S.hu64 hr)) (pv 12) (pe_tup (pa_cons pe_str (pa_cons pe_bl (pa_cons pe_bl pa_nil)))) (nomark _)))) pss_nil)
      (pss_cons (ps_if (PW.pt (pw_or (pt_cmpR op_ne (pe_ix (S.ixK (K := K) rfl) (pv 12) pe_int (fun _ _ => rfl)) pe_str (nomark _)) (pw_or (pt_not (pt_val (S.pe_fnS G__law_is_integer (hr.mono (by decide)) rfl T.g__law_is_integer T.F__law_is_integer.kp (kb__law_is_integer_1 T) S.pas0 (pa_cons (pe_ix (S.ixK (K := K) rfl) (pv 12) pe_int (fun _ _ => rfl)) pa_nil) pk_nil rfl rfl))) (pw_or1 (pt_not (pt_val (pe_callB (S.isiK (K := K) rfl) rfl T.n_isinstance S.boot_isinstance (pa_cons (pe_ix (S.ixK (K := K) rfl) (pv 12) pe_int (fun _ _ => rfl)) (pa_cons (pe_bltn (v := .ty "bool") rfl T.n_bool S.boot_bool rfl) pa_nil))))))))) (pss_one (ps_ret pe_bl)) pss_nil)
      (pss_cons (ps_if (pt_val (pv 5)) (pss_one (ps_ret (pe_cmpR (S.eqGK (K := K) rfl (S.hu64 hr)) (pv 12) (pe_tup (pa_cons pe_str (pa_cons (pv 4) (pa_cons (pe_disp (pps_cons pe_str (pv 4) (pps_cons pe_str pe_int pps_nil)) rfl rfl (fun h => nomatch h) (by decide)) (pa_cons (pv 10) (pa_cons pe_int (pa_cons pe_bl pa_nil))))))) (nomark _)))) pss_nil)
      (pss_one (ps_ret (pe_cmpR (S.eqGK (K := K) rfl (S.hu64 hr)) (pv 12) (pe_tup (pa_cons pe_str (pa_cons (pv 4) (pa_cons (pe_disp (pps_cons pe_str (pv 4) (pps_cons pe_str pe_int pps_nil)) rfl rfl (fun h => nomatch h) (by decide)) (pa_cons pe_int (pa_cons (pe_op op_sub (pv 10) pe_int) (pa_cons pe_bl pa_nil))))))) (nomark _))))))))))))))))))))))), ?_⟩
  obtain ⟨_, rfl, a, ns, rfl, hS, hl, q⟩ := h
  refine ⟨_, rfl, rfl, rfl, _, _, rfl, a, ns, 0, rfl, rfl, Int.le_refl 0, hS, fun n0 hn0 => ⟨by show 1 ≤ sizeLine; decide, fun r hr0 => ?_⟩⟩
  refine ⟨_, rfl, rfl, rfl, _, _, rfl, r, n0, 6, rfl, upd_same, rfl, by decide, by decide, fun u1 m1 a1 b1 => ⟨_, _, rfl, rfl, ?_⟩⟩
  obtain ⟨t1, rfl⟩ := Int.eq_ofNat_of_zero_le a1
  refine ⟨_, rfl, rfl, rfl, _, _, rfl, r, m1, 8, rfl, upd_same, rfl, by decide, by decide, fun u2 m2 a2 b2 => ⟨_, _, rfl, rfl, ?_⟩⟩
  obtain ⟨t2, rfl⟩ := Int.eq_ofNat_of_zero_le a2
  refine ⟨_, rfl, rfl, rfl, _, _, rfl, r, m2, 31, rfl, upd_same, rfl, by decide, by decide, fun u3 m3 a3 b3 => ⟨_, _, rfl, rfl, ?_⟩⟩
  obtain ⟨t3, rfl⟩ := Int.eq_ofNat_of_zero_le a3
  refine ⟨_, rfl, rfl, rfl, _, _, rfl, r, m3, 2, rfl, upd_same, rfl, by decide, by decide, fun u4 m4 a4 b4 => ⟨rfl, ?_⟩⟩
  obtain ⟨op, hop⟩ : ∃ op, op = decide (V.int u4 = V.int 1) := ⟨_, rfl⟩
  generalize upd _ r (.lst [.int m4]) = H0
  refine ⟨_, rfl, .inl ⟨_, rfl, _, rfl, _, _, rfl, rfl, by show (0 : Int) < 1 + (t1 : Int); omega, ?_⟩⟩
  refine ⟨_, rfl, _, rfl, rfl, rfl, fun pa dxa npa ndxa nea => mkPl (d := ⟨"aa", 1 + (t1 : Int), 6, decide (V.int u4 = V.int 1)⟩) npa ndxa nea ⟨by show isNm "aa" = true; decide +kernel, by show (1 : Int) ≤ 1 + (t1 : Int); omega, by show 1 + (t1 : Int) ≤ 6; omega, by show (6 : Int) ≤ 6; decide⟩ fun H1 s1 pl1 => ⟨rfl, ?_⟩⟩
  refine ⟨rfl, rfl, fun pb dxb npb ndxb neb => mkPl (d := ⟨"b", 1, 6, true⟩) npb ndxb neb ⟨by show isNm "b" = true; decide +kernel, by show (1 : Int) ≤ 1; decide, by show (1 : Int) ≤ 6; decide, by show (6 : Int) ≤ 6; decide⟩ fun H2 s2 pl2 => ⟨rfl, by show 2 ≤ sizeLine; decide, fun Lp hLp => ?_⟩⟩
  have pl1 := pl1.same s2
  have s3 := Same.new (o := .lst [.ref pa, .ref pb]) hLp
  have eLp := upd_same (H := H2) (a := Lp) (o := .lst [.ref pa, .ref pb])
  have pl1 := pl1.same s3
  have pl2 := pl2.same s3
  generalize upd H2 Lp (.lst [.ref pa, .ref pb]) = H3 at s3 eLp pl1 pl2
  refine ⟨_, rfl, fun dd hdd => ⟨by show 2 ≤ sizeLine; decide, fun ta hta => ⟨by show 1 ≤ sizeLine; decide, fun tb htb => ?_⟩⟩⟩
  have sd := Same.new (o := .dK []) hdd
  have sta := Same.new (o := .tup [.str "aa", .str "b"]) hta
  have stb := Same.new (o := .tup [.str "b"]) htb
  have edd := stb _ _ (sta _ _ (upd_same (H := H3) (a := dd) (o := .dK [])))
  have eta := stb _ _ (upd_same (H := upd H3 dd (.dK [])) (a := ta) (o := .tup [.str "aa", .str "b"]))
  have etb := upd_same (H := upd (upd H3 dd (.dK [])) ta (.tup [.str "aa", .str "b"])) (a := tb) (o := .tup [.str "b"])
  have s33 := (sd.trans sta).trans stb
  generalize upd (upd (upd H3 dd (.dK [])) ta (.tup [.str "aa", .str "b"])) tb (.tup [.str "b"]) = H4 at stb edd eta etb s33
  refine ⟨edd, [(.inr "aa", .ref ta), (.inr "b", .ref tb)], rfl, by simp, ?_⟩
  have em : mergeK [] [((.inr "aa" : Key), V.ref ta), (.inr "b", V.ref tb)] = [(.inr "aa", .ref ta), (.inr "b", .ref tb)] := rfl
  rw [em]
  have s4 : Same H3 (upd H4 dd (.dK [(.inr "aa", .ref ta), (.inr "b", .ref tb)])) := Same.upd s33 hdd
  have ntd : ta ≠ dd := ne_of eta edd (by intro e; cases e)
  have nbd : tb ≠ dd := ne_of etb edd (by intro e; cases e)
  have edk : upd H4 dd (.dK [(.inr "aa", .ref ta), (.inr "b", .ref tb)]) dd = some (.dK [(.inr "aa", .ref ta), (.inr "b", .ref tb)]) := upd_same
  have eta : upd H4 dd (.dK [(.inr "aa", .ref ta), (.inr "b", .ref tb)]) ta = some (.tup [.str "aa", .str "b"]) := by rw [upd_ne ntd]; exact eta
  have etb : upd H4 dd (.dK [(.inr "aa", .ref ta), (.inr "b", .ref tb)]) tb = some (.tup [.str "b"]) := by rw [upd_ne nbd]; exact etb
  generalize upd H4 dd (.dK [(.inr "aa", .ref ta), (.inr "b", .ref tb)]) = H5 at s4 edk eta etb
  refine ⟨rfl, rfl, fun pg dxg npg ndxg neg => ?_⟩
  have sg : Same H5 (upd (upd H5 dxg (.own pg)) pg (.ins (He.ga K "Program") dxg [])) := Same.upd (Same.new ndxg) npg
  have rok := rowsL_ok (pa := pa) (ta := ta) (pb := pb) (tb := tb) (l := 1 + (t1 : Int)) (op := decide (V.int u4 = V.int 1)) (by omega) (by omega)
  refine ⟨_, _, _, _, rfl, pg, dxg, Lp, dd, rowsL pa ta pb tb (1 + (t1 : Int)) (decide (V.int u4 = V.int 1)), _, "aa", rfl, upd_same, rfl, .inl (sg _ _ (s4 _ _ eLp)), rfl, sg _ _ edk, rfl, rok, fun r hr => ?_, .inr ⟨rfl, List.mem_cons_self⟩, fun H6 k6 hpg => ⟨rfl, ?_⟩⟩
  · rcases List.mem_cons.mp hr with rfl | hr
    · exact ⟨rfl, (pl1.same s4).same sg, sg _ _ eta⟩
    · rw [List.mem_singleton.mp hr]
      exact ⟨rfl, (pl2.same s4).same sg, sg _ _ etb⟩
  -- the sizes as naturals
  obtain ⟨sz, esz⟩ : ∃ sz, sz = 1 + t1 := ⟨_, rfl⟩
  obtain ⟨sc, esc⟩ : ∃ sc, sc = 1 + t2 := ⟨_, rfl⟩
  obtain ⟨N, eN⟩ : ∃ N, N = 1985 + t3 := ⟨_, rfl⟩
  have iz : 1 + (t1 : Int) = (sz : Int) := by omega
  have ic : 1 + (t2 : Int) = (sc : Int) := by omega
  have iN : 1985 + (t3 : Int) = (N : Int) := by omega
  have z1 : 1 ≤ sz := by omega
  have z6 : sz ≤ 6 := by omega
  have c1 : 1 ≤ sc := by omega
  have c8 : sc ≤ 8 := by omega
  have n1 : 1985 ≤ N := by omega
  have n2 : N ≤ 2015 := by omega
  have ek : ((1985 + (t3 : Int)) / (1 + (t1 : Int))).toNat = N / sz := by
    rw [iz, iN, ← Int.natCast_ediv, Int.toNat_natCast]
  have kl : N / sz ≤ 2015 := Nat.le_trans (Nat.div_le_self _ _) n2
  have k0 : 0 ≤ (1985 + (t3 : Int)) / (1 + (t1 : Int)) := Int.ediv_nonneg (by omega) (by omega)
  refine ⟨_, rfl, by show 2 ≤ sizeLine; decide, fun sa hsa => ⟨by show 1 ≤ sizeLine; decide, fun L0 hL0 => ⟨_, rfl, _, rfl, _, _, rfl, rfl, div_small (by omega) (by omega), L0, _, _, rfl, rfl, upd_same, by omega, by omega, ?_, fun L hL => ?_⟩⟩⟩
  · rw [ek]
    exact Nat.le_of_lt (Nat.lt_of_le_of_lt (show 1 * (N / sz) ≤ 4000 by omega) (by decide))
  rw [ek, List.flatten_replicate_singleton]
  have ssa := Same.new (o := .tup [.str "aa", .int (1 + (t1 : Int))]) hsa
  have sL0 := Same.new (o := .lst [.ref sa]) hL0
  have esa := sL0 _ _ (upd_same (H := H6) (a := sa) (o := .tup [.str "aa", .int (1 + (t1 : Int))]))
  have s66 := ssa.trans sL0
  have sL := Same.new (o := .lst (List.replicate (N / sz) (V.ref sa))) hL
  have eL := upd_same (H := upd (upd H6 sa (.tup [.str "aa", .int (1 + (t1 : Int))])) L0 (.lst [.ref sa])) (a := L) (o := .lst (List.replicate (N / sz) (V.ref sa)))
  have esa := sL _ _ esa
  have s67 := s66.trans sL
  have nH6 : H6 L = none := s66.free hL
  have hpg7 := hpg.same s67
  have nsL : sa ≠ L := ne_of esa eL (by intro e; cases e)
  have hpgo : ∀ o, PgAt K (upd (upd (upd (upd H6 sa (.tup [.str "aa", .int (1 + (t1 : Int))])) L0 (.lst [.ref sa])) L (.lst (List.replicate (N / sz) (V.ref sa)))) L o) pg (rowsL pa ta pb tb (1 + (t1 : Int)) (decide (V.int u4 = V.int 1))) "aa" := fun o => hpg.same (Same.upd s67 nH6)
  rw [iz] at esa
  refine ⟨fun σ J => (∃ ws : List (Addr × Sy), SysA J L ws ∧ ws.map Prod.snd = ysL sz N ∧ ws.length ≤ 3000) ∧ PgAt K J pg (rowsL pa ta pb tb (sz : Int) op) "aa" ∧ ∃ v7, σ = [some (.ref a), some (.ref r), some (.int (sz : Int)), some (.int (sc : Int)), some (.int (N : Int)), some (.bl op), some (.int ((N % sz : Nat) : Int)), v7, some (.ref pg), some (.ref L), none, none, none, none], ?_, ?_⟩
  · generalize upd (upd H6 sa (.tup [.str "aa", .int (1 + (t1 : Int))])) L0 (.lst [.ref sa]) = H7 at eL esa hpg7 hpgo
    rw [iz, ← hop] at hpgo hpg7
    have erep : (List.replicate (N / sz) (V.ref sa)) = ((List.replicate (N / sz) (sa, (("aa" : Str), (sz : Int)))) : List (Addr × Sy)).map fun z => V.ref z.1 := by rw [List.map_replicate]
    show tIfS _ _ _ _ [some (.ref a), some (.ref r), some (.int (1 + (t1 : Int))), some (.int (1 + (t2 : Int))), some (.int (1985 + (t3 : Int))), some (.bl (decide (V.int u4 = V.int 1))), some (.int ((1985 + (t3 : Int)) % (1 + (t1 : Int)))), some (.ref Lp), some (.ref pg), some (.ref L), none, none, none, none] _
    rw [iz, ic, iN, ← hop, show (N : Int) % (sz : Int) = ((N % sz : Nat) : Int) from (Int.natCast_emod N sz).symm]
    refine ⟨_, rfl, _, _, rfl, rfl, _, rfl, ?_⟩
    have lN : N / sz ≤ 2015 := kl
    by_cases c : 0 < N % sz
    · refine iteY (by simp; omega) ⟨_, rfl, .inl ⟨rfl, _, .inl (.inl eL)⟩, _, rfl, by show 2 ≤ sizeLine; decide, fun ra hra => ?_⟩
      have sra := Same.new (o := .tup [.str "aa", .int ((N % sz : Nat) : Int)]) hra
      have era := upd_same (H := upd H7 L (.lst (List.replicate (N / sz) (V.ref sa)))) (a := ra) (o := .tup [.str "aa", .int ((N % sz : Nat) : Int)])
      have eL2 := sra _ _ eL
      have esa2 := sra _ _ esa
      have nrL : ra ≠ L := ne_of era eL2 (by intro e; cases e)
      have ncomm : upd (upd (upd H7 L (.lst (List.replicate (N / sz) (V.ref sa)))) ra (.tup [.str "aa", .int ((N % sz : Nat) : Int)])) L (.lst (List.replicate (N / sz) (V.ref sa) ++ [.ref ra])) = upd (upd H7 L (.lst (List.replicate (N / sz) (V.ref sa) ++ [.ref ra]))) ra (.tup [.str "aa", .int ((N % sz : Nat) : Int)]) := by
        funext b
        by_cases b1 : b = ra
        · subst b1
          rw [upd_ne nrL, upd_same, upd_same]
        · by_cases b2 : b = L
          · subst b2
            rw [upd_same, upd_ne b1, upd_same]
          · rw [upd_ne b2, upd_ne b1, upd_ne b2, upd_ne b1, upd_ne b2]
      refine ⟨L, _, _, rfl, rfl, eL2, by rw [List.length_replicate]; exact Nat.lt_of_le_of_lt (show N / sz ≤ 4000 by omega) (by decide), ⟨List.replicate (N / sz) (sa, (("aa" : Str), (sz : Int))) ++ [(ra, (("aa" : Str), ((N % sz : Nat) : Int)))], ⟨?_, fun z hz => ?_⟩, ?_, by simp; omega⟩, ?_, _, rfl⟩
      · rw [upd_same, List.map_append, ← erep]
        rfl
      · rcases List.mem_append.mp hz with h | h
        · rw [(List.mem_replicate.mp h).2]
          show upd _ L _ sa = _
          rw [upd_ne nsL]
          exact esa2
        · rw [List.mem_singleton.mp h]
          show upd _ L _ ra = _
          rw [upd_ne nrL]
          exact era
      · unfold ysL
        rw [if_pos c, List.map_append, List.map_replicate]
        rfl
      · rw [ncomm]
        refine PgAt.same (hpgo (.lst (List.replicate (N / sz) (V.ref sa) ++ [.ref ra]))) ?_
        have : upd (upd H7 L (.lst (List.replicate (N / sz) (V.ref sa)))) L (.lst (List.replicate (N / sz) (V.ref sa) ++ [.ref ra])) = upd H7 L (.lst (List.replicate (N / sz) (V.ref sa) ++ [.ref ra])) := by
          funext b
          by_cases b2 : b = L
          · subst b2
            rw [upd_same, upd_same]
          · rw [upd_ne b2, upd_ne b2, upd_ne b2]
        rw [this]
        refine Same.new ?_
        rw [upd_ne nrL]
        rw [upd_ne nrL] at hra
        exact hra
    · refine iteN (by simp; omega) ⟨⟨List.replicate (N / sz) (sa, (("aa" : Str), (sz : Int))), ⟨by rw [eL, erep], fun z hz => ?_⟩, ?_, by rw [List.length_replicate]; omega⟩, hpg7, _, rfl⟩
      · rw [(List.mem_replicate.mp hz).2]
        exact esa
      · unfold ysL
        rw [if_neg c, List.append_nil, List.map_replicate]
  · rintro σ J ⟨⟨ws, hws, ews, lws⟩, hpJ, v7, rfl⟩
    have rok := rowsL_ok (pa := pa) (ta := ta) (pb := pb) (tb := tb) (l := (sz : Int)) (op := op) (by omega) (by omega)
    have evw : vw (rowsL pa ta pb tb (sz : Int) op) = vL sz op := rfl
    have enm : rNames (rowsL pa ta pb tb (sz : Int) op) = (["aa", "b"] : List Str) := rfl
    generalize rowsL pa ta pb tb (sz : Int) op = rows at hpJ rok evw enm
    have okm : okSm ⟨(sc : Int), 0, some 0⟩ := ⟨by show (1 : Int) ≤ sc; omega, by show (sc : Int) ≤ 8; omega, Int.le_refl _, by show (0 : Int) < sc; omega, fun i h => by cases h; exact ⟨Int.le_refl _, by show (0 : Int) < sc; omega⟩⟩
    have esl : ((N : Int) - 1) / (sc : Int) + 1 = ((slC sc N : Nat) : Int) := by
      unfold slC
      rw [show (N : Int) - 1 = ((N - 1 : Nat) : Int) by omega, ← Int.natCast_ediv]
      exact (Int.natCast_succ _).symm
    have sl1 : 1 ≤ slC sc N := Nat.succ_le_succ (Nat.zero_le _)
    have sl2 : slC sc N ≤ 2016 := by
      unfold slC
      have := Nat.div_le_self (N - 1) sc
      omega
    have yo := ysL_ok (N := N) (op := op) z1 z6
    have w0 : 0 < ws.length := by
      have := congrArg List.length ews
      rw [List.length_map] at this
      rw [this]
      unfold ysL
      rw [List.length_append, List.length_replicate]
      have : 0 < N / sz := Nat.div_pos (by omega) (by omega)
      omega
    have ynn : ∀ y ∈ ws.map Prod.snd, 0 ≤ y.2 := fun y hy => by
      rw [ews] at hy
      have := (ysL_mem z1 z6 y hy).2.1
      omega
    refine ⟨_, rfl, _, _, rfl, rfl, _, rfl, _, _, rfl, rfl, div_small (by omega) (by omega), _, _, rfl, rfl, ?_⟩
    refine ⟨by show 1 ≤ sizeLine; decide, fun q0 hq0 => ⟨_, rfl, q0, ((N : Int) - 1) / (sc : Int) + 1, _, rfl, rfl, upd_same, by rw [esl]; omega, by rw [esl]; omega, ?_, fun Lk hLk => ?_⟩⟩
    · rw [esl, Int.toNat_natCast]
      exact Nat.le_of_lt (Nat.lt_of_le_of_lt (show 1 * slC sc N ≤ 4000 by omega) (by decide))
    rw [esl, Int.toNat_natCast, List.flatten_replicate_singleton]
    have sq0 := Same.new (o := .lst [V.int 0]) hq0
    have sLk := Same.new (o := .lst (List.replicate (slC sc N) (V.int 0))) hLk
    have eLk := upd_same (H := upd J q0 (.lst [V.int 0])) (a := Lk) (o := .lst (List.replicate (slC sc N) (V.int 0)))
    have s1 := sq0.trans sLk
    generalize upd (upd J q0 (.lst [V.int 0])) Lk (.lst (List.replicate (slC sc N) (V.int 0))) = J1 at eLk s1
    refine ⟨_, rfl, _, rfl, rfl, rfl, fun sm dxs nps ndxs nes => ?_⟩
    have sS : Same J1 (upd (upd J1 dxs (.own sm)) sm (.ins (He.ga K "Sampler") dxs [])) := Same.upd (Same.new ndxs) nps
    refine ⟨_, _, _, _, rfl, sm, dxs, ⟨(sc : Int), 0, some 0⟩, rfl, upd_same, okm, rfl, rfl, rfl, fun J2 k2 hm2 => ⟨rfl, ?_⟩⟩
    have s12 : Same J1 J2 := same_kp sS nps k2
    have s02 := s1.trans s12
    refine ⟨_, rfl, _, rfl, rfl, rfl, _, _, _, _, rfl, pg, sm, L, rows, "aa", ⟨(sc : Int), 0, some 0⟩, ws, some (List.replicate (slC sc N) (V.int 0)), rfl, hpJ.same s02, rok, rfl, hm2, okm, rfl, rfl, hws.same s02, ⟨Lk, rfl, s12 _ _ eLk, fun v hv => by rw [(List.mem_replicate.mp hv).2]; exact .int _, by rw [List.length_replicate]; omega⟩, w0, lws, by rw [ews, evw]; exact yo, ynn, fun oo J3 s23 td => ?_⟩
    rw [ews, ysL_ticks, evw, enm] at td
    have out := out_of rfl rfl z1 z6 c1 (by omega) td
    have s03 := s02.trans s23
    -- the bad looks
    have esl1 : ((N : Int) - 1) / (sc : Int) + 1 - 1 = ((slC sc N - 1 : Nat) : Int) := by rw [esl]; omega
    refine ⟨by show 1 ≤ sizeLine; decide, fun p0 hp0 => ⟨_, rfl, _, _, rfl, rfl, p0, ((N : Int) - 1) / (sc : Int) + 1 - 1, _, rfl, rfl, upd_same, by rw [esl1]; omega, by rw [esl1]; omega, ?_, fun p1 hp1 => ⟨by show 1 ≤ sizeLine; decide, fun p2 hp2 => ?_⟩⟩⟩
    · rw [esl1, Int.toNat_natCast]
      exact Nat.le_of_lt (Nat.lt_of_le_of_lt (show 1 * (slC sc N - 1) ≤ 4000 by omega) (by decide))
    rw [esl1, Int.toNat_natCast, List.flatten_replicate_singleton] at hp2 ⊢
    have sp0 := Same.new (o := .lst [V.int 0]) hp0
    have sp1 := Same.new (o := .lst (List.replicate (slC sc N - 1) (V.int 0))) hp1
    have sp2 := Same.new (o := .lst [V.bl true]) hp2
    have ep1 := sp2 _ _ (upd_same (H := upd J3 p0 (.lst [V.int 0])) (a := p1) (o := .lst (List.replicate (slC sc N - 1) (V.int 0))))
    have ep2 := upd_same (H := upd (upd J3 p0 (.lst [V.int 0])) p1 (.lst (List.replicate (slC sc N - 1) (V.int 0)))) (a := p2) (o := .lst [V.bl true])
    have sp := (sp0.trans sp1).trans sp2
    generalize upd (upd (upd J3 p0 (.lst [V.int 0])) p1 (.lst (List.replicate (slC sc N - 1) (V.int 0)))) p2 (.lst [V.bl true]) = J4 at ep1 ep2 sp
    refine ⟨p1, p2, _, _, rfl, rfl, ep1, ep2, by rw [List.length_replicate]; exact Nat.le_of_lt (Nat.lt_of_le_of_lt (show slC sc N - 1 + 1 ≤ 4000 by omega) (by decide)), fun Lb hLb => ?_⟩
    have sLb := Same.new (o := .lst (List.replicate (slC sc N - 1) (V.int 0) ++ [V.bl true])) hLb
    have eLb := upd_same (H := J4) (a := Lb) (o := .lst (List.replicate (slC sc N - 1) (V.int 0) ++ [V.bl true]))
    generalize upd J4 Lb (.lst (List.replicate (slC sc N - 1) (V.int 0) ++ [V.bl true])) = J5 at eLb sLb
    have s35 := sp.trans sLb
    have s05 := s03.trans s35
    refine ⟨_, rfl, _, rfl, rfl, rfl, fun sm2 dxs2 nps2 ndxs2 nes2 => ?_⟩
    have sS2 : Same J5 (upd (upd J5 dxs2 (.own sm2)) sm2 (.ins (He.ga K "Sampler") dxs2 [])) := Same.upd (Same.new ndxs2) nps2
    refine ⟨_, _, _, _, rfl, sm2, dxs2, ⟨(sc : Int), 0, some 0⟩, rfl, upd_same, okm, rfl, rfl, rfl, fun J6 k6 hm6 => ⟨rfl, ?_⟩⟩
    have s56 : Same J5 J6 := same_kp sS2 nps2 k6
    have s06 := s05.trans s56
    refine ⟨_, rfl, _, rfl, rfl, rfl, _, _, _, _, rfl, pg, sm2, L, rows, "aa", ⟨(sc : Int), 0, some 0⟩, ws, some (List.replicate (slC sc N - 1) (V.int 0) ++ [V.bl true]), rfl, hpJ.same s06, rok, rfl, hm6, okm, rfl, rfl, hws.same s06, ⟨Lb, rfl, s56 _ _ eLb, fun v hv => ?_, by simp; omega⟩, w0, lws, by rw [ews, evw]; exact yo, ynn, fun ob J7 s67 tb2 => ?_⟩
    · rcases List.mem_append.mp hv with h | h
      · rw [(List.mem_replicate.mp h).2]
        exact .int _
      · rw [List.mem_singleton.mp h]
        exact .bl _
    rw [ews, ysL_ticks, show phOf ⟨(sc : Int), 0, some 0⟩ .non = 0 from rfl, look_no (m := ⟨(sc : Int), 0, some 0⟩) rfl rfl c1 (by omega)] at tb2
    have eob : J7 ob = some (.tup [.str "look", .int ((slC sc N - 1 : Nat) : Int)]) := by
      rcases tb2 with ⟨i, h1, h2⟩ | ⟨h1, _⟩ | ⟨_, _, h1, _⟩
      · cases h1
        exact h2
      · cases h1
      · cases h1
    refine ⟨_, rfl, _, _, rfl, rfl, by show 2 ≤ sizeLine; decide, fun to hto => ?_⟩
    have sto := Same.new (o := .tup [.str "look", .int (((N : Int) - 1) / (sc : Int) + 1 - 1)]) hto
    have eto := upd_same (H := J7) (a := to) (o := .tup [.str "look", .int (((N : Int) - 1) / (sc : Int) + 1 - 1)])
    have eob' : J7 ob = some (.tup [.str "look", .int (((N : Int) - 1) / (sc : Int) + 1 - 1)]) := by rw [esl1]; exact eob
    refine ⟨30, true, by decide, (eg_tup3 (ds := [.str "look", .int (((N : Int) - 1) / (sc : Int) + 1 - 1)]) (sto _ _ eob') eto (.cons (.str _) (.cons (.int _) .nil)) rfl (by simp [PyData.depth, PyData.depthAll])).ne, _, rfl, iteN (by decide) ?_⟩
    have s37 := (s35.trans s56).trans s67
    generalize upd J7 to (.tup [.str "look", .int (((N : Int) - 1) / (sc : Int) + 1 - 1)]) = J8 at sto
    have s38 := s37.trans sto
    have s08 := s03.trans s38
    refine ⟨_, rfl, _, rfl, _, rfl, _, rfl, _, rfl, rfl, rfl, _, _, _, _, _, rfl, pg, rows, sz, sc, N, op, rfl, hpJ.same s08, rok, evw, rfl, rfl, rfl, rfl, z1, z6, c1, c8, n1, n2, fun J9 s89 => ⟨_, rfl, iteF ?_⟩⟩
    have out := out.same (s38.trans s89)
    clear td tb2 eob eob' eto
    refine ⟨_, rfl, _, _, rfl, rfl, _, rfl, ?_⟩
    rcases out with ⟨h1, eo⟩ | ⟨h1, D, eD, eo⟩
    · refine iteY (by simp; omega) ⟨_, rfl, by show 3 ≤ sizeLine; decide, fun t3' h3' => ?_⟩
      refine ⟨30, true, by decide, (eg_tup3 (ds := [.str "long", .bool true, .bool false]) (Same.new h3' _ _ eo) upd_same (.cons (.str _) (.cons (.bl _) (.cons (.bl _) .nil))) rfl (by simp [PyData.depth, PyData.depthAll])).eq, q _⟩
    · refine iteN (by simp; omega) ?_
      refine ⟨_, rfl, ixT eo rfl ⟨rfl, _, rfl, iteN (by simp) ⟨_, rfl, ixT eo rfl ⟨rfl, rfl, _, rfl, true, .int _, _, rfl, iteF ⟨_, rfl, ixT eo rfl ⟨_, _, _, _, true, rfl, .ty _, .base (.bl _), kit_ty (by decide +kernel), _, rfl, iteF ?_⟩⟩⟩⟩⟩⟩
      have eD : J9 D = some (.dK (kvT (N : Int))) := eD
      cases op with
      | true =>
        refine ⟨_, rfl, _, rfl, iteT ?_⟩
        have eo : J9 oo = some (.tup [.str "told", .int (N : Int), .ref D, .int ((slC sc N : Nat) : Int), .int 0, .bl false]) := eo
        refine ⟨_, rfl, _, rfl, fun D2 hD2 => ⟨_, rfl, upd_same, kvT (N : Int), rfl, by show 2 ≤ 15; decide, ?_⟩⟩
        have em2 : mergeK [] (kvT (N : Int)) = kvT (N : Int) := rfl
        rw [em2]
        rw [← esl] at eo
        have sD : Same J9 (upd (upd J9 D2 (.dK [])) D2 (.dK (kvT (N : Int)))) := Same.upd (Same.new hD2) hD2
        have eD2 : upd (upd J9 D2 (.dK [])) D2 (.dK (kvT (N : Int))) D2 = some (.dK (kvT (N : Int))) := upd_same
        have neD : D ≠ D2 := ne_of_none eD hD2
        have eo2 := sD _ _ eo
        have eD3 := sD _ _ eD
        refine ⟨_, rfl, by show 6 ≤ sizeLine; decide, fun t3' h3' => ?_⟩
        have st3 := Same.new (o := .tup [.str "told", .int (N : Int), .ref D2, .int (((N : Int) - 1) / (sc : Int) + 1), .int 0, .bl false]) h3'
        exact ⟨22, true, by decide, fin_eq (st3 _ _ eo2) upd_same (st3 _ _ eD3) (st3 _ _ eD2) neD, q _⟩
      | false =>
        refine ⟨_, rfl, _, rfl, iteF ?_⟩
        have eo : J9 oo = some (.tup [.str "told", .int (N : Int), .ref D, .int 0, .int ((slC sc N - 1 : Nat) : Int), .bl true]) := eo
        refine ⟨_, rfl, _, rfl, fun D2 hD2 => ⟨_, rfl, upd_same, kvT (N : Int), rfl, by show 2 ≤ 15; decide, ?_⟩⟩
        have em2 : mergeK [] (kvT (N : Int)) = kvT (N : Int) := rfl
        rw [em2]
        rw [← esl1] at eo
        have sD : Same J9 (upd (upd J9 D2 (.dK [])) D2 (.dK (kvT (N : Int)))) := Same.upd (Same.new hD2) hD2
        have eD2 : upd (upd J9 D2 (.dK [])) D2 (.dK (kvT (N : Int))) D2 = some (.dK (kvT (N : Int))) := upd_same
        have neD : D ≠ D2 := ne_of_none eD hD2
        have eo2 := sD _ _ eo
        have eD3 := sD _ _ eD
        refine ⟨_, rfl, _, _, rfl, rfl, by show 6 ≤ sizeLine; decide, fun t3' h3' => ?_⟩
        have st3 := Same.new (o := .tup [.str "told", .int (N : Int), .ref D2, .int 0, .int (((N : Int) - 1) / (sc : Int) + 1 - 1), .bl true]) h3'
        exact ⟨22, true, by decide, fin_eq (st3 _ _ eo2) upd_same (st3 _ _ eD3) (st3 _ _ eD2) neD, q _⟩
end
end W

namespace W
open PySem PySem.Spec PyProof.Rows L2
theorem facts {P : Program} {w : World} {K : S.Frag} {h : Heap} {mg : Str → Option Value} {f : Addr} (X : K.In h) (G : h.Ns mainGlobals mg) (hfa : mg ("law" : Str) = some (.ref f)) (c : S.SaysX cks fns gts K) :
    ∃ fd : FuncData, (∀ (s : Shared) (v : Value), BindsTo s fd ⟨[v], []⟩ [("_law_script", v)]) ∧ ∀ base : Heap, FnOk P w K mg base (L2.CX P w) 11 f fd ["_law_script"] (spLaw K) := by
  have T : Txt K mg := txt_of X G c
  have e := hfa.symm.trans T.g_law
  cases e
  have b := FunD.bindsA (ps := ["_law_script"]) T.F_law fun _ _ _ _ _ _ us hl => match us, hl with | [_], _ => rfl
  exact ⟨_, fun s v => b s [v] rfl, fun base => ok_law T⟩
end W
open PySem PySem.W PySem.Calls PyProof.Rows
set_option maxRecDepth 100000 in
set_option maxHeartbeats 0 in
theorem PySem.Challenge.cw_seenshares_k16_long_runs_holds : PySem.Challenge.rw_seenshares_k16_long_runs.Holds := by
  w_on; o_law
  refine HandSHeadRun.head_any (r := OpenLaw.row PySem.Challenge.rw_seenshares_k16_long_runs) (q := view (OpenLaw.row PySem.Challenge.rw_seenshares_k16_long_runs).prog [51]) (H := _root_.W.hk) (ob := _root_.W.ob) (M := 9000)
    (loose := _root_.W.lo) (d := HandSHeadRun.topDef (OpenLaw.row PySem.Challenge.rw_seenshares_k16_long_runs).prog 51) (kwd := []) _root_.W.ob_eq (by kernel_rfl) (fun s => by kernel_rfl) _root_.W.run
    (by kernel_rfl) (by kernel_rfl) (by kernel_rfl) (by rfl) (by first | assumption | decide +kernel) (by decide +kernel) ⟨rfl, rfl, rfl, rfl, rfl, by decide +kernel⟩ ?hw ?hc
  case hw => w_witness2
  case hc =>
    refine _root_.S.walk_X (l := PySem.Challenge.rw_seenshares_k16_long_runs) (n := 63) (k := 11) (x := "_law_script") rfl (by decide) (by kernel_rfl) ⟨rfl, by decide, by decide⟩ ?F
    intro w mg fa h Y G hmg0
    obtain ⟨K, KX, c⟩ := Y
    have hmg : mg ("law" : PySem.Str) = some (.ref fa) := by
      have e : (HandSHeadRun.topDef (OpenLaw.row PySem.Challenge.rw_seenshares_k16_long_runs).prog 51).name = ("law" : PySem.Str) := by kernel_rfl
      rw [← e]; exact hmg0
    obtain ⟨fd, hb, hF⟩ := _root_.W.facts (P := (PySem.Challenge.rw_seenshares_k16_long_runs).prog) (w := w) KX G hmg c
    exact ⟨K, fd, _root_.W.spLaw K, KX, hb, fun H a ns hl hbits _ hS => ⟨_, rfl, a, ns, rfl, hS, hl, fun _ => rfl⟩, fun base _ _ => hF base⟩

