import PyProof.Rows.All
import Wide.All
import OpenK.AllK
import Wide.FinOn
import KE.KStateDown
import Lean
import HandS.Base
import HandS.Call
import HandS.List
import HandS.Comp
import HandS.Ends
import HandS.Dict
import HandS.Iter
import HandS.Text
import HandS.More
import HandS.Exc
import HandS.FStr
import KE.KCallOwn
import KE.KOpsOwn
import HandS.ExcOwn
import HandS.TryOnly
import HandS.Words
import HandS.WordsList
import HandS.WordsDict
import HandS.WordsExc
import HandS.Defaults
import HandS.MakeKw
import HandS.IsInst
import HandS.Wide
import HandS.ExcInit
import HandS.ExcField
import HandS.ExcIs
import HandS.SlotsOwn
import HandS.NamedTupSort
import HandS.OwnEq
import HandS.EndBits
import HandS.Head0
import HandS.Head1
import HandS.Head2
import HandS.HeadEnd
import HandS.HeadHook1
import HandS.HeadHook2
import HandS.DictComp
import HandS.Property
import HandS.Deep
import HandS.Walk
import HandS.TupAny
import KE.KEqDict
import KE.DataEq
import KE.LtData
import HandS.Conv
import HandS.Style
import HandS.Star
import KE.GoesEnumKw
import PySem.Challenge.RW_seenshares_k07_program_refusals
set_option Elab.async false
set_option linter.all false
set_option maxRecDepth 100000
set_option maxHeartbeats 4000000
namespace S
open PySem PySem.Spec PyProof.Rows L2
/-! the head's facts as plain Bools over the written part -/
abbrev Frag := PySem.W.Frag
abbrev Ck := Frag → Bool
/-- the function behind a property -/
def gA (K : Frag) (p : Str × Option Str) : Addr := match PySem.W.recIn K (He.fAd K p) "property" with
  | some (.ref g :: _) => g
  | _ => 0
def gnW (K : Frag) (p : Str × Option Str) : He.FnW := match K.lookup (gA K p) with
  | some ⟨_, _, .func fd, _⟩ => some (fd.name, fd.qualname, fd.params, fd.body, fd.scope, fd.globals, fd.closure, fd.builtins)
  | _ => none
def gok (K : Frag) (d : He.DefD) : Bool := PySem.W.keepIn K (.ref (gA K d.at_)) && (match K.lookup (gA K d.at_) with
  | some ⟨_, _, .func fd, _⟩ => PySem.W.codeIn K fd.code d.qual && (He.dflB K fd.defaults (d.dvs K) && He.kwdB K fd.kwdefaults (d.kws K))
  | _ => false)
theorem funG {K : Frag} {d : He.DefD} (e : gnW K d.at_ = d.val) (c : gok K d = true) : ∃ fd, FunD K d.name d.qual d.params d.body d.scope (d.dvs K) (d.kws K) (gA K d.at_) fd := by
  obtain ⟨kp, c2⟩ := He.ba c
  unfold gnW at e
  cases q : K.lookup (gA K d.at_) with
  | none => rw [q] at c2; cases c2
  | some o =>
    obtain ⟨o1, o2, o3, o4⟩ := o
    rw [q] at c2 e
    cases o3 with
    | func fd =>
      obtain ⟨x1, x2, x3, x4, x5, x6, x7, x8, x9, x10, x11, x12, x13, x14, x15⟩ := fd
      have e2 : (some (x1, x2, x3, x4, x5, x6, x7, x15) : He.FnW) = some (d.name, d.qual, d.params, .stmts d.body, d.scope, mainGlobals, [], builtinsNs) := e
      simp only [Option.some.injEq, Prod.mk.injEq] at e2
      obtain ⟨y1, y2, y3, y4, y5, y6, y7, y8⟩ := e2
      subst y1 y2 y3 y4 y5 y6 y7 y8
      have c3 : (PySem.W.codeIn K x13 d.qual && (He.dflB K x8 (d.dvs K) && He.kwdB K x9 (d.kws K))) = true := c2
      obtain ⟨k1, k2⟩ := He.ba c3
      obtain ⟨k3, k4⟩ := He.ba k2
      exact ⟨_, ⟨o1, o2, x8, x9, x10, x11, x12, x13, x14, o4, rfl, q, k1, He.dflB_ok k3, He.kwdB_ok k4⟩, kp⟩
    | _ => cases c2
def obsX (ck : List Ck) (fn gt : List He.DefD) (K : Frag) : He.AlD :=
  (ck.all (fun c => c K) && (fn.all (fun d => d.ok K) && gt.all (fun d => gok K d)), fn.map (fun d => He.fnW K d.at_) ++ gt.map (fun d => gnW K d.at_))
def valX (fn gt : List He.DefD) : He.AlD := (true, fn.map He.DefD.val ++ gt.map He.DefD.val)
def obsXG (n : Nat) (ck : List Ck) (fn gt : List He.DefD) (g : Addr → Option Obj) : He.AlD :=
  obsX ck fn gt (He.frG g (He.asD g n))
def SaysX (ck : List Ck) (fn gt : List He.DefD) (K : Frag) : Prop := obsX ck fn gt K = valX fn gt
def hookX (n : Nat) (ck : List Ck) (fn gt : List He.DefD) : PySem.W.Hook where
  α := He.AlD
  obs := fun s => obsXG n ck fn gt s.heap.get?
  val := fun _ => valX fn gt
  says := fun _ h => ∃ K : Frag, K.In h ∧ SaysX ck fn gt K
  of := fun _ _ e => ⟨_, He.frG_in, e⟩
  keeps := fun _ _ _ ⟨K, hK, c⟩ k => ⟨K, PySem.W.Frag.In.keeps hK k, c⟩
theorem obsXG_eq {n : Nat} {ck : List Ck} {fn gt : List He.DefD} {g : Addr → Option Obj} {s : Shared}
    (h : ∀ a, g a = s.heap.get? a) : obsXG n ck fn gt g = (hookX n ck fn gt).obs s := by
  have e : g = s.heap.get? := funext h
  subst e
  exact rfl
theorem SaysX.bools {ck : List Ck} {fn gt : List He.DefD} {K : Frag} (c : SaysX ck fn gt K) :
    (ck.all (fun c => c K) && (fn.all (fun d => d.ok K) && gt.all (fun d => gok K d))) = true := congrArg Prod.fst c
theorem SaysX.fact {ck : List Ck} {fn gt : List He.DefD} {K : Frag} (c : SaysX ck fn gt K) (i : Nat) {f : Ck}
    (h : ck[i]? = some f := by rfl) : f K = true :=
  List.all_eq_true.mp (He.ba c.bools).1 f (List.mem_of_getElem? h)
/-- the function object that stands there -/
def fdOf (K : Frag) (a : Addr) : FuncData := match K.lookup a with
  | some ⟨_, _, .func fd, _⟩ => fd
  | _ => PySem.W.fnOf "" "" ⟨[], [], none, [], [], none, []⟩ [] ⟨.function, [], false, false, []⟩ .none .none .none .none none .none .none
def fdA (K : Frag) (p : Str × Option Str) : FuncData := fdOf K (He.fAd K p)
def gdA (K : Frag) (p : Str × Option Str) : FuncData := fdOf K (gA K p)
abbrev FunA (K : Frag) (d : He.DefD) : Prop :=
  FunD K d.name d.qual d.params d.body d.scope (d.dvs K) (d.kws K) (He.fAd K d.at_) (fdA K d.at_)
abbrev FunG (K : Frag) (d : He.DefD) : Prop :=
  FunD K d.name d.qual d.params d.body d.scope (d.dvs K) (d.kws K) (gA K d.at_) (gdA K d.at_)
theorem SaysX.def_ {ck : List Ck} {fn gt : List He.DefD} {K : Frag} (c : SaysX ck fn gt K) (i : Nat) {d : He.DefD}
    (h : fn[i]? = some d := by rfl) : FunA K d := by
  have e : fn.map (fun d => He.fnW K d.at_) ++ gt.map (fun d => gnW K d.at_) = fn.map He.DefD.val ++ gt.map He.DefD.val := congrArg Prod.snd c
  have e1 := (List.append_inj e (by rw [List.length_map, List.length_map])).1
  have e2 := congrArg (fun l => l[i]?) e1
  simp only [List.getElem?_map, h, Option.map_some, Option.some.injEq] at e2
  obtain ⟨fd, F⟩ := He.DefD.funD e2 (List.all_eq_true.mp (He.ba (He.ba c.bools).2).1 d (List.mem_of_getElem? h))
  have q : fdA K d.at_ = fd := by
    obtain ⟨oc, od, dV, kV, doc, pm, an, cdv, ct, osl, r, lk, _⟩ := F.ex
    unfold fdA fdOf
    rw [lk]
  unfold FunA
  rw [q]
  exact F
theorem SaysX.get_ {ck : List Ck} {fn gt : List He.DefD} {K : Frag} (c : SaysX ck fn gt K) (i : Nat) {d : He.DefD}
    (h : gt[i]? = some d := by rfl) : FunG K d := by
  have e : fn.map (fun d => He.fnW K d.at_) ++ gt.map (fun d => gnW K d.at_) = fn.map He.DefD.val ++ gt.map He.DefD.val := congrArg Prod.snd c
  have e1 := (List.append_inj e (by rw [List.length_map, List.length_map])).2
  have e2 := congrArg (fun l => l[i]?) e1
  simp only [List.getElem?_map, h, Option.map_some, Option.some.injEq] at e2
  obtain ⟨fd, F⟩ := funG e2 (List.all_eq_true.mp (He.ba (He.ba c.bools).2).2 d (List.mem_of_getElem? h))
  have q : gdA K d.at_ = fd := by
    obtain ⟨oc, od, dV, kV, doc, pm, an, cdv, ct, osl, r, lk, _⟩ := F.ex
    unfold gdA fdOf
    rw [lk]
  unfold FunG
  rw [q]
  exact F
/-- a property of a class -/
def proB (K : Frag) (C : Addr) (f : Str) : Bool := He.eqO (PySem.W.findIn K (.ref C) f) (some (some (.ref (He.ma K C f)))) &&
  (He.eqO (PySem.W.specialIn K (.ref (He.ma K C f)) "__get__") (some (some (.builtin "property.__get__"))) &&
  (decide (PySem.W.takesIn K (.ref (He.ma K C f)) = some true) && (match PySem.W.recIn K (He.ma K C f) "property" with | some (.ref _ :: _) => true | _ => false)))
theorem proB_ok {K : Frag} {x f : Str} (q : proB K (He.ga K x) f = true) : PropOf K (He.ga K x) f (He.ma K (He.ga K x) f) (gA K (x, some f)) := by
  obtain ⟨a, q⟩ := He.ba q
  obtain ⟨b, q⟩ := He.ba q
  obtain ⟨c, d⟩ := He.ba q
  refine ⟨He.eqO_ok a, He.eqO_ok b, of_decide_eq_true c, ?_⟩
  show ∃ rest, PySem.W.recIn K (He.ma K (He.ga K x) f) "property" = some (.ref (gA K (x, some f)) :: rest)
  have e : gA K (x, some f) = (match PySem.W.recIn K (He.ma K (He.ga K x) f) "property" with
    | some (.ref g :: _) => g
    | _ => 0) := rfl
  rw [e]
  split at d
  · rename_i g r h
    rw [h]
    exact ⟨r, rfl⟩
  · cases d
/-! own exception classes, over ValueError at any depth -/
def oexO (K : Frag) (C : Addr) : Bool := (match K.lookup C with
  | some ⟨.type "type", _, .cls cd, sl⟩ => (match cd.mro, sl.toList with
    | .ref C' :: bm, [_, _, _, _, some (.builtin n), _] =>
      C' == C && (n == "ValueError.__new__" && (!cd.hasDel && (cd.hasDict && PySem.HandSPX.refsVE bm)))
    | _, _ => false)
  | _ => false)
theorem oexO_ok {K : Frag} {C : Addr} (q : oexO K C = true) :
    ∃ nm qn N bs bm sn sub ab col dd k0 k1 k2 k3 k5, K.lookup C = some (excClassObj nm qn C N bs bm true sn sub ab col dd k0 k1 k2 k3 k5 "ValueError.__new__") ∧ PySem.HandSPX.refsVE bm = true := by
  unfold oexO at q
  split at q
  · rename_i dd cd sl ho
    split at q
    · rename_i c1 bm k0 k1 k2 k3 n k5 hm hs
      simp only [Bool.and_eq_true, beq_iff_eq, Bool.not_eq_true'] at q
      obtain ⟨e1, e2, e3, e4, e5⟩ := q
      subst e1 e2
      obtain ⟨nm, bs, mro, ns, qn, hd, sn, sub, ab, col, dl⟩ := cd
      simp only at hm e3 e4
      subst hm e3 e4
      obtain ⟨l⟩ := sl
      simp only at hs
      subst hs
      exact ⟨nm, qn, ns, bs, bm, sn, sub, ab, col, dd, k0, k1, k2, k3, k5, ho, e5⟩
    · cases q
  · cases q
def oexB (K : Frag) (C : Addr) : Bool := oexO K C && (He.eqO (PySem.W.findIn K (.ref C) "__setattr__") (some (some (.builtin "object.__setattr__"))) &&
  (decide (PySem.W.subIn K (.ref C) (.type "BaseException") = some true) && (decide (PySem.W.typeIn K (.ref C) = some (.type "type")) && PySem.W.keepIn K (.ref C))))
theorem oexB_ok {K : Frag} {C : Addr} (q : oexB K C = true) : OexC K C := by
  obtain ⟨a, q⟩ := He.ba q
  obtain ⟨b, q⟩ := He.ba q
  obtain ⟨c, q⟩ := He.ba q
  obtain ⟨d, e⟩ := He.ba q
  exact ⟨oexO_ok a, He.eqO_ok b, of_decide_eq_true c, of_decide_eq_true d, e⟩
def excB (K : Frag) (D : Addr) : Bool := xfB K D && (He.eqO (PySem.W.findIn K (.ref D) "__class__") (some (some (.builtin "object.__class__"))) &&
  (He.eqO (PySem.W.specialIn K (.builtin "object.__class__") "__get__") (some (some (.builtin "getset_descriptor.__get__"))) &&
  (decide (PySem.W.takesIn K (.builtin "object.__class__") = some true) && decide (PySem.W.mroIn K D (.type "object") = some true))))
theorem excB_ok {K : Frag} {D : Addr} (q : excB K D = true) : ExcC K D := by
  obtain ⟨a, q⟩ := He.ba q
  obtain ⟨b, q⟩ := He.ba q
  obtain ⟨c, q⟩ := He.ba q
  obtain ⟨d, e⟩ := He.ba q
  have x := xfB_ok a
  exact ⟨x.ga, x.gg, x.exC, x.hdC, He.eqO_ok b, He.eqO_ok c, of_decide_eq_true d, of_decide_eq_true e⟩
end S
namespace S
open PySem PySem.Spec PyProof.Rows L2
/-! promises by their number of arguments -/
def Sp1 (f : V → Hp → VK → XK → Prop) : Sp := fun vs H Q E => ∃ x, vs = [x] ∧ f x H Q E
def Sp2 (f : V → V → Hp → VK → XK → Prop) : Sp := fun vs H Q E => ∃ x y, vs = [x, y] ∧ f x y H Q E
def Sp3 (f : V → V → V → Hp → VK → XK → Prop) : Sp := fun vs H Q E => ∃ x y z, vs = [x, y, z] ∧ f x y z H Q E
def Sp4 (f : V → V → V → V → Hp → VK → XK → Prop) : Sp := fun vs H Q E => ∃ x y z u, vs = [x, y, z, u] ∧ f x y z u H Q E
def Sp5 (f : V → V → V → V → V → Hp → VK → XK → Prop) : Sp := fun vs H Q E => ∃ x y z u v, vs = [x, y, z, u, v] ∧ f x y z u v H Q E
section
variable {vs : List V} {H : Hp} {Q : VK} {E : XK}
theorem splen1 {f} (h : Sp1 f vs H Q E) : vs.length = 1 := by obtain ⟨_, rfl, _⟩ := h; rfl
theorem splen2 {f} (h : Sp2 f vs H Q E) : vs.length = 2 := by obtain ⟨_, _, rfl, _⟩ := h; rfl
theorem splen3 {f} (h : Sp3 f vs H Q E) : vs.length = 3 := by obtain ⟨_, _, _, rfl, _⟩ := h; rfl
theorem splen4 {f} (h : Sp4 f vs H Q E) : vs.length = 4 := by obtain ⟨_, _, _, _, rfl, _⟩ := h; rfl
theorem splen5 {f} (h : Sp5 f vs H Q E) : vs.length = 5 := by obtain ⟨_, _, _, _, _, rfl, _⟩ := h; rfl
end
/-! built-ins by name -/
theorem boot_int : bootBuiltins "int" = some (.type "int") := by decide +kernel
theorem boot_bool : bootBuiltins "bool" = some (.type "bool") := by decide +kernel
theorem boot_str : bootBuiltins "str" = some (.type "str") := by decide +kernel
theorem boot_list : bootBuiltins "list" = some (.type "list") := by decide +kernel
theorem boot_tuple : bootBuiltins "tuple" = some (.type "tuple") := by decide +kernel
theorem boot_dict : bootBuiltins "dict" = some (.type "dict") := by decide +kernel
theorem boot_len : bootBuiltins "len" = some (.builtin "len") := by decide +kernel
theorem boot_abs : bootBuiltins "abs" = some (.builtin "abs") := by decide +kernel
theorem boot_isinstance : bootBuiltins "isinstance" = some (.builtin "isinstance") := by decide +kernel
section
variable {X : Cx} {CX : CXT} {k n : Nat} {f C : Addr} {fd : FuncData} {ps ks : List Str} {sp : Sp} {E : L2.St → XK} {x m : Str} {p pos apos : Pos} {o e : Expr} {es : List Expr} {kws : List Keyword} {ta : TE} {t tk : TA} {g : List Value → List Value → List Value} {gV : List V → List V → List V}
theorem pe_globI {i : Int} (hg : Gl X x) (h : ∃ t, X.mg x = some (.int i t)) (hd : (x == ("__debug__" : Str)) = false := by decide) : PE X (.Name x pos) (tC (.int i)) := by
  obtain ⟨t, h⟩ := h
  exact pe_glob hg h ⟨t, rfl⟩ hd
theorem pe_globS {z : Str} (hg : Gl X x) (h : ∃ t, X.mg x = some (.str z t)) (hd : (x == ("__debug__" : Str)) = false := by decide) : PE X (.Name x pos) (tC (.str z)) := by
  obtain ⟨t, h⟩ := h
  exact pe_glob hg h ⟨t, rfl⟩ hd
/-! what is raised, wished for at the slots -/
theorem pas0 {X : Cx} : ∀ σ : L2.St, PassesAt (L2.CX X.prog X.w) X σ E0 := fun σ pins H s e s' I c => passL pins σ H s e s' I c
theorem pasE {X : Cx} {W : WX} (tk : Takes X W) : ∀ σ : L2.St, PassesAt (L2.CX X.prog X.w) X σ (fun cls d H => W cls d σ H) := fun σ => passAt tk σ
theorem own_of {K : Value → Shared → Prop} {E1 : Value → Shared → Prop} (hx : X.xe = fun e s' => wpAny (model X.prog X.w) X.A (leaving X.env e) (fun _ s2 => K e s2) E1 s') : PassesOwn (model X.prog X.w) X.A X.env X.xe := passes_of hx
theorem kb_of_binds {K : Frag} {ds : List Value} {dvs : List V} (hb : Binds K fd ps ds) (hd : Vals dvs ds) (hl : n + dvs.length = ps.length) : KBn K fd ps n [] (fun us _ => us ++ ds) (fun vs _ => vs ++ dvs) where
  to := fun s us ws k l1 l2 => by
    have e : ([] : List Str).zip ws = [] := rfl
    rw [e]
    exact hb s us k (by rw [List.length_append, l1, ← hd.length]; exact hl)
  rel := fun r _ => r.append hd
/-! f(e, .., k = v, ..); C(e, .., k = v, ..); o.m(e, .., k = v, ..) -/
def tFnS (n m : Nat) (sp : Sp) (gV : List V → List V → List V) (E : L2.St → XK) (t tk : TA) : TE := fun σ H Q =>
  t σ H fun vs H1 => tk σ H1 fun zs H2 => vs.length = n ∧ zs.length = m ∧ sp (gV vs zs) H2 Q (E σ)
def tMkS (C : Addr) (n m : Nat) (sp : Sp) (gV : List V → List V → List V) (E : L2.St → XK) (t tk : TA) : TE := fun σ H Q =>
  t σ H fun vs H1 => tk σ H1 fun zs H2 => vs.length = n ∧ zs.length = m ∧ ∀ x dx, H2 x = none → H2 dx = none → dx ≠ x →
    sp (gV (.ref x :: vs) zs) (upd (upd H2 dx (.own x)) x (.ins C dx [])) (fun v H3 => v = .non ∧ Q (.ref x) H3) (E σ)
def tMtS (C : Addr) (m : Str) (n l : Nat) (sp : Sp) (gV : List V → List V → List V) (E : L2.St → XK) (ta : TE) (t tk : TA) : TE := fun σ H Q =>
  ta σ H fun x H1 => ∃ a dx fs, x = .ref a ∧ H1 a = some (.ins C dx fs) ∧ fs.lookup m = none ∧
    t σ H1 fun vs H2 => tk σ H2 fun zs H3 => vs.length = n ∧ zs.length = l ∧ sp (gV (x :: vs) zs) H3 Q (E σ)
section
variable {pins : List (Addr × Obj)} {σ : L2.St} {H : Hp} {s : Shared} {Q : VK} {us ws : List Value} {vs zs : List V}
theorem run_S (F : FnOk X.prog X.w X.K X.mg X.base CX k f fd ps sp) (hr : Room k X.A) (hb : KBn X.K fd ps n ks g gV) (hx : PassesAt CX X σ (E σ)) (I : Inv X pins σ H s) (r : Vals vs us) (rz : Vals zs ws)
    (l1 : vs.length = n) (l2 : zs.length = ks.length) (h : sp (gV vs zs) H Q (E σ)) : wpAny (model X.prog X.w) X.A (call (.ref f) us (ks.zip ws)) (EP X pins σ Q) X.xe s := by
  have a1 : us.length = n := r.length.symm.trans l1
  have a2 : ws.length = ks.length := rz.length.symm.trans l2
  refine wpAny_call (codeAny_mono (F.run X.A X.stack s H ⟨us, ks.zip ws⟩ (g us ws) (gV vs zs) Q (E σ) hr I.env0 (hb.to s us ws I.kIn a1 a2) (hb.rel r rz) h) fun r s' hq => ?_)
  match r, hq with
  | .error e, hq => exact hx pins H s e s' I hq
  | .ok (.ret u), hq => exact I.after hq
  | .ok .next, hq => exact hq.elim
  | .ok .brk, hq => exact hq.elim
  | .ok .cont, hq => exact hq.elim
theorem run_mkS (M : Mk X.K C f) (F : FnOk X.prog X.w X.K X.mg X.base CX k f fd ps sp) (hr : Room (k + 1) X.A) (hb : KBn X.K fd ps (n + 1) ks g gV) (hx : PassesAt CX X σ (E σ)) (I : Inv X pins σ H s) (r : Vals vs us) (rz : Vals zs ws)
    (l1 : vs.length = n) (l2 : zs.length = ks.length) (h : ∀ x dx, H x = none → H dx = none → dx ≠ x → sp (gV (.ref x :: vs) zs) (upd (upd H dx (.own x)) x (.ins C dx [])) (fun v H2 => v = .non ∧ Q (.ref x) H2) (E σ)) :
    wpAny (model X.prog X.w) X.A (call (.ref C) us (ks.zip ws)) (EP X pins σ Q) X.xe s := by
  have hq := h (s.heap.objs.size + 1) s.heap.objs.size (I.hok.fresh (Nat.le_succ _)) (I.hok.fresh (Nat.le_refl _)) (Nat.ne_of_lt (Nat.lt_succ_self _))
  have J := Inv.made (C := C) I
  have r1 : Vals (V.ref (s.heap.objs.size + 1) :: vs) (Value.ref (s.heap.objs.size + 1) :: us) := .cons rfl r
  have a1 : (Value.ref (s.heap.objs.size + 1) :: us).length = n + 1 := by rw [← r1.length]; exact congrArg Nat.succ l1
  have a2 : ws.length = ks.length := rz.length.symm.trans l2
  have run := F.run _ X.stack _ _ ⟨Value.ref (s.heap.objs.size + 1) :: us, ks.zip ws⟩ (g (Value.ref (s.heap.objs.size + 1) :: us) ws) _ _ (E σ) (hr.make C us (ks.zip ws)) (J.env0.make C us (ks.zip ws)) (hb.to _ _ ws J.kIn a1 a2) (hb.rel r1 rz) hq
  refine wpAny_call (make_map (f := f) I.kIn M.makes M.init (beq_iff_eq.mp M.fn) (codeAny_mono run fun r s' hq2 => ?_))
  match r, hq2 with
  | .error e, hq2 => exact hx pins _ _ e s' J hq2
  | .ok (.ret u), hq2 =>
    obtain ⟨v, H2, J2, rv, ev, q3⟩ := J.after hq2
    subst ev
    exact ⟨rv, ⟨V.ref (s.heap.objs.size + 1), H2, J2, rfl, q3⟩⟩
  | .ok .next, hq2 => exact hq2.elim
  | .ok .brk, hq2 => exact hq2.elim
  | .ok .cont, hq2 => exact hq2.elim
end
theorem pe_fnS (F : FnOk X.prog X.w X.K X.mg X.base CX k f fd ps sp) (hr : Room k X.A) (hg : Gl X x) (hm : X.mg x = some (.ref f)) (hk : PySem.W.keepIn X.K (.ref f) = true) (hb : KBn X.K fd ps n ks g gV) (hx : ∀ σ, PassesAt CX X σ (E σ))
    (ha : PA X (e :: es) t) (hkw : PK X kws tk) (hall : (backToKw pos (keywordEach kws X.env)).all (·.1.isSome) = true) (hks : (backToKw pos (keywordEach kws X.env)).filterMap (·.1) = ks)
    (hdb : (x == ("__debug__" : Str)) = false := by decide) (he : starEach (e :: es) X.env = (false, eval e X.env) :: starEach es X.env := by rfl)
    (hpl : ((backTo pos (starEach (e :: es) X.env)).any (·.1) || (backToKw pos (keywordEach kws X.env)).any (·.1.isNone)) = false := by rfl) :
    PE X (.Call (.Name x p) (e :: es) kws pos) (tFnS n ks.length sp gV E t tk) := ⟨fun pins s σ H Q I h =>
  wpAny_Call_Name_kw (ld_glob I hg hm (PySem.W.callWith_KW (h₀ := X.base) I.ok.mod.kin hk hall (thn (ha.run pos pins s σ H _ I h) fun us s1 ⟨vs, H1, I1, r, q⟩ =>
    thn (hkw.run pos pins s1 σ H1 _ I1 q) fun ws s2 ⟨zs, H2, I2, rz, l1, l2, q2⟩ => ⟨I2.kIn, by rw [hks]; exact run_S F hr hb (hx σ) I2 r rz l1 l2 q2⟩) hpl he) hdb)⟩
theorem pe_mkS (M : Mk X.K C f) (F : FnOk X.prog X.w X.K X.mg X.base CX k f fd ps sp) (hr : Room (k + 1) X.A) (hg : Gl X x) (hm : X.mg x = some (.ref C)) (hb : KBn X.K fd ps (n + 1) ks g gV) (hx : ∀ σ, PassesAt CX X σ (E σ))
    (ha : PA X (e :: es) t) (hkw : PK X kws tk) (hall : (backToKw pos (keywordEach kws X.env)).all (·.1.isSome) = true) (hks : (backToKw pos (keywordEach kws X.env)).filterMap (·.1) = ks)
    (hdb : (x == ("__debug__" : Str)) = false := by decide) (he : starEach (e :: es) X.env = (false, eval e X.env) :: starEach es X.env := by rfl)
    (hpl : ((backTo pos (starEach (e :: es) X.env)).any (·.1) || (backToKw pos (keywordEach kws X.env)).any (·.1.isNone)) = false := by rfl) :
    PE X (.Call (.Name x p) (e :: es) kws pos) (tMkS C n ks.length sp gV E t tk) := ⟨fun pins s σ H Q I h =>
  wpAny_Call_Name_kw (ld_glob I hg hm (PySem.W.callWith_KW (h₀ := X.base) I.ok.mod.kin M.kp hall (thn (ha.run pos pins s σ H _ I h) fun us s1 ⟨vs, H1, I1, r, q⟩ =>
    thn (hkw.run pos pins s1 σ H1 _ I1 q) fun ws s2 ⟨zs, H2, I2, rz, l1, l2, q2⟩ => ⟨I2.kIn, by rw [hks]; exact run_mkS M F hr hb (hx σ) I2 r rz l1 l2 q2⟩) hpl he) hdb)⟩
theorem pe_mtS {pl : Sem Bool} (he : PE X o ta) (c : Cls X.K C) (hm : Meth X.K C m f) (F : FnOk X.prog X.w X.K X.mg X.base CX k f fd ps sp) (hr : Room k X.A) (hb : KBn X.K fd ps (n + 1) ks g gV) (hx : ∀ σ, PassesAt CX X σ (E σ))
    (ha : PA X (e :: es) t) (hkw : PK X kws tk) (hall : (backToKw pos (keywordEach kws X.env)).all (·.1.isSome) = true) (hks : (backToKw pos (keywordEach kws X.env)).filterMap (·.1) = ks)
    (hst : starEach (e :: es) X.env = (false, eval e X.env) :: starEach es X.env := by rfl)
    (hpl : ((backTo pos (starEach (e :: es) X.env)).any (·.1) || (backToKw pos (keywordEach kws X.env)).any (·.1.isNone)) = false := by rfl)
    (ht : eval (.Call (.Attribute o m apos) (e :: es) kws pos) X.env = (do
      let ov ← eval o X.env
      standAt apos.atName
      let (f, first) ← holding [ov] (getMethod ov m pl)
      callWith pos f first (backTo pos (starEach (e :: es) X.env)) (backToKw pos (keywordEach kws X.env))) := by rfl) :
    PE X (.Call (.Attribute o m apos) (e :: es) kws pos) (tMtS C m n ks.length sp gV E ta t tk) := by
  refine ⟨fun pins s σ H Q I h => PySem.W.methodCall_KW (pl := pl) (thn (he.run pins s σ H _ I h) fun u s1 ⟨x, H1, I1, rx, a, dx, fs, ex, ea, l, q⟩ => ?_) ht⟩
  subst ex
  cases (show u = Value.ref a from rx)
  refine getmeth_ok I1 ea c hm l (PySem.W.callWith_KW (first := [.ref a]) (h₀ := X.base) I.ok.mod.kin hm.kp hall (thn (ha.run pos pins s1 σ H1 _ I1 q) fun us s2 ⟨vs, H2, I2, r, q2⟩ =>
    thn (hkw.run pos pins s2 σ H2 _ I2 q2) fun ws s3 ⟨zs, H3, I3, rz, l1, l2, q3⟩ => ⟨I3.kIn, ?_⟩) hpl hst)
  rw [hks]
  exact run_S (us := .ref a :: us) (vs := .ref a :: vs) F hr hb (hx σ) I3 (.cons rfl r) rz (congrArg Nat.succ l1) l2 q3
theorem pe_mtS0 {pl : Sem Bool} (he : PE X o ta) (c : Cls X.K C) (hm : Meth X.K C m f) (F : FnOk X.prog X.w X.K X.mg X.base CX k f fd ps sp) (hr : Room k X.A) (hb : KBn X.K fd ps (0 + 1) ks g gV) (hx : ∀ σ, PassesAt CX X σ (E σ))
    (hkw : PK X kws tk) (hall : (backToKw pos (keywordEach kws X.env)).all (·.1.isSome) = true) (hks : (backToKw pos (keywordEach kws X.env)).filterMap (·.1) = ks)
    (hpl : ((backTo pos (starEach [] X.env)).any (·.1) || (backToKw pos (keywordEach kws X.env)).any (·.1.isNone)) = false := by rfl)
    (ht : eval (.Call (.Attribute o m apos) [] kws pos) X.env = (do
      let ov ← eval o X.env
      standAt apos.atName
      let (f, first) ← holding [ov] (getMethod ov m pl)
      callWith pos f first (backTo pos (starEach [] X.env)) (backToKw pos (keywordEach kws X.env))) := by rfl) :
    PE X (.Call (.Attribute o m apos) [] kws pos) (tMtS C m 0 ks.length sp gV E ta tNil tk) := by
  refine ⟨fun pins s σ H Q I h => PySem.W.methodCall_KW (pl := pl) (thn (he.run pins s σ H _ I h) fun u s1 ⟨x, H1, I1, rx, a, dx, fs, ex, ea, l, q⟩ => ?_) ht⟩
  subst ex
  cases (show u = Value.ref a from rx)
  refine getmeth_ok I1 ea c hm l (PySem.W.callWith_KW0 (first := [.ref a]) (h₀ := X.base) I.ok.mod.kin hm.kp hall
    (thn (hkw.run pos pins s1 σ H1 _ I1 q) fun ws s3 ⟨zs, H3, I3, rz, l1, l2, q3⟩ => ⟨I3.kIn, ?_⟩) hpl)
  rw [hks]
  exact run_S (us := [.ref a]) (vs := [.ref a]) F hr hb (hx σ) I3 (.cons rfl .nil) rz rfl l2 q3
/-! raise C(e, ..), C with an own __init__ -/
theorem ps_raiseO {W : WX} {fI : Addr} {pos2 : Pos} (hc : X.calm = true) (tk : Takes X W) (T : OexC X.K C) (iC : PySem.W.findIn X.K (.ref C) "__init__" = some (some (.ref fI))) (tI : PySem.W.typeIn X.K (.ref fI) = some (.type "function"))
    (F : FnOk X.prog X.w X.K X.mg X.base (L2.CX X.prog X.w) k fI fd ps sp) (hr : Room (k + 1) X.A) (hb : KBn X.K fd ps n [] (fun us _ => us ++ []) (fun vs _ => vs ++ [])) (hg : Gl X x) (hm : X.mg x = some (.ref C)) (ha : PA X (e :: es) t)
    (hn : n = ps.length := by rfl)
    (hdb : (x == ("__debug__" : Str)) = false := by decide) (he : starEach (e :: es) X.env = (false, eval e X.env) :: starEach es X.env := by rfl) (hpl : (backTo pos (starEach es X.env)).any (·.1) = false := by rfl) :
    PS X (.Raise (some (.Call (.Name x p) (e :: es) [] pos)) none pos2) (fun _ σ H => tMkO C sp [] t σ H fun cls d H' => W cls d σ H') := by
  refine ps_raise hc tk (pmk_oex (ds := []) (dvs := []) T iC tI F hr (fun s us k hl => ?_) .nil passL hg hm ha hdb he hpl)
  exact hb.to s us [] k (by rw [List.append_nil] at hl; rw [hl, hn]) rfl
end
/-! isinstance of the caught error, with a dict of its own -/
section
open PySem.W PySem.Calls
variable {prog : Program} {w : World} {A : Around} {Ex : Value → Shared → Prop} {s : Shared} {K : Frag} {x D : Addr} {ox : Obj} {od : Option Obj}
theorem findObj_dataX {C : Addr} {name : Str} {a g : Value} {od : Option Obj} (hc : (clsIn K C).isSome = true) (ha : findIn K (.ref C) name = some (some a)) (hg : specialIn K a "__get__" = some (some g)) (ht : takesIn K a = some true) : findObj K C od name = some (.bind g a) := by
  obtain ⟨cd, hc⟩ := Option.isSome_iff_exists.mp hc
  unfold findObj
  simp [hc, ha, hg, ht]
theorem kin_classX (c : ExcC K D) {Q : Option Value → Shared → Prop} (X : K.In s.heap) (I : InstAt s.heap x ox D od) (h : Q (some (.ref D)) { s with toks := s.toks + 1 }) : wpAny (model prog w) A (getAttr? (.ref x) "__class__") Q Ex s := by
  have hf : findObj K D od "__class__" = some (.bind (.builtin "getset_descriptor.__get__") (.builtin "object.__class__")) :=
    findObj_dataX (by obtain ⟨cd, hc, _⟩ := any_some c.hd; rw [hc]; rfl) c.ha c.hn c.ht
  obtain ⟨hp, g, d, t, os⟩ := s
  have a0 := I.type (M := model prog w)
  have a1 := looks_findIn (M := model prog w) X c.hg
  have a2 := looks_findIn (M := model prog w) X c.hk
  have a3 := looks_find (M := model prog w) X I hf
  have sub : Looks (model prog w) hp (isInstance (.ref x) (.type "BaseException")) true := a0.andThen (looks_subIn X c.hs)
  have hx2 : (Value.builtin "BaseException.__getattribute__" == Value.builtin "object.__getattribute__") = false := by decide +kernel
  unfold getAttr? getAttrBy? getAttrBy
  refine wpAny_bind (wpAny_mkText (wpAny_bind (wpAny_attempt (wpAny_holding (wpAny_bind (a0.at (wpAny_bind (a1.at ?_))))))))
  have hx1 : (onTheHeap (Value.ref D) && Value.builtin "BaseException.__getattribute__" == Value.builtin "object.__getattribute__") = false := by
    rw [hx2]; rfl
  dsimp only
  rw [hx1, if_neg Bool.false_ne_true]
  unfold getAttrByItsOwn hookBefore
  refine wpAny_bind ?_
  rw [if_pos (show onTheHeap (Value.ref D) = true from rfl)]
  refine a2.at (wpAny_bind (wpAny_attempt (wpAny_holding ?_)))
  unfold callGetattribute
  have hx0 : ∀ z : Bool, (false && z) = false := fun _ => rfl
  rw [hx0, if_neg Bool.false_ne_true]
  unfold boundAndCalled
  rw [PySem.F.excAttr_ValueError.ga.bind (.ref x)]
  refine wpAny_bind (wpAny_pure ?_)
  refine wpAny_call (codeAny_call_builtin PySem.F.excAttr_ValueError.ga.plain PySem.F.entry_bexc_ga ?_)
  refine @check_slot (model prog w) _ _ ⟨hp, g, d, t + 1, os⟩ "BaseException.__getattribute__" "BaseException" "__getattribute__" (.ref x) [.str "__class__" t] [] _ (by decide +kernel) (by decide +kernel) sub (PySem.F.args_bexc_ga (.ref x) (.str "__class__" t)) ?_
  unfold Builtin.«object.__getattribute__»
  refine wpAny_bind (wpAny_of_eq (a := ((Value.ref x : Value), [Value.str "__class__" t])) (by first | rfl | (simp only [slotArgs]; rfl)) ?_)
  refine wpAny_bind (wpAny_pure (wpAny_bind (a0.at (wpAny_bind (a3.at ?_)))))
  refine wpAny_bind (wpAny_holding (wpAny_call (class_get (s := ⟨hp, g, d, t + 1, os⟩) (ox := ox) (od := od) X I c.hm ?_)))
  refine wpAny_pure ?_
  dsimp only
  rw [handedOut_of (v := .ref D) rfl]
  first
    | exact wpAny_pure (wpAny_pure h) | exact wpAny_pure h | exact wpAny_pure (wpAny_bind (wpAny_pure (wpAny_pure h)))
theorem kitx_excX (c : ExcC K D) : KitX K (.ref x) (.ref D) (fun h => InstAt h x ox D od) where
  ty := fun _ _ _ I => I.type
  it := fun _ _ X _ A' Q' E' s' k q => by
    obtain ⟨cd, hc, _⟩ := any_some c.hd
    unfold clsIn at hc
    split at hc
    · rename_i ho
      unfold isType loadHead
      exact wpAny_bind (wpAny_loadPart (k _ _ (X _ _ ho)) (wpAny_pure q))
    · cases hc
  ne := fun h tp dd its n sl X htp => (handS_kitx_exc (x := x) (ox := ox) c.hg c.hk c.hs c.hd c.ha c.hn c.ht c.hm).ne h tp dd its n sl X htp
  ca := fun X I k => kin_classX c X I k
end
/-- isinstance(e, c), e the error that the suite holds (class D, dict d) -/
def rIsX (K : Frag) (D a : Addr) (cls : Value) (d : Option Addr) : List V → Hp → VK → Prop := fun xs H Q => cls = .ref D ∧
  (d = none ∨ ∃ dd fs, d = some dd ∧ H dd = some (.xd fs)) ∧ ∃ (c : V) (cv : Value) (b : Bool), xs = [.ref a, c] ∧ ClsV c cv ∧ PySem.W.kitOne K (.ref D) cv = some b ∧ Q (.bl b) H
theorem call_isX {X : Cx} {a D : Addr} {oe : Obj} {cls : Value} {d : Option Addr} {pn : List (Addr × Obj)} (C : ExcC X.K D) (hz : Zc cls d oe) (hf : ∃ vs, oe.data = .fields vs) :
    CallR (X.suite a ((a, oe) :: pn)) (.builtin "isinstance") (rIsX X.K D a cls d) := by
  intro pins s σ H xs us Q I r h
  obtain ⟨ec, hd, c, cv, b, rfl, hcv, e, q⟩ := h
  obtain ⟨u1, u2, rfl, r1, r2⟩ := vals2 r
  cases (show u1 = Value.ref a from r1)
  cases hcv.eq r2
  obtain ⟨ha, _⟩ := I.pin (a, oe) (List.mem_append_left _ List.mem_cons_self)
  obtain ⟨vs, hv⟩ := hf
  have nc : PySem.W.notCls oe = true := by unfold PySem.W.notCls; rw [hv]
  obtain ⟨h1, h2⟩ := hz
  subst ec
  obtain ⟨od, J⟩ : ∃ od, PySem.W.InstAt s.heap a oe D od := by
    rcases hd with rfl | ⟨dd, fs, rfl, hx⟩
    · exact ⟨none, ha, h1, nc, by rw [h2]; trivial⟩
    · obtain ⟨mA, hns, _⟩ := (show ObjOk X.prog X.w H s.heap dd (.xd fs) from I.hok dd _ hx)
      obtain ⟨od, ho, _⟩ := lookIn_ns hns
      exact ⟨some od, ha, h1, nc, by rw [h2]; exact ho⟩
  exact PySem.W.kia_one (kitx_excX C) I.kIn J e (fun z => nomatch z) fun tk => ⟨.bl b, H, I.tok tk, rfl, q⟩
/-! an instance of an own class: what isinstance asks of its class -/
structure InsT (K : Frag) (C : Addr) : Prop where
  ha : PySem.W.findIn K (.ref C) "__class__" = some (some (.builtin "object.__class__"))
  hn : PySem.W.specialIn K (.builtin "object.__class__") "__get__" = some (some (.builtin "getset_descriptor.__get__"))
  ht : PySem.W.takesIn K (.builtin "object.__class__") = some true
  hm : PySem.W.mroIn K C (.type "object") = some true
def insB (K : Frag) (C : Addr) : Bool := He.eqO (PySem.W.findIn K (.ref C) "__class__") (some (some (.builtin "object.__class__"))) &&
  (He.eqO (PySem.W.specialIn K (.builtin "object.__class__") "__get__") (some (some (.builtin "getset_descriptor.__get__"))) &&
  (decide (PySem.W.takesIn K (.builtin "object.__class__") = some true) && decide (PySem.W.mroIn K C (.type "object") = some true)))
theorem insB_ok {K : Frag} {C : Addr} (q : insB K C = true) : InsT K C := by
  obtain ⟨b, q⟩ := He.ba q
  obtain ⟨c, q⟩ := He.ba q
  obtain ⟨d, e⟩ := He.ba q
  exact ⟨He.eqO_ok b, He.eqO_ok c, of_decide_eq_true d, of_decide_eq_true e⟩
theorem InsT.ty {K : Frag} {C a dx : Addr} {H : Hp} {fs : List (Str × V)} (i : InsT K C) (c : Cls K C) (h : H a = some (.ins C dx fs)) : TyX K H (.ref a) (.ref C) := .base (.ins h c i.ha i.hn i.ht i.hm)
/-! * where one factor is small, or both have less than a million bits together -/
def CMulA (i j : Int) : Prop := CMul i j ∨ CMulW i j
theorem op_mulA {X : Cx} : OpR X (binaryOp .Mult) (rI CMulA fun i j => .int (i * j)) := opI fun _ _ _ _ _ _ _ hc q =>
  hc.elim (fun h => mul_int q h.ok) (fun h => mul_int q h.ok)
/-- x is an int (no bool), or known to be none -/
inductive IsI (K : Frag) (H : Hp) : V → Bool → Prop where
  | int (i : Int) : IsI K H (.int i) true
  | bl (b : Bool) : IsI K H (.bl b) false
  | oth {x : V} {t : Value} (h : TyX K H x t) (e : PySem.W.kitOne K t (.type "int") = some false) : IsI K H x false
/-! the end of a law: a head by facts, the script's bits told -/
theorem walk_X {l : PySem.W.OpenLaw} {n k : Nat} {q : Program} {loose : List Str} {XP : (Str → Option Value) → Heap → Prop} {YP : World → Heap → Prop} {d : DefRec} {x : Str}
    (hn : l.most = some n) (hn2 : n ≤ sizeLine) (hdf : d.params.defaults = []) (hr : Room k callerA)
    (F : ∀ (w : World) (mg : Str → Option Value) (fa : Addr) (h : Heap), YP w h → h.Ns mainGlobals mg → mg d.name = some (.ref fa) →
      ∃ (K : Frag) (fd : FuncData) (sp : Sp), K.In h ∧ (∀ (s : Shared) (u : Value), BindsTo s fd ⟨[u], []⟩ [(x, u)]) ∧
        (∀ (H : Hp) (a : Addr) (ns : List Int), ns.length ≤ n → (∀ z ∈ ns, Builtin.Int.intBits z ≤ 1048576) → Only H → SqL K H a (ns.map V.int) → sp [.ref a] H (fun v _ => v = .bl true) E0) ∧
        ∀ base : Heap, K.In base → base.Ns mainGlobals mg → FnOk l.prog w K mg base (L2.CX l.prog w) k fa fd [x] sp) :
    PySem.W.WalkO q loose XP YP l.row.toRowW d [] (fun f vs => PySem.call f vs) := by
  refine Att.attach_callB hn hdf fun w s0 s1 mg mb fa o pm cd doc a vs ns G Y ho hd hcd hmg hobj hints hlen hbits hg => ?_
  obtain ⟨K, fd, sp, KX, hb, hsp, hF⟩ := F w mg fa _ Y G.T.g hmg
  refine law_call KX G.T.g G.T.b G.T.builtins G.T.nolimit hg hobj hints (Nat.le_trans hlen hn2) hr hF hb (fun H hO hS => hsp H a ns hlen hbits hO hS) fun H e s' c => ?_
  obtain ⟨_, _, _, _, _, _, _, _, _, _, _, _, z⟩ := c
  exact z
end S
namespace S
open PySem PySem.Spec PyProof.Rows L2
section
open PySem.W PySem.Calls
variable {prog : Program} {w : World} {A : Around} {Ex : Value → Shared → Prop} {s : Shared} {K : Frag} {x C f : Addr} {ox : Obj} {od : Option Obj} {b tb : Value}
/-- object.__ne__ over an own __eq__ that gives a bool -/
theorem objNe_K {Q : Fin → Shared → Prop} (hu : A.units < cLine) (X : K.In s.heap) (I : InstAt s.heap x ox C od) (hs : findIn K (.ref C) "__eq__" = some (some (.ref f))) (hf : isFn K (.ref f) = true)
    (h : wpAny (model prog w) A (call (.ref f) [.ref x, b]) (fun v s' => ∃ r, v = .bool r ∧ Q (.done (.ret (.bool (!r)))) s') Ex s) :
    wpAny (model prog w) A (Builtin.«object.__ne__» ⟨[.ref x, b], []⟩) Q Ex s := by
  unfold Builtin.«object.__ne__»
  refine wpAny_bind (wpAny_of_eq (a := ((Value.ref x : Value), [b])) (by first | rfl | (simp only [slotArgs]; rfl)) ?_)
  dsimp only
  refine wpAny_bind (wpAny_cRoomFor hu ?_)
  refine wpAny_bind (ifBound_K X I hs hf (wpAny_mono h (fun v s' hv => ?_) fun _ _ e => e))
  obtain ⟨r, rfl, q⟩ := hv
  dsimp only
  refine wpAny_bind (wpAny_truthy_bool ?_)
  first | exact wpAny_pure q | exact q
theorem ne_K {Q : Value → Shared → Prop} (hu : A.units + 1 < cLine) (X : K.In s.heap) (I : InstAt s.heap x ox C od) (hb : Looks (model prog w) s.heap (typeOf b) tb) (hn : notFirst K C tb = true)
    (hne : findIn K (.ref C) "__ne__" = some (some (.builtin "object.__ne__"))) (hm : mroIn K C (.type "object") = some true)
    (hs : findIn K (.ref C) "__eq__" = some (some (.ref f))) (hf : isFn K (.ref f) = true)
    (h : wpAny (model prog w) A.in1 (call (.ref f) [.ref x, b]) (fun v s' => ∃ r, v = .bool r ∧ Q (.bool (!r)) s') Ex s) : wpAny (model prog w) A (richCompare .NotEq (.ref x) b) Q Ex s := by
  have one : wpAny (model prog w) A (tryCompare (.ref x) "__ne__" b) (fun r s' => ∃ v, r = some v ∧ Q v s') Ex s := by
    unfold tryCompare
    refine wpAny_bind (NtL.csib (I.type.andThen (looks_findIn X hne)) (F.cmp_object.ne.bind _) ?_)
    refine wpAny_call (codeAny_call_builtin F.cmp_object.ne.plain F.cmpEntry_ne (check_slot F.cmpKind_ne F.cmpSplit_ne (I.type.andThen (looks_mroIn X hm)) (F.cmpArgs_ne _ _) ?_))
    refine objNe_K (A := A.in1) hu X I hs hf (wpAny_mono h (fun v s' hv => ?_) fun _ _ e => e)
    obtain ⟨r, rfl, q⟩ := hv
    exact ⟨r, rfl, wpAny_pure ⟨_, rfl, q⟩⟩
  unfold richCompare
  simp only [oneThing_ref]
  refine wpAny_holding (wpAny_bind (wpAny_cRoomFor (Nat.lt_of_succ_lt hu) ?_))
  rw [cmpInfo_NotEq]
  dsimp only
  refine wpAny_bind (I.type.here (wpAny_bind (hb.here ?_)))
  split
  · rename_i q
    have e : subIn K tb (.ref C) = some false := by
      rcases Bool.or_eq_true_iff.mp hn with e | e
      · rw [beq_iff_eq.mp e] at q
        simp at q
      · exact beq_iff_eq.mp e
    refine wpAny_bind ((looks_subIn X e).here ?_)
    simp only [Bool.false_eq_true, if_false]
    refine wpAny_bind (wpAny_mono one (fun r s' z => ?_) fun _ _ e => e)
    obtain ⟨v, rfl, hq⟩ := z
    exact wpAny_pure hq
  · refine wpAny_bind (wpAny_pure ?_)
    simp only [Bool.false_eq_true, if_false]
    refine wpAny_bind (wpAny_mono one (fun r s' z => ?_) fun _ _ e => e)
    obtain ⟨v, rfl, hq⟩ := z
    exact wpAny_pure hq
end
section
variable {X : Cx} {n : Nat} {C g : Addr} {sp : Sp}
/-- x op y by x's own method, both instances -/
def rOwnI (K : Frag) (C : Addr) (sp : Sp) : R2 := fun x y H Q => ∃ a dx fs b C' dy gs, x = .ref a ∧ y = .ref b ∧ H a = some (.ins C dx fs) ∧ H b = some (.ins C' dy gs) ∧ PySem.W.notFirst K C (.ref C') = true ∧ sp [x, y] H Q E0
theorem op_ownI {op : CmpOp} (hop : ∀ a b, compareOp op a b = richCompare op a b) (hs : PySem.W.findIn X.K (.ref C) (cmpInfo op).2.1 = some (some (.ref g))) (hf : PySem.W.isFn X.K (.ref g) = true)
    (F : FnR X.prog X.w X.K X.mg X.base (L2.CX X.prog X.w) n g sp) (hr : Room n X.A) : OpR X (compareOp op) (rOwnI X.K C sp) := by
  intro pins s σ H x y v u Q I rx ry h
  obtain ⟨a, dx, fs, b, C', dy, gs, rfl, rfl, ha, hb, hn, q⟩ := h
  cases (show v = Value.ref a from rx)
  cases (show u = Value.ref b from ry)
  obtain ⟨mA, O, _⟩ := ins_get I.hok ha
  obtain ⟨od, J, _⟩ := O.look
  obtain ⟨mB, O2, _⟩ := ins_get I.hok hb
  obtain ⟨od2, J2, _⟩ := O2.look
  obtain ⟨m, hF⟩ := I.fr
  rw [hop]
  refine PySem.W.cmp_K (op := op) (tb := .ref C') hr.units0 hF I.ok.mod.kin J J2.type hn hs hf ?_
  refine wpAny_mono (wpAny_call (run_fnR (us := [.ref a, .ref b]) (vs := [.ref a, .ref b]) F hr passL I (.cons rfl (.cons rfl .nil)) q)) (fun w s' z => ?_) fun _ _ x => x
  obtain ⟨z2, H2, I2, rz, qz⟩ := z
  exact SlX.cmpback rz ⟨z2, H2, I2, rz, qz⟩
/-- x != y by x's own == -/
def rNeI (K : Frag) (C : Addr) (sp : Sp) : R2 := fun x y H Q => ∃ a dx fs b C' dy gs, x = .ref a ∧ y = .ref b ∧ H a = some (.ins C dx fs) ∧ H b = some (.ins C' dy gs) ∧ PySem.W.notFirst K C (.ref C') = true ∧
  sp [x, y] H (fun z H2 => ∃ r, z = .bl r ∧ Q (.bl (!r)) H2) E0
theorem op_neI (hne : PySem.W.findIn X.K (.ref C) "__ne__" = some (some (.builtin "object.__ne__"))) (hm : PySem.W.mroIn X.K C (.type "object") = some true)
    (hs : PySem.W.findIn X.K (.ref C) "__eq__" = some (some (.ref g))) (hf : PySem.W.isFn X.K (.ref g) = true)
    (F : FnR X.prog X.w X.K X.mg X.base (L2.CX X.prog X.w) n g sp) (hr : Room (n + 1) X.A) : OpR X (compareOp .NotEq) (rNeI X.K C sp) := by
  intro pins s σ H x y v u Q I rx ry h
  obtain ⟨a, dx, fs, b, C', dy, gs, rfl, rfl, ha, hb, hn, q⟩ := h
  cases (show v = Value.ref a from rx)
  cases (show u = Value.ref b from ry)
  obtain ⟨mA, O, _⟩ := ins_get I.hok ha
  obtain ⟨od, J, _⟩ := O.look
  obtain ⟨mB, O2, _⟩ := ins_get I.hok hb
  obtain ⟨od2, J2, _⟩ := O2.look
  show wpAny _ _ (richCompare .NotEq (.ref a) (.ref b)) _ _ _
  refine ne_K (tb := .ref C') (hu_of hr) I.kIn J J2.type hn hne hm hs hf ?_
  refine wpAny_mono (wpAny_call (SlX.run_at (us := [.ref a, .ref b]) (ws := [.ref a, .ref b]) F hr.in1 I.env0.in1 passL I (.cons rfl (.cons rfl .nil)) q)) (fun w s' z => ?_) fun _ _ x => x
  obtain ⟨z2, H2, I2, rz, r, rfl, qz⟩ := z
  cases (show w = Value.bool r from rz)
  exact ⟨r, rfl, .bl (!r), H2, I2, rfl, qz⟩
theorem hop_eq : ∀ a b, compareOp .Eq a b = richCompare .Eq a b := fun _ _ => rfl
end
/-! keyword-only defaults and no others: f(e, .., k = v, ..) -/
theorem kbinds0 {K : Frag} {x qual : Str} {params : Arguments} {body : List Stmt} {scope : Scope} {kws : List (Str × V)} {f : Addr} {fd : FuncData} {ps : List Str} (F : FunD K x qual params body scope [] kws f fd) (n : Nat) (ks : List Str) (ms : List (Str × V))
    (g : {α : Type} → List α → List α → List α → List α) (hk : kws ≠ []) (hms : ∀ q ∈ ms, q ∈ kws)
    (hrel : ∀ {vs mz zs : List V} {us mv ws : List Value}, Vals vs us → Vals mz mv → Vals zs ws → Vals (g vs mz zs) (g us mv ws))
    (h : ∀ (D : Addr) (doc pm : Value) (an : Option Addr) (cdv ct : Value) (us mv ws : List Value), us.length = n → mv.length = ms.length → ws.length = ks.length →
      KwChain D ((ms.map (·.1)).zip mv) (bindArgs (PySem.W.fnOf x qual params body scope .none (.ref D) doc pm an cdv ct) ⟨us, ks.zip ws⟩) (ps.zip (g us mv ws))) :
    ∃ mv : List Value, KBn K fd ps n ks (fun us ws => g us mv ws) (fun vs zs => g vs (ms.map (·.2)) zs) := by
  obtain ⟨oc, od, dV, kV, doc, pm, an, cdv, ct, osl, rfl, lk, hcd, hD, hK⟩ := F.ex
  rcases hD with ⟨_, rfl⟩ | ⟨e, _⟩
  · rcases hK with e | ⟨D, rfl, hq⟩
    · exact absurd e hk
    · obtain ⟨mv, hl, rk, hks⟩ := kwd_vals (ms := ms) fun q hm => hq q (hms q hm)
      refine ⟨mv, ⟨fun s us ws X l1 l2 => BindsTo.of_looks fun M => KwChain.looks X hks (h D doc pm an cdv ct us mv ws l1 hl l2), fun r1 r2 => hrel r1 rk r2⟩⟩
  · exact absurd rfl e
/-! a block cut by a word: what follows is shown once -/
def tCut (t u : TS) : TS := fun D σ H => ∃ M : L2.St → Hp → Prop, t { D with nx := M } σ H ∧ ∀ τ J, M τ J → u D τ J
theorem pss_cut {X : Cx} {st : Stmt} {rest : List Stmt} {t u : TS} (h1 : PS X st t) (h2 : PSs X rest u) : PSs X (st :: rest) (tCut t u) :=
  ⟨fun pins s σ H D I ⟨M, hm, hu⟩ => wpAny_execs_cons (thn (h1.run pins s σ H { D with nx := M } I hm) fun f s1 q => by
    match f, q with
    | .next, ⟨τ, J, I2, q⟩ => exact h2.run pins s1 τ J D I2 (hu τ J q)
    | .ret v, q => exact q
    | .brk, q => exact q
    | .cont, q => exact q)⟩
/-! ways -/
theorem iteY {c A B : Prop} [Decidable c] (h : c) (a : A) : if c then A else B := by rw [if_pos h]; exact a
theorem iteN {c A B : Prop} [Decidable c] (h : ¬ c) (b : B) : if c then A else B := by rw [if_neg h]; exact b
theorem iteB {x : Bool} {A B : Prop} (h : if x then A else B) : if x = true then A else B := h
/-! small laws of heaps and fields -/
theorem putF_nil (f : Str) (v : V) : putF f v [] = [(f, v)] := rfl
theorem putF_cons_ne {f k : Str} {v u : V} {r : List (Str × V)} (h : ¬ k = f) : putF f v ((k, u) :: r) = (k, u) :: putF f v r := by
  show (if k = f then _ else _) = _
  rw [if_neg h]
theorem Same.new {H : Hp} {p : Addr} {o : HO} (h : H p = none) : Same H (upd H p o) := fun b u e => by
  rw [upd_ne (ne_of_none e h)]
  exact e
theorem Same.upd {H H' : Hp} {p : Addr} {o : HO} (e : Same H H') (h : H p = none) : Same H (L2.upd H' p o) := fun b u q => by
  rw [upd_ne (ne_of_none q h)]
  exact e b u q
/-! an own error with one field -/
/-- self.f = v in __init__ -/
def sp_err (C : Addr) (f : Str) : Sp := Sp2 fun x y H Q _ => ∃ a, x = .ref a ∧ H a = some (exo a C none) ∧ ∀ dx, H dx = none → dx ≠ a → Q .non (upd (upd H dx (exd dx [(f, y)])) a (exo a C (some dx)))
theorem raise_err {C : Addr} {f : Str} {t : TA} {σ : L2.St} {H : Hp} {Q : XK} (y : V)
    (k : ∀ d H', H d = none → Same H H' → H' d = some (.xd [(f, y)]) → Q (.ref C) (some d) H') (ht : ∀ R, R [y] H → t σ H R := by exact fun R r => r) : tMkO C (sp_err C f) [] t σ H Q := by
  refine ht _ ⟨by show 1 ≤ 1000; decide, fun a ha => ⟨_, _, rfl, a, rfl, upd_same, fun dx hdx hne => ⟨rfl, dx, [(f, y)], ?_, ?_, ?_, ?_⟩⟩⟩
  · exact upd_same
  · rw [upd_ne hne, upd_same]
  · rw [upd_ne hne] at hdx
    exact hdx
  · have h0 : H dx = none := by rw [upd_ne hne] at hdx; exact hdx
    refine k dx _ h0 (fun b o e => ?_) upd_same
    have n1 : b ≠ dx := ne_of_none e h0
    have n2 : b ≠ a := ne_of_none e ha
    rw [upd_ne n1, del_ne n2, upd_ne n2, upd_ne n1, upd_ne n2]
    exact e
/-! the law's own draws -/
/-- a cell is some integer of at least 0 -/
def spCellN (K : Frag) : Sp := Sp2 fun x y H Q _ => ∃ (a : Addr) (ns : List Int) (k : Int), x = .ref a ∧ y = .int k ∧ 0 ≤ k ∧ SqL K H a (ns.map V.int) ∧ ∀ n : Int, 0 ≤ n → Q (.int n) H
theorem int_at {ns : List Int} {k : Nat} (h : k < ns.length) : atI (ns.map V.int) ((k : Nat) : Int) = some (.int (ns.getD k 0)) := by
  refine atI_nat ?_
  rw [List.getElem?_map, List.getElem?_eq_getElem h, List.getD_eq_getElem?_getD, List.getElem?_eq_getElem h]
  rfl
theorem mul_small {i j : Int} (h : -(2 ^ 64) < j ∧ j < 2 ^ 64) : CMulA i j := .inl (.inr h)
theorem mul_smallL {i j : Int} (h : -(2 ^ 64) < i ∧ i < 2 ^ 64) : CMulA i j := .inl (.inl h)
theorem mod_small (x : Int) {m : Int} (h : 0 < m) (h2 : m < 2 ^ 64) : -(2 ^ 64) < x % m ∧ x % m < 2 ^ 64 := by
  have a := Int.emod_nonneg x (show m ≠ 0 by omega)
  have b := Int.emod_lt_of_pos x h
  omega
theorem mod_lo (x : Int) {m : Int} (h : 0 < m) : 0 ≤ x % m := Int.emod_nonneg x (by omega)
theorem mod_hi (x : Int) {m : Int} (h : 0 < m) : x % m < m := Int.emod_lt_of_pos x h
theorem div_small {i j : Int} (h : 0 < j) (h2 : j < 2 ^ 64) : CDivW i j := wide_div (b := 64) h (by omega) (by decide) (by decide)
end S
namespace S
open PySem PySem.Spec PyProof.Rows L2
/-! the rules that lean on the written part, with its own name -/
section
variable {X : Cx} {K : Frag}
theorem ixK (hK : X.K = K) : IxR X (rIx K) := hK ▸ ix_seq
theorem lenK (hK : X.K = K) : CallR X (.builtin "len") (rLen K) := hK ▸ call_len
theorem isiK (hK : X.K = K) : CallR X (.builtin "isinstance") (rIsi K) := hK ▸ call_isi
theorem isiTK (hK : X.K = K) : CallR X (.builtin "isinstance") (rIsiT K) := hK ▸ call_isiT
theorem inK (hK : X.K = K) : OpR X (compareOp .In) (rIn K false) := hK ▸ op_in_seq
theorem notInK (hK : X.K = K) : OpR X (compareOp .NotIn) (rIn K true) := hK ▸ op_notIn_seq
theorem eqDK (hK : X.K = K) (hu : X.A.units + 64 < cLine) : OpR X (compareOp .Eq) (rEqD K) := hK ▸ op_eqD hu
theorem neDK (hK : X.K = K) (hu : X.A.units + 64 < cLine) : OpR X (compareOp .NotEq) (rNeD K) := hK ▸ op_neD hu
theorem slLK (hK : X.K = K) : SlR X (rSlL K) := hK ▸ sl_list
theorem slTK (hK : X.K = K) : SlR X (rSlT K) := hK ▸ sl_tup
variable {e o l value tg a : Expr} {es : List Expr} {ta tv tl : TE} {f : Str} {pos pos' : Pos}
theorem pe_fldK (hK : X.K = K) (he : PE X e ta) (hb : attributeBase e f X.env (eval e X.env) = eval e X.env) : PE X (.Attribute e f pos) (tFld K ta f) := hK ▸ pe_fld he hb
theorem ps_fldK (hK : X.K = K) (ha : PE X o ta) (hv : PE X value tv) (hs : swapsWith value (some (.Attribute o f pos')) pos.line X.env = pure false) : PS X (.Assign [.Attribute o f pos'] value pos) (sFld K ta tv f) := hK ▸ ps_fld ha hv hs
theorem ps_ostK (hK : X.K = K) (ha : PE X o ta) (hv : PE X value tv) (hs : swapsWith value (some (.Attribute o f pos')) pos.line X.env = pure false) : PS X (.Assign [.Attribute o f pos'] value pos) (tOst K f ta tv) := hK ▸ ps_ost ha hv hs
theorem pe_slK (hK : X.K = K) (he : PE X e ta) (hb : attributeBase e f X.env (eval e X.env) = eval e X.env) : PE X (.Attribute e f pos) (SlX.tSl K ta f) := hK ▸ SlX.pe_sl he hb
theorem ps_slK (hK : X.K = K) (ha : PE X o ta) (hv : PE X value tv) (hs : swapsWith value (some (.Attribute o f pos')) pos.line X.env = pure false) : PS X (.Assign [.Attribute o f pos'] value pos) (SlX.sSl K ta tv f) := hK ▸ SlX.ps_sl ha hv hs
theorem pi_listK (hK : X.K = K) (hl : PE X l tl) : PI X tg l (iList K tl) := hK ▸ pi_list hl
theorem pi_tupK (hK : X.K = K) (hl : PE X l tl) : PI X tg l (iTup K tl) := hK ▸ pi_tup hl
def tTruK (K : Frag) (ta : TE) : TT := fun σ H Q => ta σ H fun x H' => ∃ k, TruV K x H' k ∧ Q k H'
theorem pt_truthK (hK : X.K = K) (ha : PE X a ta) (he : ∀ whole, isTrue a X.env whole = (do let v ← whole; standAt a.pos; holding [v] (truthy v))) : PT X a (tTruK K ta) := by
  subst hK
  exact pt_truth ha he
end
end S
namespace S
open PySem PySem.Spec PyProof.Rows L2
/-! flat data: None, bools, ints, texts -/
def sca : V → Bool
  | .non => true
  | .bl _ => true
  | .int _ => true
  | .str x => PyData.strOk x
  | _ => false
def dat : V → PyData
  | .bl b => .bool b
  | .int i => .int i
  | .str x => .str x
  | _ => .none
theorem dp_dat {K : Frag} {H : Hp} {v : V} (h : sca v = true) : Dp K H v (dat v) := by
  cases v with
  | non => exact .non
  | bl b => exact .bl b
  | int i => exact .int i
  | str x => exact .str x
  | _ => cases h
theorem dpAll_dat {K : Frag} {H : Hp} : ∀ {vs : List V}, vs.all sca = true → DpAll K H vs (vs.map dat)
  | [], _ => .nil
  | v :: vs, h => by
    rw [List.all_cons, Bool.and_eq_true] at h
    exact .cons (dp_dat h.1) (dpAll_dat h.2)
theorem lay_dat {v : V} (h : sca v = true) : (dat v).canLay0 = true := by
  cases v with
  | str x => simpa [dat, PyData.canLay0, sca] using h
  | _ => simp [dat, PyData.canLay0]
theorem layAll_dat : ∀ {vs : List V}, vs.all sca = true → PyData.canLayAll0 (vs.map dat) = true
  | [], _ => rfl
  | v :: vs, h => by
    rw [List.all_cons, Bool.and_eq_true] at h
    simp [PyData.canLayAll0, lay_dat h.1, layAll_dat h.2]
theorem depth_dat (v : V) : (dat v).depth = 0 := by cases v <;> simp [dat, PyData.depth]
theorem depthAll_dat : ∀ (vs : List V), PyData.depthAll (vs.map dat) = 0
  | [] => rfl
  | v :: vs => by simp [PyData.depthAll, depth_dat, depthAll_dat vs]
theorem shaped_list {vs : List V} (h : vs.all sca = true) : SeqAt.shaped (.list (vs.map dat)) = true := by
  simp [SeqAt.shaped, PyData.canLay0, layAll_dat h, PyData.depth, depthAll_dat]
theorem shaped_tup {vs : List V} (h : vs.all sca = true) : SeqAt.shaped (.tuple (vs.map dat)) = true := by
  simp [SeqAt.shaped, PyData.canLay0, layAll_dat h, PyData.depth, depthAll_dat]
theorem eqv_refl (v : V) : PyData.eqv (dat v) (dat v) = true := by cases v <;> simp [dat, PyData.eqv]
theorem eqvAll_refl : ∀ (vs : List V), PyData.eqvAll (vs.map dat) (vs.map dat) = true
  | [] => rfl
  | v :: vs => by simp [PyData.eqvAll, eqv_refl, eqvAll_refl vs]
theorem rEqL {K : Frag} {H : Hp} {a b : Addr} {xs ys : List V} {Q : VK} (ha : SqL K H a xs) (hb : SqL K H b ys) (hx : xs.all sca = true) (hy : ys.all sca = true) (q : Q (.bl (PyData.eqvAll (xs.map dat) (ys.map dat))) H) : rEqD K (.ref a) (.ref b) H Q :=
  ⟨_, _, .lst ha (dpAll_dat hx), .lst hb (dpAll_dat hy), shaped_list hx, shaped_list hy, by simpa only [PyData.eqv] using q⟩
theorem rEqT {K : Frag} {H : Hp} {a b : Addr} {xs ys : List V} {Q : VK} (ha : SqT K H a xs) (hb : SqT K H b ys) (hx : xs.all sca = true) (hy : ys.all sca = true) (q : Q (.bl (PyData.eqvAll (xs.map dat) (ys.map dat))) H) : rEqD K (.ref a) (.ref b) H Q :=
  ⟨_, _, .tup ha (dpAll_dat hx), .tup hb (dpAll_dat hy), shaped_tup hx, shaped_tup hy, by simpa only [PyData.eqv] using q⟩
theorem rEqL_true {K : Frag} {H : Hp} {a b : Addr} {xs : List V} {Q : VK} (ha : SqL K H a xs) (hb : SqL K H b xs) (hx : xs.all sca = true) (q : Q (.bl true) H) : rEqD K (.ref a) (.ref b) H Q := rEqL ha hb hx hx (by rw [eqvAll_refl]; exact q)
theorem rEqT_true {K : Frag} {H : Hp} {a b : Addr} {xs : List V} {Q : VK} (ha : SqT K H a xs) (hb : SqT K H b xs) (hx : xs.all sca = true) (q : Q (.bl true) H) : rEqD K (.ref a) (.ref b) H Q := rEqT ha hb hx hx (by rw [eqvAll_refl]; exact q)
/-- a def with all its parameters written, by positional values -/
theorem raw_of {P : Program} {w : World} {K : Frag} {mg : Str → Option Value} {base : Heap} {CX : CXT} {k n : Nat} {f : Addr} {fd : FuncData} {ps : List Str} {sp : Sp} (F : FnOk P w K mg base CX k f fd ps sp)
    (hb : KBn K fd ps n [] (fun us _ => us ++ []) (fun vs _ => vs ++ [])) (hn : n = ps.length := by rfl) : FnR P w K mg base CX k f sp := by
  refine (F.raw (ds := []) (dvs := []) (fun s us k hl => ?_) .nil).imp fun vs H Q E h => ?_
  · exact hb.to s us [] k (by rw [List.append_nil] at hl; rw [hl, hn]) rfl
  · rw [List.append_nil]
    exact h
theorem hu64 {A : Around} {k : Nat} (hr : Room k A) : A.units + 64 < cLine := by have := hr.un; omega
/-! a for over a text's signs -/
theorem for_str {x : Str} {g : TG} {tb : TS} {D : Ends} {σ : L2.St} {H : Hp} (Pv : Nat → L2.St → Hp → Prop) (h0 : Pv 0 σ H)
    (hs : ∀ i c σ H, x.cps[i]? = some c → Pv i σ H → g (.str ⟨#[c]⟩) σ H fun σ2 H2 => tb { D with nx := Pv (i + 1), ct := Pv (i + 1), bk := D.nx } σ2 H2) (hd : ∀ σ H, Pv x.cps.size σ H → D.nx σ H) :
    ∃ Z : Nat → Nat → L2.St → Hp → Prop, (∃ m, Z 0 m σ H) ∧ ∀ i m σ H, Z i m σ H →
      ((Its x).stop i H ∧ D.nx σ H) ∨ ((Its x).go i H ∧ ∃ N : L2.St → Hp → Prop, (∀ σ' H', N σ' H' → ∃ m', m' < m ∧ Z (i + 1) m' σ' H') ∧ ∀ v H', (Its x).yld i H v H' → g v σ H' fun σ2 H2 => tb { D with nx := N, ct := N, bk := D.nx } σ2 H2) := by
  refine ⟨fun i m σ H => m = x.cps.size - i ∧ i ≤ x.cps.size ∧ Pv i σ H, ⟨x.cps.size, by simp, Nat.zero_le _, h0⟩, ?_⟩
  rintro i m σ H ⟨rfl, hi, p⟩
  by_cases hlt : i < x.cps.size
  · refine .inr ⟨hlt, Pv (i + 1), fun σ' H' p' => ⟨x.cps.size - (i + 1), by omega, rfl, hlt, p'⟩, fun v H' y => ?_⟩
    obtain ⟨rfl, c, hc, rfl⟩ := y
    exact hs i c σ H' hc p
  · have e : i = x.cps.size := by omega
    subst e
    exact .inl ⟨Nat.le_refl _, hd σ H p⟩
end S
namespace S
open PySem PySem.Spec PyProof.Rows L2
/-! x in a list whose items' own == may make objects -/
section
open MeetsSeq MeetsSeq2 MeetsSeq3 SeqRoads2
variable {prog : Program} {w : World} {A : Around} {R : Result → Shared → Prop}
/-- at each turn the list is read anew: the items still to come; a hit ends the walk -/
def ContI (prog : Program) (w : World) (A : Around) (R : Result → Shared → Prop) (l : Addr) (x : Value) (N : Nat) (I : Nat → Shared → Prop) : Prop :=
  ∀ i s, I i s → ∃ (its : Array Value) (n : Nat), s.heap.get? l = some { cls := .type "list", data := .seq its n } ∧ its.size = N ∧
    ∀ h1 : i < its.size, wpAny (model prog w) A.in1 (eqBool its[i] x) (fun r s' => if r = true then R (.ok (.ret (.bool true))) s' else I (i + 1) s') (fun e s' => R (.error e) s') s
theorem cont_loop (l : Addr) (x : Value) (N : Nat) (I : Nat → Shared → Prop) (hl : ContI prog w A R l x N I) (fin : ∀ s, I N s → R (.ok (.ret (.bool false))) s) (k : Nat) :
    ∀ i : Nat, N - i = k → i ≤ N → ∀ s, I i s →
      wpAny (model prog w) A.in1 (Builtin.«list.__contains__.loop» ⟨[.ref l, x, rawInt i], []⟩) (GQ.FinOf prog w A R) (fun e s' => R (.error e) s') s := by
  induction k with
  | zero =>
    intro i hk hi s h
    obtain ⟨its, n, h1, hs, _⟩ := hl _ _ h
    have e : i = N := by omega
    have hR : R (.ok (.ret (.bool false))) s := fin s (e ▸ h)
    obtain ⟨hp, g, d, tk, os⟩ := s
    wp_walk using wpAny_loadPart' h1
    have hn : its[((i : Nat) : Int).toNat]? = none := by simp; omega
    rw [hn]
    wp_walk
    exact hR
  | succ k ih =>
    intro i hk hi s h
    obtain ⟨its, n, h1, hs, turn⟩ := hl _ _ h
    have hlt : i < its.size := by omega
    have ht := turn hlt
    obtain ⟨hp, g, d, tk, os⟩ := s
    wp_walk using wpAny_loadPart' h1
    have hn : its[((i : Nat) : Int).toNat]? = some its[i] := by simp [hlt]
    rw [hn]
    refine wpAny_bind (wpAny_mono ht (fun r s2 h2 => ?_) fun _ _ z => z)
    cases r with
    | true =>
      rw [if_pos rfl] at h2
      obtain ⟨hp2, g2, d2, tk2, os2⟩ := s2
      wp_walk
      exact h2
    | false =>
      rw [if_neg Bool.false_ne_true] at h2
      have hc : ((i : Int) + 1) = ((i + 1 : Nat) : Int) := by omega
      have hrec := ih (i + 1) (by omega) (by omega) s2 h2
      obtain ⟨hp2, g2, d2, tk2, os2⟩ := s2
      wp_walk
      rw [hc]
      exact ⟨plainId_quiet plain_contains_loop _, codeAny_builtin entry_contains_loop (by rw [Around.under_plainId plain_contains_loop _]; exact hrec)⟩
theorem cont_list (l : Addr) (x : Value) (N : Nat) (I : Nat → Shared → Prop) (hl : ContI prog w A R l x N I) (fin : ∀ s, I N s → R (.ok (.ret (.bool false))) s) {s : Shared} (h : I 0 s) :
    wpAny (model prog w) A.in1 (Builtin.«list.__contains__» ⟨[.ref l, x], []⟩) (GQ.FinOf prog w A R) (fun e s' => R (.error e) s') s := by
  obtain ⟨its, n, h1, hs, _⟩ := hl _ _ h
  have hrec := cont_loop (A := A) (R := R) l x N I hl fin _ 0 rfl (Nat.zero_le _) s h
  obtain ⟨hp, g, d, tk, os⟩ := s
  wp_walk using wpAny_loadPart' h1
  exact ⟨plainId_quiet plain_contains_loop _, codeAny_builtin entry_contains_loop (by rw [Around.under_plainId plain_contains_loop _]; exact hrec)⟩
theorem contains_G {E : Value → Shared → Prop} {s : Shared} {l : Addr} {x : Value} {N : Nat} {Q : Bool → Shared → Prop} (I : Nat → Shared → Prop)
    (hl : ContI prog w A (wants (fun v s' => ∃ b, v = .bool b ∧ Q b s') E) l x N I) (fin : ∀ s, I N s → Q false s) (h : I 0 s) : wpAny (model prog w) A (contains (.ref l) x) Q E s := by
  obtain ⟨its, n, h1, _⟩ := hl _ _ h
  refine wpAny_contains_slot (T := "list") ⟨_, h1, rfl⟩ F.slot_list_contains (wpAny_mono (GQ.call_here (Q := fun v s' => ∃ b, v = .bool b ∧ Q b s') F.slot_list_contains ⟨_, h1, rfl⟩ F.entry_list_contains (F.args_list_contains_2 _ _) ?_) (fun v s' hv => ?_) fun _ _ e => e)
  · exact cont_list l x N I hl (fun s' q => ⟨false, rfl, fin s' q⟩) h
  · obtain ⟨b, rfl, q⟩ := hv
    exact wpAny_truthy_bool q
end
section
variable {X : Cx} {n : Nat} {C g : Addr} {sp : Sp}
/-- x in y, y a list of instances of C that are compared by their own == : e b tells the answer for the item at b -/
def rInO (C : Addr) (sp : Sp) (neg : Bool) : R2 := fun x y H Q => ∃ (a l dx : Addr) (fs : List (Str × V)) (bs : List Addr) (e : Addr → Bool), x = .ref a ∧ y = .ref l ∧ H l = some (.lst (bs.map V.ref)) ∧ H a = some (.ins C dx fs) ∧
  (∀ b ∈ bs, ∃ dy gs, H b = some (.ins C dy gs)) ∧ (∀ b ∈ bs, ∀ H1, Same H H1 → ∀ Z : VK, (∀ H2, Same H1 H2 → Z (.bl (e b)) H2) → sp [.ref b, .ref a] H1 Z E0) ∧
  ∀ H', Same H H' → Q (.bl (if neg then !(bs.any fun b => decide (b = a) || e b) else bs.any fun b => decide (b = a) || e b)) H'
theorem contO (hs : PySem.W.findIn X.K (.ref C) "__eq__" = some (some (.ref g))) (hf : PySem.W.isFn X.K (.ref g) = true) (F : FnR X.prog X.w X.K X.mg X.base (L2.CX X.prog X.w) n g sp) (hr : Room (n + 1) X.A)
    {pins : List (Addr × Obj)} {s : Shared} {σ : L2.St} {H : Hp} {a l dx : Addr} {fs : List (Str × V)} {bs : List Addr} {e : Addr → Bool} (I : Inv X pins σ H s) (hl : H l = some (.lst (bs.map V.ref))) (ha : H a = some (.ins C dx fs))
    (hb : ∀ b ∈ bs, ∃ dy gs, H b = some (.ins C dy gs)) (hsp : ∀ b ∈ bs, ∀ H1, Same H H1 → ∀ Z : VK, (∀ H2, Same H1 H2 → Z (.bl (e b)) H2) → sp [.ref b, .ref a] H1 Z E0) {Q : Bool → Shared → Prop}
    (q : ∀ s' H', Inv X pins σ H' s' → Same H H' → Q (bs.any fun b => decide (b = a) || e b) s') : wpAny (model X.prog X.w) X.A (contains (.ref l) (.ref a)) Q X.xe s := by
  refine contains_G (N := bs.length) (fun i s' => ∃ H1, Inv X pins σ H1 s' ∧ Same H H1 ∧ (bs.take i).any (fun b => decide (b = a) || e b) = false) ?_ ?_ ⟨H, I, fun _ _ z => z, rfl⟩
  · rintro i s1 ⟨H1, I1, sm, no⟩
    obtain ⟨hz, its, m, rv, hg⟩ := (show ObjOk X.prog X.w H1 s1.heap l (.lst (bs.map V.ref)) from I1.hok l _ (sm _ _ hl))
    have hlen : its.length = bs.length := by rw [← rv.length, List.length_map]
    refine ⟨its.toArray, m, hg, by simp [hlen], fun h1 => ?_⟩
    have hi : i < bs.length := by simpa [hlen] using h1
    obtain ⟨u, hu, ru⟩ := rv.get (i := i) (x := .ref bs[i]) (by simp [hi])
    have eu : its.toArray[i] = Value.ref bs[i] := by
      have : its[i]? = some (Value.ref bs[i]) := by rw [hu]; exact congrArg some ru
      have h2 : i < its.length := by omega
      rw [List.getElem?_eq_getElem h2] at this
      simpa using Option.some.inj this
    rw [eu]
    have mem : bs[i] ∈ bs := List.getElem_mem hi
    have step : ∀ r : Bool, (decide (bs[i] = a) || e bs[i]) = r → ∀ s2 H2, Inv X pins σ H2 s2 → Same H H2 → (if r = true then wants (fun v s' => ∃ b, v = .bool b ∧ Q b s') X.xe (.ok (.ret (.bool true))) s2 else ∃ H1, Inv X pins σ H1 s2 ∧ Same H H1 ∧ (bs.take (i + 1)).any (fun b => decide (b = a) || e b) = false) := by
      intro r er s2 H2 I2 sm2
      have tk : bs.take (i + 1) = bs.take i ++ [bs[i]] := by rw [List.take_succ, List.getElem?_eq_getElem hi]; rfl
      cases r with
      | true =>
        rw [if_pos rfl]
        refine ⟨true, rfl, ?_⟩
        have hq := q s2 H2 I2 sm2
        rw [show (bs.any fun b => decide (b = a) || e b) = true from List.any_eq_true.mpr ⟨_, mem, er⟩] at hq
        exact hq
      | false =>
        rw [if_neg Bool.false_ne_true]
        refine ⟨H2, I2, sm2, ?_⟩
        rw [tk, List.any_append, no, List.any_cons, er]
        rfl
    by_cases hab : bs[i] = a
    · rw [hab]
      exact SeqAt.EqAt.same (A := X.A.in1) (s := s1) (.ref a) X.prog X.w _ _ (step true (by simp [hab]) s1 H1 I1 sm)
    · obtain ⟨dy, gs, hbi⟩ := hb _ mem
      refine GQ.eqBool_refG hab ?_
      obtain ⟨mA, O, _⟩ := ins_get I1.hok (sm _ _ hbi)
      obtain ⟨od, J, _⟩ := O.look
      obtain ⟨mB, O2, _⟩ := ins_get I1.hok (sm _ _ ha)
      obtain ⟨od2, J2, _⟩ := O2.look
      obtain ⟨m2, hF⟩ := I1.fr
      refine PySem.W.cmp_K (op := .Eq) (tb := .ref C) hr.in1.units0 hF I1.ok.mod.kin J J2.type (by simp [PySem.W.notFirst]) hs hf ?_
      refine wpAny_mono (wpAny_call (SlX.run_at (us := [.ref bs[i], .ref a]) (ws := [.ref bs[i], .ref a]) (Q := fun z H2 => z = .bl (e bs[i]) ∧ Same H1 H2) F hr.in1 I1.env0.in1 passL I1 (.cons rfl (.cons rfl .nil)) (hsp _ mem H1 sm _ fun H2 s2 => ⟨rfl, s2⟩))) (fun z s2 hz2 => ?_) fun _ _ x => x
      obtain ⟨z2, H2, I2, rz, rfl, sm2⟩ := hz2
      cases (show z = Value.bool (e bs[i]) from rz)
      exact ⟨e bs[i], rfl, step _ (by simp [hab]) s2 H2 I2 (sm.trans sm2)⟩
  · rintro s1 ⟨H1, I1, sm, no⟩
    have hq := q s1 H1 I1 sm
    rw [List.take_length] at no
    rw [no] at hq
    exact hq
theorem op_inO (hs : PySem.W.findIn X.K (.ref C) "__eq__" = some (some (.ref g))) (hf : PySem.W.isFn X.K (.ref g) = true) (F : FnR X.prog X.w X.K X.mg X.base (L2.CX X.prog X.w) n g sp) (hr : Room (n + 1) X.A) : OpR X (compareOp .In) (rInO C sp false) := by
  intro pins s σ H x y v u Q I rx ry h
  obtain ⟨a, l, dx, fs, bs, e, rfl, rfl, hl, ha, hb, hsp, q⟩ := h
  cases (show v = Value.ref a from rx)
  cases (show u = Value.ref l from ry)
  show wpAny _ _ (do return Value.bool (← contains (.ref l) (.ref a))) _ _ _
  exact wpAny_bind (contO hs hf F hr I hl ha hb hsp fun s' H' I' sm => wpAny_pure ⟨.bl _, H', I', rfl, q H' sm⟩)
theorem op_notInO (hs : PySem.W.findIn X.K (.ref C) "__eq__" = some (some (.ref g))) (hf : PySem.W.isFn X.K (.ref g) = true) (F : FnR X.prog X.w X.K X.mg X.base (L2.CX X.prog X.w) n g sp) (hr : Room (n + 1) X.A) : OpR X (compareOp .NotIn) (rInO C sp true) := by
  intro pins s σ H x y v u Q I rx ry h
  obtain ⟨a, l, dx, fs, bs, e, rfl, rfl, hl, ha, hb, hsp, q⟩ := h
  cases (show v = Value.ref a from rx)
  cases (show u = Value.ref l from ry)
  show wpAny _ _ (do return Value.bool (!(← contains (.ref l) (.ref a)))) _ _ _
  exact wpAny_bind (contO hs hf F hr I hl ha hb hsp fun s' H' I' sm => wpAny_pure ⟨.bl _, H', I', rfl, q H' sm⟩)
end
end S
namespace S
open PySem PySem.Spec PyProof.Rows L2
/-! ### classes with slots -/
/-- the descriptor of a slot -/
def slA (K : Frag) (C : Addr) (f : Str) : Addr := match PySem.W.findIn K (.ref C) f with | some (some (.ref p)) => p | _ => 0
def sclB (K : Frag) (C : Addr) : Bool := PySem.W.plainGet K C Str.empty && (PySem.W.isClsIn K C && (PySem.W.plainOver K C && He.eqO (PySem.W.findIn K (.ref C) "__setattr__") (some (some (.builtin "object.__setattr__")))))
theorem sclB_ok {K : Frag} {C : Addr} (q : sclB K C = true) : SlX.SCls K C := by
  obtain ⟨a, q⟩ := He.ba q
  obtain ⟨b, q⟩ := He.ba q
  obtain ⟨c, d⟩ := He.ba q
  exact ⟨a, b, c, He.eqO_ok d⟩
theorem sisB_ok {K : Frag} {C : Addr} (q : insB K C = true) : SlX.SIsi K C := let i := insB_ok q; ⟨i.ha, i.hn, i.ht, i.hm⟩
def sltB (K : Frag) (C : Addr) (f : Str) (i : Nat) : Bool := He.eqO (PySem.W.findIn K (.ref C) f) (some (some (.ref (slA K C f)))) && (He.eqO (PySem.W.specialIn K (.ref (slA K C f)) "__get__") (some (some (.builtin "member_descriptor.__get__"))) &&
  (decide (PySem.W.takesIn K (.ref (slA K C f)) = some true) && (decide (PySem.W.typeIn K (.ref (slA K C f)) = some (.type "member_descriptor")) && decide (PySem.W.slotIn K (slA K C f) C = some i))))
theorem sltB_ok {K : Frag} {C : Addr} {f : Str} {i : Nat} (hi : i < 1000) (q : sltB K C f i = true) : SlX.Slot1 K C f (slA K C f) i := by
  obtain ⟨a, q⟩ := He.ba q
  obtain ⟨b, q⟩ := He.ba q
  obtain ⟨c, q⟩ := He.ba q
  obtain ⟨d, e⟩ := He.ba q
  exact ⟨He.eqO_ok a, He.eqO_ok b, of_decide_eq_true c, of_decide_eq_true d, of_decide_eq_true e, hi⟩
section
variable {X : Cx} {CX : CXT} {k n : Nat} {f C : Addr} {fd : FuncData} {ps ks : List Str} {sp : Sp} {E : L2.St → XK} {m : Str} {pos apos : Pos} {o e : Expr} {es : List Expr} {kws : List Keyword} {ta : TE} {t tk : TA} {g : List Value → List Value → List Value} {gV : List V → List V → List V}
def tMtL (C : Addr) (n l : Nat) (sp : Sp) (gV : List V → List V → List V) (E : L2.St → XK) (ta : TE) (t tk : TA) : TE := fun σ H Q =>
  ta σ H fun x H1 => ∃ a dx fs, x = .ref a ∧ SlX.Slt H1 a C dx fs ∧
    t σ H1 fun vs H2 => tk σ H2 fun zs H3 => vs.length = n ∧ zs.length = l ∧ sp (gV (x :: vs) zs) H3 Q (E σ)
theorem pe_mtL {pl : Sem Bool} (he : PE X o ta) (c : SlX.SCls X.K C) (hm : Meth X.K C m f) (F : FnOk X.prog X.w X.K X.mg X.base CX k f fd ps sp) (hr : Room k X.A) (hb : KBn X.K fd ps (n + 1) ks g gV) (hx : ∀ σ, PassesAt CX X σ (E σ))
    (ha : PA X (e :: es) t) (hkw : PK X kws tk) (hall : (backToKw pos (keywordEach kws X.env)).all (·.1.isSome) = true) (hks : (backToKw pos (keywordEach kws X.env)).filterMap (·.1) = ks)
    (hst : starEach (e :: es) X.env = (false, eval e X.env) :: starEach es X.env := by rfl)
    (hpl : ((backTo pos (starEach (e :: es) X.env)).any (·.1) || (backToKw pos (keywordEach kws X.env)).any (·.1.isNone)) = false := by rfl)
    (ht : eval (.Call (.Attribute o m apos) (e :: es) kws pos) X.env = (do
      let ov ← eval o X.env
      standAt apos.atName
      let (f, first) ← holding [ov] (getMethod ov m pl)
      callWith pos f first (backTo pos (starEach (e :: es) X.env)) (backToKw pos (keywordEach kws X.env))) := by rfl) :
    PE X (.Call (.Attribute o m apos) (e :: es) kws pos) (tMtL C n ks.length sp gV E ta t tk) := by
  refine ⟨fun pins s σ H Q I h => PySem.W.methodCall_KW (pl := pl) (thn (he.run pins s σ H _ I h) fun u s1 ⟨x, H1, I1, rx, a, dx, fs, ex, ea, q⟩ => ?_) ht⟩
  subst ex
  cases (show u = Value.ref a from rx)
  refine SlX.getmethsl_ok I1 ea c hm (PySem.W.callWith_KW (first := [.ref a]) (h₀ := X.base) I.ok.mod.kin hm.kp hall (thn (ha.run pos pins s1 σ H1 _ I1 q) fun us s2 ⟨vs, H2, I2, r, q2⟩ =>
    thn (hkw.run pos pins s2 σ H2 _ I2 q2) fun ws s3 ⟨zs, H3, I3, rz, l1, l2, q3⟩ => ⟨I3.kIn, ?_⟩) hpl hst)
  rw [hks]
  exact run_S (us := .ref a :: us) (vs := .ref a :: vs) F hr hb (hx σ) I3 (.cons rfl r) rz (congrArg Nat.succ l1) l2 q3
theorem pe_mtL0 {pl : Sem Bool} (he : PE X o ta) (c : SlX.SCls X.K C) (hm : Meth X.K C m f) (F : FnOk X.prog X.w X.K X.mg X.base CX k f fd ps sp) (hr : Room k X.A) (hb : KBn X.K fd ps (0 + 1) ks g gV) (hx : ∀ σ, PassesAt CX X σ (E σ))
    (hkw : PK X kws tk) (hall : (backToKw pos (keywordEach kws X.env)).all (·.1.isSome) = true) (hks : (backToKw pos (keywordEach kws X.env)).filterMap (·.1) = ks)
    (hpl : ((backTo pos (starEach [] X.env)).any (·.1) || (backToKw pos (keywordEach kws X.env)).any (·.1.isNone)) = false := by rfl)
    (ht : eval (.Call (.Attribute o m apos) [] kws pos) X.env = (do
      let ov ← eval o X.env
      standAt apos.atName
      let (f, first) ← holding [ov] (getMethod ov m pl)
      callWith pos f first (backTo pos (starEach [] X.env)) (backToKw pos (keywordEach kws X.env))) := by rfl) :
    PE X (.Call (.Attribute o m apos) [] kws pos) (tMtL C 0 ks.length sp gV E ta tNil tk) := by
  refine ⟨fun pins s σ H Q I h => PySem.W.methodCall_KW (pl := pl) (thn (he.run pins s σ H _ I h) fun u s1 ⟨x, H1, I1, rx, a, dx, fs, ex, ea, q⟩ => ?_) ht⟩
  subst ex
  cases (show u = Value.ref a from rx)
  refine SlX.getmethsl_ok I1 ea c hm (PySem.W.callWith_KW0 (first := [.ref a]) (h₀ := X.base) I.ok.mod.kin hm.kp hall
    (thn (hkw.run pos pins s1 σ H1 _ I1 q) fun ws s3 ⟨zs, H3, I3, rz, l1, l2, q3⟩ => ⟨I3.kIn, ?_⟩) hpl)
  rw [hks]
  exact run_S (us := [.ref a]) (vs := [.ref a]) F hr hb (hx σ) I3 (.cons rfl .nil) rz rfl l2 q3
end
/-! str(x) by the class's own def -/
section
variable {X : Cx} {C g : Addr} {n : Nat} {sp : Sp}
def rStrL (C : Addr) (sp : Sp) : List V → Hp → VK → Prop := fun xs H Q => ∃ a dx vs, xs = [V.ref a] ∧ SlX.Slt H a C dx vs ∧ sp [.ref a] H (fun z H' => ∃ y, z = .str y ∧ Q z H') E0
theorem call_strL (hs : PySem.W.findIn X.K (.ref C) "__str__" = some (some (.ref g))) (hf : PySem.W.isFn X.K (.ref g) = true) (F : FnR X.prog X.w X.K X.mg X.base (L2.CX X.prog X.w) n g sp) (hr : Room (n + 2) X.A) : CallR X (.type "str") (rStrL C sp) := by
  intro pins s σ H xs us Q I r h
  obtain ⟨a, dx, vs, rfl, hsl, q⟩ := h
  obtain ⟨u, rfl, ru⟩ := r.one
  cases (show u = Value.ref a from ru)
  obtain ⟨sl, od, _, J, _⟩ := SlX.slt_inst I hsl
  have hr2 : Room n X.A.in1.in1 := (show Room (n + 1) X.A.in1 from Room.in1 hr).in1
  refine PySem.W.kso_call hr2.units0 I.kIn J hs hf (wpAny_mono (wpAny_call (SlX.run_at (us := [.ref a]) (ws := [.ref a]) F hr2 I.env0.in1.in1 passL I (.cons rfl .nil) q)) (fun w s' z => ?_) fun _ _ x => x)
  obtain ⟨z', H', I', rz, y, ey, qz⟩ := z
  subst ey
  obtain ⟨t, e⟩ := (show ∃ t, w = Value.str y t from rz)
  cases e
  exact ⟨.str y, H', I', ⟨t, rfl⟩, qz⟩
end
/-! isinstance of an instance with slots, or of another thing -/
section
variable {X : Cx} {K : Frag}
theorem call_or {v : Value} {r1 r2 : List V → Hp → VK → Prop} (h1 : CallR X v r1) (h2 : CallR X v r2) : CallR X v (fun xs H Q => r1 xs H Q ∨ r2 xs H Q) := by
  intro pins s σ H xs us Q I r h
  rcases h with h | h
  · exact h1 pins s σ H xs us Q I r h
  · exact h2 pins s σ H xs us Q I r h
theorem isiLK (hK : X.K = K) (C : Addr) : CallR X (.builtin "isinstance") (SlX.rIsiSl K (.ref C)) := hK ▸ SlX.call_isiSl (.ref C)
theorem isi2K (hK : X.K = K) (C : Addr) : CallR X (.builtin "isinstance") (fun xs H Q => SlX.rIsiSl K (.ref C) xs H Q ∨ rIsi K xs H Q) := call_or (isiLK hK C) (isiK hK)
end
end S
namespace S
open PySem PySem.Spec PyProof.Rows L2
/-! ### + - * // of own instances with slots, among themselves and with ints -/
theorem ps_never {X : Cx} {st : Stmt} : PS X st (fun _ _ _ => False) := ⟨fun _ _ _ _ _ _ h => h.elim⟩
section
open PySem.W PySem.Calls
variable {prog : Program} {w : World} {A : Around} {E : Value → Shared → Prop} {s : Shared} {K : Frag} {x C f f0 : Addr} {ox : Obj} {od : Option Obj}
/-- at x stands no int -/
def NoInt (x : Addr) (s : Shared) : Prop := ∃ o : Obj, s.heap.get? x = some o ∧ ∀ i t, o.data ≠ .prim (.int i t)
theorem asInt_no {M : Model} {A : Around} {E : Value → Shared → Prop} {s : Shared} {x : Addr} {Q : Option Int → Shared → Prop} (h : NoInt x s) (q : Q none s) : wpAny M A (asInt? (.ref x)) Q E s := by
  obtain ⟨o, ho, hn⟩ := h
  show wpAny M A (load x >>= _) Q E s
  refine wpAny_bind (wpAny_load ho ?_)
  split
  · rename_i i t e
    exact absurd e (hn i t)
  · exact wpAny_pure q
theorem decl_bin {prog : Program} {w : World} {A : Around} {R : Result → Shared → Prop} {s : Shared} {name : String} {f : Int → Int → Sem Fin} {a : Int} {t : Tok} {x : Addr} (h : NoInt x s) (q : R (.ok (.ret .notImplemented)) s) :
    wpAny (model prog w) A.in1 (Builtin.Int.intBinary name f false ⟨[.int a t, .ref x], []⟩) (fun fin s' => match fin with | .done f => R (.ok f) s' | .again c' => c'.quiet = true ∧ codeAny (model prog w) A c' R s') (fun e s' => R (.error e) s') s := by
  unfold Builtin.Int.intBinary
  refine wpAny_bind (wpAny_of_eq (a := (.int a t, [.ref x])) rfl ?_)
  refine wpAny_bind (wpAny_of_eq (a := a) rfl ?_)
  refine wpAny_bind (asInt_no h ?_)
  exact wpAny_bind (wpAny_rule (wpAny_pure q))
theorem decl_add (a : Int) (t : Tok) (x : Addr) : GivesAt (NoInt x) (Builtin.«int.__add__» ⟨[.int a t, .ref x], []⟩) (.val (Value.notImplemented)) := fun prog w A R s h q => decl_bin h q
theorem decl_sub (a : Int) (t : Tok) (x : Addr) : GivesAt (NoInt x) (Builtin.«int.__sub__» ⟨[.int a t, .ref x], []⟩) (.val (Value.notImplemented)) := fun prog w A R s h q => decl_bin h q
theorem decl_mul (a : Int) (t : Tok) (x : Addr) : GivesAt (NoInt x) (Builtin.«int.__mul__» ⟨[.int a t, .ref x], []⟩) (.val (Value.notImplemented)) := fun prog w A R s h q => decl_bin h q
theorem decl_floordiv (a : Int) (t : Tok) (x : Addr) : GivesAt (NoInt x) (Builtin.«int.__floordiv__» ⟨[.int a t, .ref x], []⟩) (.val (Value.notImplemented)) := fun prog w A R s h q => by
  unfold Builtin.«int.__floordiv__»
  refine wpAny_bind ?_
  refine wpAny_bind (m := asInt? (.int a t)) (wpAny_of_eq (a := some a) rfl ?_)
  refine wpAny_bind (m := asInt? (.ref x)) (asInt_no h ?_)
  exact wpAny_pure (decl_bin h q)
/-- what is known of int's own slot for an operator -/
structure IntOp (op : Operator) (idl : String) (B : Builtin) : Prop where
  fl : fillsNumberSlot (.type "int") op.info.2 = pure true
  sl : Slot "int" (PySem.dunder op.info.2) idl
  en : entryFor table idl = some B
  ar : ∀ a b : Value, argsOk idl ⟨[a, b], []⟩
  de : ∀ (a : Int) (t : Tok) (x : Addr), GivesAt (NoInt x) (B ⟨[.int a t, .ref x], []⟩) (.val (Value.notImplemented))
theorem io_add : IntOp .Add "int.__add__" Builtin.«int.__add__» := ⟨PySem.F.fills_int_add, PySem.F.slot_int_add, PySem.F.entry_int_add, PySem.F.args_int_add_2, decl_add⟩
theorem io_sub : IntOp .Sub "int.__sub__" Builtin.«int.__sub__» := ⟨PySem.F.fills_int_sub, PySem.F.slot_int_sub, PySem.F.entry_int_sub, PySem.F.args_int_sub_2, decl_sub⟩
theorem io_mul : IntOp .Mult "int.__mul__" Builtin.«int.__mul__» := ⟨PySem.F.fills_int_mul, PySem.F.slot_int_mul, PySem.F.entry_int_mul, PySem.F.args_int_mul_2, decl_mul⟩
theorem io_fdiv : IntOp .FloorDiv "int.__floordiv__" Builtin.«int.__floordiv__» := ⟨PySem.F.fills_int_floordiv, PySem.F.slot_int_floordiv, PySem.F.entry_int_floordiv, PySem.F.args_int_floordiv_2, decl_floordiv⟩
theorem bin_refl {op : Operator} {idl : String} {B : Builtin} {i : Int} {t : Tok} {Q : Value → Shared → Prop} (io : IntOp op idl B) (X : K.In s.heap) (I : InstAt s.heap x ox C od) (hno : NoInt x s) (hc : selfFirst K C = true)
    (hs : findIn K (.ref C) (PySem.dunder op.info.2) = some (some (.ref f0))) (hsR : findIn K (.ref C) (dunderR op.info.2) = some (some (.ref f))) (hf : isFn K (.ref f) = true) (hsub : subIn K (.ref C) (.type "int") = some false)
    (h : wpAny (model prog w) A (call (.ref f) [.ref x, .int i t]) (PySem.W.CmpBack Q) E s) : wpAny (model prog w) A (binaryOp op (.int i t) (.ref x)) Q E s := by
  obtain ⟨fl, sl, en, ar, de⟩ := io
  obtain ⟨cd, rest, hcd, hm⟩ := ksp_first hc
  rcases hi : op.info with ⟨sym, nm⟩
  rw [hi] at fl sl hs hsR
  simp only [binaryOp, hi]
  refine wpAny_holding (wpAny_bind ?_)
  simp only [binaryOp1]
  have ha := typeIs_int s i t
  refine wpAny_bind (wpAny_typeOf ha (wpAny_bind (I.type.here (wpAny_bind (wpAny_of_eq fl ?_)))))
  have hne : (Value.type "int" == Value.ref C) = false := Bool.eq_false_iff.mpr fun q => by cases beq_iff_eq.mp q
  simp only [hne, Bool.false_eq_true, if_false]
  refine wpAny_bind ((fills_K X hcd hm hs).here ?_)
  simp only [Bool.and_self, if_true]
  refine wpAny_bind ((looks_subIn X hsub).here ?_)
  have hpy : numberSlotInPython (.type "int") nm = pure false := rfl
  simp only [Bool.false_eq_true, if_false, pure_bind, Bool.not_false, Bool.and_self, if_true, hpy]
  simp only [tryMethod]
  refine wpAny_bind (wpAny_bind (wpAny_callSpecial?_slot ha sl (wpAny_mono (call_givesAt (Q := fun v s1 => v = .notImplemented ∧ s1 = s) sl ha en (ar _ _) (de i t x) hno ⟨rfl, rfl⟩) (fun v s1 h1 => ?_) fun _ _ x => x)))
  obtain ⟨rfl, rfl⟩ := h1
  refine wpAny_pure (wpAny_bind (wpAny_bind (special_fn X I hsR (beq_iff_eq.mp hf) (wpAny_mono h (fun v s' hv => ?_) fun _ _ e => e))))
  cases v <;> first | exact hv.elim | exact wpAny_pure (wpAny_bind (wpAny_rule (wpAny_pure (wpAny_pure hv))))
end
/-- what of the text a class must have for an operator -/
structure BinC (K : Frag) (C : Addr) (nm : String) (f g : Addr) : Prop where
  sf : PySem.W.selfFirst K C = true
  at_ : PySem.W.findIn K (.ref C) (PySem.dunder nm) = some (some (.ref f))
  fn : PySem.W.isFn K (.ref f) = true
  atR : PySem.W.findIn K (.ref C) (dunderR nm) = some (some (.ref g))
  fnR : PySem.W.isFn K (.ref g) = true
  su : PySem.W.subIn K (.ref C) (.type "int") = some false
  us : PySem.W.subIn K (.type "int") (.ref C) = some false
  i1 : ∃ fo, PySem.W.findIn K (.type "int") (PySem.dunder nm) = some fo
  i2 : ∃ ro, PySem.W.findIn K (.type "int") (dunderR nm) = some ro
def binB (K : Frag) (C : Addr) (nm : String) (f g : Addr) : Bool := PySem.W.selfFirst K C && (He.eqO (PySem.W.findIn K (.ref C) (PySem.dunder nm)) (some (some (.ref f))) && (PySem.W.isFn K (.ref f) &&
  (He.eqO (PySem.W.findIn K (.ref C) (dunderR nm)) (some (some (.ref g))) && (PySem.W.isFn K (.ref g) && (decide (PySem.W.subIn K (.ref C) (.type "int") = some false) && (decide (PySem.W.subIn K (.type "int") (.ref C) = some false) &&
  ((PySem.W.findIn K (.type "int") (PySem.dunder nm)).isSome && (PySem.W.findIn K (.type "int") (dunderR nm)).isSome)))))))
theorem binB_ok {K : Frag} {C : Addr} {nm : String} {f g : Addr} (q : binB K C nm f g = true) : BinC K C nm f g := by
  obtain ⟨a, q⟩ := He.ba q
  obtain ⟨b, q⟩ := He.ba q
  obtain ⟨c, q⟩ := He.ba q
  obtain ⟨d, q⟩ := He.ba q
  obtain ⟨e, q⟩ := He.ba q
  obtain ⟨f, q⟩ := He.ba q
  obtain ⟨g, q⟩ := He.ba q
  obtain ⟨h, i⟩ := He.ba q
  exact ⟨a, He.eqO_ok b, c, He.eqO_ok d, e, of_decide_eq_true f, of_decide_eq_true g, Option.isSome_iff_exists.mp h, Option.isSome_iff_exists.mp i⟩
/-- x op y, one of them an instance of C, the other too, or an int -/
def rBinL (C : Addr) (sp spR : Sp) (E : XK) : R2 := fun x y H Q =>
  (∃ a dx vs b dy ws, x = .ref a ∧ y = .ref b ∧ SlX.Slt H a C dx vs ∧ SlX.Slt H b C dy ws ∧ sp [x, y] H Q E) ∨
  (∃ a dx vs i, x = .ref a ∧ y = .int i ∧ SlX.Slt H a C dx vs ∧ sp [x, y] H Q E) ∨
  (∃ b dy ws i, x = .int i ∧ y = .ref b ∧ SlX.Slt H b C dy ws ∧ spR [y, x] H Q E)
def tBinL (C : Addr) (sp spR : Sp) (E : L2.St → XK) (ta tb : TE) : TE := fun σ H Q => ta σ H fun x H1 => tb σ H1 fun y H2 => rBinL C sp spR (E σ) x y H2 Q
section
variable {X : Cx} {C f g : Addr} {n k : Nat} {sp spR : Sp} {E : L2.St → XK} {op : Operator} {idl : String} {B : Builtin} {a b : Expr} {ta tb : TE} {pos : Pos}
/-- the callee runs below the running body, what is raised wished for at the slots -/
theorem run_fnAt {CX : CXT} {E : XK} {pins : List (Addr × Obj)} {σ : L2.St} {H : Hp} {s : Shared} {Q : VK} {us : List Value} {ws : List V} (F : FnR X.prog X.w X.K X.mg X.base CX n f sp) (hr : Room n X.A) (hx : PassesAt CX X σ E) (I : Inv X pins σ H s) (r : Vals ws us) (h : sp ws H Q E) :
    codeAny (model X.prog X.w) X.A (.call (.ref f) ⟨us, []⟩) (fun r s' => match r with | .ok (.ret v) => EP X pins σ Q v s' | .ok _ => False | .error e => X.xe e s') s := by
  refine codeAny_mono (F X.A X.stack s H us ws Q E hr I.env0 r h) fun r s' hq => ?_
  match r, hq with
  | .error e, hq => exact hx pins H s e s' I hq
  | .ok (.ret u), hq => exact I.after hq
  | .ok .next, hq => exact hq.elim
  | .ok .brk, hq => exact hq.elim
  | .ok .cont, hq => exact hq.elim
theorem cb_of {pins : List (Addr × Obj)} {σ : L2.St} {Q : VK} {w : Value} {s' : Shared} (z : EP X pins σ Q w s') : PySem.W.CmpBack (EP X pins σ Q) w s' := by
  obtain ⟨v, H', I', rz, qz⟩ := z
  exact SlX.cmpback rz ⟨v, H', I', rz, qz⟩
theorem pe_binL (io : IntOp op idl B) (c : BinC X.K C op.info.2 f g) (F : FnR X.prog X.w X.K X.mg X.base (L2.CX X.prog X.w) n f sp) (hr : Room n X.A) (G : FnR X.prog X.w X.K X.mg X.base (L2.CX X.prog X.w) k g spR) (hr2 : Room k X.A)
    (hx : ∀ σ, PassesAt (L2.CX X.prog X.w) X σ (E σ)) (ha : PE X a ta) (hb : PE X b tb) : PE X (.BinOp a op b pos) (tBinL C sp spR E ta tb) := by
  refine ⟨fun pins s σ H Q I h => wpAny_BinOp (binT ha hb I (R := fun x y H2 => rBinL C sp spR (E σ) x y H2 Q) h fun v u s2 x y H2 I2 rx ry q => ?_)⟩
  obtain ⟨m, hF⟩ := I2.fr
  rcases q with ⟨a, dx, vs, b, dy, ws, rfl, rfl, h1, h2, q⟩ | ⟨a, dx, vs, i, rfl, rfl, h1, q⟩ | ⟨b, dy, ws, i, rfl, rfl, h1, q⟩
  · cases (show v = Value.ref a from rx)
    cases (show u = Value.ref b from ry)
    obtain ⟨sl, od, _, J, _⟩ := SlX.slt_inst I2 h1
    obtain ⟨sl', od', _, J', _⟩ := SlX.slt_inst I2 h2
    exact PySem.W.binop_K hF I2.ok.mod.kin J J'.type c.sf c.at_ c.fn (wpAny_mono (wpAny_call (run_fnAt (us := [.ref a, .ref b]) (ws := [.ref a, .ref b]) F hr (hx σ) I2 (.cons rfl (.cons rfl .nil)) q)) (fun w s' z => cb_of z) fun _ _ x => x)
  · cases (show v = Value.ref a from rx)
    obtain ⟨t, rfl⟩ := (show ∃ t, u = Value.int i t from ry)
    obtain ⟨sl, od, _, J, _⟩ := SlX.slt_inst I2 h1
    obtain ⟨fo, e1⟩ := c.i1
    obtain ⟨ro, e2⟩ := c.i2
    exact PySem.W.ksp_binT (T := "int") hF I2.ok.mod.kin J rfl c.sf c.at_ c.fn c.atR (.inr ⟨_, rfl⟩) e1 e2 c.us (wpAny_mono (wpAny_call (run_fnAt (us := [.ref a, .int i t]) (ws := [.ref a, .int i]) F hr (hx σ) I2 (.cons rfl (.cons ⟨t, rfl⟩ .nil)) q)) (fun w s' z => cb_of z) fun _ _ x => x)
  · obtain ⟨t, rfl⟩ := (show ∃ t, v = Value.int i t from rx)
    cases (show u = Value.ref b from ry)
    obtain ⟨sl, od, _, J, _⟩ := SlX.slt_inst I2 h1
    exact bin_refl io I2.kIn J ⟨_, J.at_, fun _ _ => by intro z; cases z⟩ c.sf c.at_ c.atR c.fnR c.su (wpAny_mono (wpAny_call (run_fnAt (us := [.ref b, .int i t]) (ws := [.ref b, .int i]) G hr2 (hx σ) I2 (.cons rfl (.cons ⟨t, rfl⟩ .nil)) q)) (fun w s' z => cb_of z) fun _ _ x => x)
/-- - x -/
def rNegL (C : Addr) (sp : Sp) : V → Hp → VK → Prop := fun x H Q => ∃ a dx vs, x = .ref a ∧ SlX.Slt H a C dx vs ∧ sp [x] H Q E0
theorem un_negL (hs : PySem.W.findIn X.K (.ref C) "__neg__" = some (some (.ref f))) (hf : PySem.W.isFn X.K (.ref f) = true) (F : FnR X.prog X.w X.K X.mg X.base (L2.CX X.prog X.w) n f sp) (hr : Room n X.A) : UnR X (unaryOp .USub) (rNegL C sp) := by
  intro pins s σ H x v Q I rx h
  obtain ⟨a, dx, vs, rfl, h1, q⟩ := h
  cases (show v = Value.ref a from rx)
  obtain ⟨sl, od, _, J, _⟩ := SlX.slt_inst I h1
  obtain ⟨m, hF⟩ := I.fr
  exact PySem.W.ksp_neg hF I.ok.mod.kin J hs hf (wpAny_call (run_fnR (us := [.ref a]) (vs := [.ref a]) F hr passL I (.cons rfl .nil) q))
/-! raise C(), C a class of the text with no __init__ -/
theorem pmk_own0 {bmB : List Value} {BB newId initId : String} {x : Str} {p : Pos} (F : ExcBaseFacts BB newId initId bmB) (q : PySem.W.excIn X.K C bmB newId = true) (gC : X.mg x = some (.ref C))
    (kC : PySem.W.keepIn X.K (.ref C) = true) (r : Raises X (.ref C)) (hg : Gl X x) (hdb : (x == ("__debug__" : Str)) = false := by decide) :
    PMk X (.Call (.Name x p) [] [] pos) (fun _ H Q => Q (.ref C) none H) := by
  intro pins s σ H Q I h
  refine wpAny_Call_Name_kw (ld_glob I hg gC ?_ hdb)
  refine PySem.W.callWith_K0 (first := []) I.kIn kC ?_
  show wpAny _ _ (call (.ref C) []) _ _ _
  obtain ⟨bm, N, nm, qn, bs, hdct, sn, sub, ab, col, dd, k0, k1, k2, k3, k5, mN, hC, hN, hni, T⟩ := exc_obj I.kIn q
  refine wpAny_call_exc_subT F T hC hN hni (fun h' e hm => ?_) (Nat.zero_le _)
  exact mk_of I hm r h (I.hok.gone hm.new)
end
structure Ex0 (K : Frag) (C : Addr) : Prop where
  ex : PySem.W.excIn K C [.type "ValueError", .type "Exception", .type "BaseException", .type "object"] "ValueError.__new__" = true
  kp : PySem.W.keepIn K (.ref C) = true
  sb : PySem.W.subIn K (.ref C) (.type "BaseException") = some true
  ty : PySem.W.typeIn K (.ref C) = some (.type "type")
def ex0B (K : Frag) (C : Addr) : Bool := PySem.W.excIn K C [.type "ValueError", .type "Exception", .type "BaseException", .type "object"] "ValueError.__new__" && (PySem.W.keepIn K (.ref C) &&
  (decide (PySem.W.subIn K (.ref C) (.type "BaseException") = some true) && decide (PySem.W.typeIn K (.ref C) = some (.type "type"))))
theorem ex0B_ok {K : Frag} {C : Addr} (q : ex0B K C = true) : Ex0 K C := by
  obtain ⟨a, q⟩ := He.ba q
  obtain ⟨b, q⟩ := He.ba q
  obtain ⟨c, d⟩ := He.ba q
  exact ⟨a, b, of_decide_eq_true c, of_decide_eq_true d⟩
theorem ps_raiseP {X : Cx} {C : Addr} {W : WX} {x : Str} {p pos pos2 : Pos} (hc : X.calm = true) (tk : Takes X W) (c : Ex0 X.K C) (hg : Gl X x) (gC : X.mg x = some (.ref C)) (hdb : (x == ("__debug__" : Str)) = false := by decide) :
    PS X (.Raise (some (.Call (.Name x p) [] [] pos)) none pos2) (fun _ σ H => W (.ref C) none σ H) :=
  ps_raise hc tk (pmk_own0 PySem.F.excBase_ValueError c.ex gC c.kp (raises_own c.sb c.ty) hg hdb)
end S
namespace S
open PySem PySem.Spec PyProof.Rows L2
/-! abs(x) by the class's own def -/
section
variable {X : Cx} {C g : Addr} {n : Nat} {sp : Sp}
def rAbsL (C : Addr) (sp : Sp) : List V → Hp → VK → Prop := fun xs H Q => ∃ a dx vs, xs = [V.ref a] ∧ SlX.Slt H a C dx vs ∧ sp [.ref a] H Q E0
theorem call_absL (hs : PySem.W.findIn X.K (.ref C) "__abs__" = some (some (.ref g))) (hf : PySem.W.isFn X.K (.ref g) = true) (F : FnR X.prog X.w X.K X.mg X.base (L2.CX X.prog X.w) n g sp) (hr : Room (n + 1) X.A) : CallR X (.builtin "abs") (rAbsL C sp) := by
  intro pins s σ H xs us Q I r h
  obtain ⟨a, dx, vs, rfl, hsl, q⟩ := h
  obtain ⟨u, rfl, ru⟩ := r.one
  cases (show u = Value.ref a from ru)
  obtain ⟨sl, od, _, J, _⟩ := SlX.slt_inst I hsl
  refine PySem.Calls.call_function_entry kind_abs plain_abs entry_abs (args_abs _) ?_
  unfold Builtin.«abs»
  refine wpAny_bind (wpAny_of_eq (a := .ref a) rfl ?_)
  refine wpAny_bind (PySem.W.special_fn I.kIn J hs (beq_iff_eq.mp hf) (wpAny_mono (wpAny_call (SlX.run_at (us := [.ref a]) (ws := [.ref a]) F hr.in1 I.env0.in1 passL I (.cons rfl .nil) q)) (fun w s' z => ?_) fun _ _ x => x))
  exact wpAny_pure ⟨_, rfl, z⟩
end
end S
namespace S
open PySem PySem.Spec PyProof.Rows L2
/-! // by any divisor but 0 -/
def CDivN (_ j : Int) : Prop := j ≠ 0 ∧ j.natAbs.log2 < 9000
theorem op_fdivN {X : Cx} : OpR X (binaryOp .FloorDiv) (rI CDivN fun i j => .int (i.fdiv j)) := opI fun i j _ _ _ _ _ hc q => floordiv_int hc.1 q (.inl (PyProof.noPylong_of_log2 hc.2))
end S
namespace S
open PySem PySem.Spec PyProof.Rows L2
/-! ### == < .. of slotted instances by their own defs, the right side an instance of the class or an int -/
section
variable {X : Cx} {n : Nat} {C g : Addr} {sp : Sp}
def rCmpL (K : Frag) (C : Addr) (sp : Sp) : R2 := fun x y H Q => ∃ a dx vs, x = .ref a ∧ SlX.Slt H a C dx vs ∧ ((∃ b dy ws, y = .ref b ∧ SlX.Slt H b C dy ws) ∨ ((∃ i, y = .int i) ∧ PySem.W.notFirst K C (.type "int") = true)) ∧ sp [x, y] H Q E0
theorem op_cmpL {op : CmpOp} (hop : ∀ a b, compareOp op a b = richCompare op a b) (hs : PySem.W.findIn X.K (.ref C) (cmpInfo op).2.1 = some (some (.ref g))) (hf : PySem.W.isFn X.K (.ref g) = true)
    (F : FnR X.prog X.w X.K X.mg X.base (L2.CX X.prog X.w) n g sp) (hr : Room n X.A) : OpR X (compareOp op) (rCmpL X.K C sp) := by
  intro pins s σ H x y v u Q I rx ry h
  obtain ⟨a, dx, vs, rfl, h1, hy, q⟩ := h
  cases (show v = Value.ref a from rx)
  obtain ⟨sl, od, _, J, _⟩ := SlX.slt_inst I h1
  obtain ⟨m, hF⟩ := I.fr
  rw [hop]
  rcases hy with ⟨b, dy, ws, rfl, h2⟩ | ⟨⟨i, rfl⟩, hn⟩
  · cases (show u = Value.ref b from ry)
    obtain ⟨sl', od', _, J', _⟩ := SlX.slt_inst I h2
    refine PySem.W.cmp_K (op := op) (tb := .ref C) hr.units0 hF I.ok.mod.kin J J'.type (by simp [PySem.W.notFirst]) hs hf ?_
    refine wpAny_mono (wpAny_call (run_fnR (us := [.ref a, .ref b]) (vs := [.ref a, .ref b]) F hr passL I (.cons rfl (.cons rfl .nil)) q)) (fun w s' z => ?_) fun _ _ x => x
    obtain ⟨z2, H2, I2, rz, qz⟩ := z
    exact SlX.cmpback rz ⟨z2, H2, I2, rz, qz⟩
  · obtain ⟨t, rfl⟩ := (show ∃ t, u = Value.int i t from ry)
    refine PySem.W.cmp_K (op := op) (tb := .type "int") hr.units0 hF I.ok.mod.kin J (PySem.W.Looks.of_pure rfl) hn hs hf ?_
    refine wpAny_mono (wpAny_call (run_fnR (us := [.ref a, .int i t]) (vs := [.ref a, .int i]) F hr passL I (.cons rfl (.cons ⟨t, rfl⟩ .nil)) q)) (fun w s' z => ?_) fun _ _ x => x
    obtain ⟨z2, H2, I2, rz, qz⟩ := z
    exact SlX.cmpback rz ⟨z2, H2, I2, rz, qz⟩
/-- x != y by x's own ==, both of the class -/
def rNeL (C : Addr) (sp : Sp) : R2 := fun x y H Q => ∃ a dx vs b dy ws, x = .ref a ∧ y = .ref b ∧ SlX.Slt H a C dx vs ∧ SlX.Slt H b C dy ws ∧ sp [x, y] H (fun z H2 => ∃ r, z = .bl r ∧ Q (.bl (!r)) H2) E0
theorem op_neL (hne : PySem.W.findIn X.K (.ref C) "__ne__" = some (some (.builtin "object.__ne__"))) (hm : PySem.W.mroIn X.K C (.type "object") = some true)
    (hs : PySem.W.findIn X.K (.ref C) "__eq__" = some (some (.ref g))) (hf : PySem.W.isFn X.K (.ref g) = true)
    (F : FnR X.prog X.w X.K X.mg X.base (L2.CX X.prog X.w) n g sp) (hr : Room (n + 1) X.A) : OpR X (compareOp .NotEq) (rNeL C sp) := by
  intro pins s σ H x y v u Q I rx ry h
  obtain ⟨a, dx, fs, b, dy, gs, rfl, rfl, ha, hb, q⟩ := h
  cases (show v = Value.ref a from rx)
  cases (show u = Value.ref b from ry)
  obtain ⟨sl, od, _, J, _⟩ := SlX.slt_inst I ha
  obtain ⟨sl', od', _, J2, _⟩ := SlX.slt_inst I hb
  show wpAny _ _ (richCompare .NotEq (.ref a) (.ref b)) _ _ _
  refine ne_K (tb := .ref C) (hu_of hr) I.kIn J J2.type (by simp [PySem.W.notFirst]) hne hm hs hf ?_
  refine wpAny_mono (wpAny_call (SlX.run_at (us := [.ref a, .ref b]) (ws := [.ref a, .ref b]) F hr.in1 I.env0.in1 passL I (.cons rfl (.cons rfl .nil)) q)) (fun w s' z => ?_) fun _ _ x => x
  obtain ⟨z2, H2, I2, rz, r, rfl, qz⟩ := z
  cases (show w = Value.bool r from rz)
  exact ⟨r, rfl, .bl (!r), H2, I2, rfl, qz⟩
end
end S
namespace S
open PySem PySem.Spec PyProof.Rows L2
/-! ### [e for x in ..] by an invariant over the turn and the heap -/
section
variable {K : Frag} {a D : Addr} {xs : List V} {g : TG} {te : TE} {σ : L2.St} {H : Hp} {vs : List Nat} {R0 : Hp → Prop}
theorem lc_list (Pv : Nat → Hp → Prop) (h0 : Pv 0 (upd H D (.lst []))) (hl : ∀ i H, i ≤ xs.length → Pv i H → SqL K H a xs)
    (hs : ∀ i x H, xs[i]? = some x → Pv i H → g x (wipe σ vs) H fun σ2 H2 => wipe σ2 vs = wipe σ vs ∧ te σ2 H2 fun y H4 => ∃ acc, H4 D = some (.lst acc) ∧ acc.length < sizeLine ∧ Pv (i + 1) (upd H4 D (.lst (acc ++ [y]))))
    (hd : ∀ H, Pv xs.length H → R0 H)
    (mono : ∀ x H R R', (∀ σ2 H2, R σ2 H2 → R' σ2 H2) → g x (wipe σ vs) H R → g x (wipe σ vs) H R') :
    ∃ W : Nat → Nat → Hp → Prop, (∃ m, W 0 m (upd H D (.lst []))) ∧ ∀ i m H, W i m H →
      ((Itl K a).stop i H ∧ R0 H) ∨ ((Itl K a).go i H ∧ ∃ Nx : Hp → Prop, (∀ H', Nx H' → ∃ m', m' < m ∧ W (i + 1) m' H') ∧ ∀ x H', (Itl K a).yld i H x H' → g x (wipe σ vs) H' fun σ2 H2 => wipe σ2 vs = wipe σ vs ∧ tYes σ2 H2 fun b H3 =>
        if b = true then te σ2 H3 fun y H4 => ∃ acc, H4 D = some (.lst acc) ∧ acc.length < sizeLine ∧ Nx (upd H4 D (.lst (acc ++ [y]))) else Nx H3) := by
  refine ⟨fun i m H => m = xs.length - i ∧ i ≤ xs.length ∧ Pv i H, ⟨xs.length, by simp, Nat.zero_le _, h0⟩, ?_⟩
  rintro i m H ⟨rfl, hi, p⟩
  have q := hl i H hi p
  by_cases hlt : i < xs.length
  · refine .inr ⟨⟨xs, xs[i], q, by simp [hlt]⟩, Pv (i + 1), fun H' p' => ⟨xs.length - (i + 1), by omega, rfl, hlt, p'⟩, fun x H' y => ?_⟩
    obtain ⟨e, y⟩ := y
    subst e
    exact mono _ _ _ _ (fun σ2 H2 z => ⟨z.1, by unfold tYes; exact iteT z.2⟩) (hs i x _ (y xs q) p)
  · have e : i = xs.length := by omega
    subst e
    exact .inl ⟨⟨xs, q, Nat.le_refl _⟩, hd H p⟩
theorem lc_range {lo : Int} {n : Nat} (Pv : Nat → Hp → Prop) (h0 : Pv 0 (upd H D (.lst [])))
    (hs : ∀ i H, i < n → Pv i H → g (.int (lo + i)) (wipe σ vs) H fun σ2 H2 => wipe σ2 vs = wipe σ vs ∧ te σ2 H2 fun y H4 => ∃ acc, H4 D = some (.lst acc) ∧ acc.length < sizeLine ∧ Pv (i + 1) (upd H4 D (.lst (acc ++ [y]))))
    (hd : ∀ H, Pv n H → R0 H)
    (mono : ∀ x H R R', (∀ σ2 H2, R σ2 H2 → R' σ2 H2) → g x (wipe σ vs) H R → g x (wipe σ vs) H R') :
    ∃ W : Nat → Nat → Hp → Prop, (∃ m, W 0 m (upd H D (.lst []))) ∧ ∀ i m H, W i m H →
      ((Itr lo n).stop i H ∧ R0 H) ∨ ((Itr lo n).go i H ∧ ∃ Nx : Hp → Prop, (∀ H', Nx H' → ∃ m', m' < m ∧ W (i + 1) m' H') ∧ ∀ x H', (Itr lo n).yld i H x H' → g x (wipe σ vs) H' fun σ2 H2 => wipe σ2 vs = wipe σ vs ∧ tYes σ2 H2 fun b H3 =>
        if b = true then te σ2 H3 fun y H4 => ∃ acc, H4 D = some (.lst acc) ∧ acc.length < sizeLine ∧ Nx (upd H4 D (.lst (acc ++ [y]))) else Nx H3) := by
  refine ⟨fun i m H => m = n - i ∧ i ≤ n ∧ Pv i H, ⟨n, by simp, Nat.zero_le _, h0⟩, ?_⟩
  rintro i m H ⟨rfl, hi, p⟩
  by_cases hlt : i < n
  · refine .inr ⟨hlt, Pv (i + 1), fun H' p' => ⟨n - (i + 1), by omega, rfl, hlt, p'⟩, fun x H' y => ?_⟩
    obtain ⟨e, y⟩ := y
    subst e y
    exact mono _ _ _ _ (fun σ2 H2 z => ⟨z.1, by unfold tYes; exact iteT z.2⟩) (hs i _ hlt p)
  · have e : i = n := by omega
    subst e
    exact .inl ⟨Nat.le_refl _, hd H p⟩
theorem gName_mono {i : Nat} {σ : L2.St} : ∀ (x : V) (H : Hp) (R R' : L2.St → Hp → Prop), (∀ σ2 H2, R σ2 H2 → R' σ2 H2) → gName i x σ H R → gName i x σ H R' := fun _ _ _ _ k h => k _ _ h
theorem sumK {X : Cx} (hK : X.K = K) (hc : X.calm = true) : CallR X (.builtin "sum") (rSum K) := hK ▸ cr_sum hc
theorem boot_sum : bootBuiltins "sum" = some (.builtin "sum") := by decide +kernel
end
end S
namespace S
open PySem PySem.Spec PyProof.Rows L2
/-! ### == of any data, by what the parts answer -/
section
variable {K : Frag} {H : Hp} {n m : Nat} {x y : V} {b : Bool}
def EqOk (K : Frag) (H : Hp) (n : Nat) (x y : V) (b : Bool) : Prop := ∀ (X : Cx) (pins : List (Addr × Obj)) (σ : L2.St) (s : Shared) (A : Around) (v u : Value), X.K = K → Inv X pins σ H s → A.units + n < cLine → RelV x v → RelV y u → SeqAt.EqAt A s v u b
def RcOk (K : Frag) (H : Hp) (n : Nat) (x y : V) (b : Bool) : Prop := ∀ (X : Cx) (pins : List (Addr × Obj)) (σ : L2.St) (s : Shared) (A : Around) (v u : Value), X.K = K → Inv X pins σ H s → A.units + n < cLine → RelV x v → RelV y u → ∀ (E Q : Value → Shared → Prop), Q (.bool b) s → wpAny (model X.prog X.w) A (richCompare .Eq v u) Q E s
def NeOk (K : Frag) (H : Hp) (n : Nat) (x y : V) (b : Bool) : Prop := ∀ (X : Cx) (pins : List (Addr × Obj)) (σ : L2.St) (s : Shared) (A : Around) (v u : Value), X.K = K → Inv X pins σ H s → A.units + n < cLine → RelV x v → RelV y u → ∀ (E Q : Value → Shared → Prop), Q (.bool (!b)) s → wpAny (model X.prog X.w) A (richCompare .NotEq v u) Q E s
structure EqG (K : Frag) (H : Hp) (n : Nat) (x y : V) (b : Bool) : Prop where
  eq : RcOk K H n x y b
  ne : NeOk K H n x y b
  at_ : EqOk K H n x y b
theorem EqOk.up (h : EqOk K H n x y b) (l : n ≤ m) : EqOk K H m x y b := fun X pins σ s A v u k I hu => h X pins σ s A v u k I (Nat.lt_of_le_of_lt (Nat.add_le_add_left l _) hu)
theorem EqOk.to {c : Bool} (h : EqOk K H n x y b) (e : b = c) : EqOk K H n x y c := e ▸ h
theorem EqG.to {c : Bool} (h : EqG K H n x y b) (e : b = c) : EqG K H n x y c := e ▸ h
theorem EqG.up (h : EqG K H n x y b) (l : n ≤ m) : EqG K H m x y b :=
  ⟨fun X pins σ s A v u k I hu => h.eq X pins σ s A v u k I (Nat.lt_of_le_of_lt (Nat.add_le_add_left l _) hu), fun X pins σ s A v u k I hu => h.ne X pins σ s A v u k I (Nat.lt_of_le_of_lt (Nat.add_le_add_left l _) hu), h.at_.up l⟩
theorem eg_same {a : Addr} : EqOk K H n (.ref a) (.ref a) true := fun X pins σ s A v u k I hu rv ru => by
  cases rv
  cases ru
  exact SeqAt.EqAt.same _
theorem eg_dat {d e : PyData} (hd : Dp K H x d) (he : Dp K H y e) (pd : d.plain = true) (pe : e.plain = true) : EqG K H (min d.depth e.depth) x y (PyData.eqv d e) where
  eq := fun X pins σ s A v u k I hu rv ru => by
    subst k
    obtain ⟨as, r1⟩ := Dp.reads I d x v hd rv
    obtain ⟨bs, r2⟩ := Dp.reads I e y u he ru
    exact SeqAt.rcAt_plain r1 r2 pd pe hu X.prog X.w
  ne := fun X pins σ s A v u k I hu rv ru => by
    subst k
    obtain ⟨as, r1⟩ := Dp.reads I d x v hd rv
    obtain ⟨bs, r2⟩ := Dp.reads I e y u he ru
    exact SeqAt.rcNe_plain r1 r2 pd pe hu X.prog X.w
  at_ := fun X pins σ s A v u k I hu rv ru => by
    subst k
    obtain ⟨as, r1⟩ := Dp.reads I d x v hd rv
    obtain ⟨bs, r2⟩ := Dp.reads I e y u he ru
    exact SeqAt.eqAt_plain _ _ _ _ _ _ _ _ r1 r2 pd pe hu
theorem vals_at {xs : List V} {us : List Value} (r : Vals xs us) {j : Nat} (h : j < us.length) : ∃ x, xs[j]? = some x ∧ RelV x us[j] := by
  have hx : j < xs.length := by rw [r.length]; exact h
  obtain ⟨u, e, q⟩ := r.get (List.getElem?_eq_getElem hx)
  rw [List.getElem?_eq_getElem h] at e
  cases e
  exact ⟨_, List.getElem?_eq_getElem hx, q⟩
/-- pair by pair -/
def pairs (e : Nat → Bool) (xs ys : List V) : Bool := decide (xs.length = ys.length) && (List.range xs.length).all e
theorem eg_list {a c : Addr} {xs ys : List V} {e : Nat → Bool} (ha : SqL K H a xs) (hc : SqL K H c ys) (he : ∀ i p q, xs[i]? = some p → ys[i]? = some q → EqOk K H n p q (e i)) (hab : a = c → pairs e xs ys = true) : EqG K H (n + 1) (.ref a) (.ref c) (pairs e xs ys) := by
  have rc : ∀ (X : Cx) (pins : List (Addr × Obj)) (σ : L2.St) (s : Shared) (A : Around) (v u : Value), X.K = K → Inv X pins σ H s → A.units + (n + 1) < cLine → RelV (.ref a) v → RelV (.ref c) u → SeqAt.RcAt A s v u (pairs e xs ys) := fun X pins σ s A v u k I hu rv ru => by
    subst k
    cases rv
    cases ru
    obtain ⟨its, r, pl, _⟩ := I.list ha
    obtain ⟨its2, r2, pl2, _⟩ := I.list hc
    unfold pairs
    by_cases hl : xs.length = ys.length
    · rw [decide_eq_true hl, Bool.true_and]
      have := SeqAt.RcAt.lists (A := A) (e := e) pl.isList pl2.isList (by simp only [List.size_toArray]; rw [← r.length, ← r2.length, hl]) (by omega) (fun j h1 h2 => by
        obtain ⟨p, hp, rp⟩ := vals_at r (j := j) (by simpa using h1)
        obtain ⟨q, hq, rq⟩ := vals_at r2 (j := j) (by simpa using h2)
        simpa using he j p q hp hq X pins σ s A.in1 _ _ rfl I (by show A.units + 1 + n < cLine; omega) rp rq)
      rw [List.size_toArray, ← r.length] at this
      exact this
    · rw [decide_eq_false hl, Bool.false_and]
      exact SeqAt.RcAt.lists_lengths pl.isList pl2.isList (by simp only [List.size_toArray]; rw [← r.length, ← r2.length]; simpa using hl) (by omega)
  refine ⟨fun X pins σ s A v u k I hu rv ru => rc X pins σ s A v u k I hu rv ru X.prog X.w, fun X pins σ s A v u k I hu rv ru => ?_, fun X pins σ s A v u k I hu rv ru => ?_⟩
  · subst k
    cases rv
    cases ru
    obtain ⟨its, r, pl, _⟩ := I.list ha
    obtain ⟨its2, r2, pl2, _⟩ := I.list hc
    unfold pairs
    by_cases hl : xs.length = ys.length
    · rw [decide_eq_true hl, Bool.true_and]
      have := SeqAt.RcNeAt.lists (A := A) (e := e) pl.isList pl2.isList (by simp only [List.size_toArray]; rw [← r.length, ← r2.length, hl]) (by omega) (fun j h1 h2 => by
        obtain ⟨p, hp, rp⟩ := vals_at r (j := j) (by simpa using h1)
        obtain ⟨q, hq, rq⟩ := vals_at r2 (j := j) (by simpa using h2)
        simpa using he j p q hp hq X pins σ s A.in1 _ _ rfl I (by show A.units + 1 + n < cLine; omega) rp rq)
      rw [List.size_toArray, ← r.length] at this
      exact this X.prog X.w
    · rw [decide_eq_false hl, Bool.false_and]
      exact SeqAt.RcNeAt.lists_lengths pl.isList pl2.isList (by simp only [List.size_toArray]; rw [← r.length, ← r2.length]; simpa using hl) (by omega) X.prog X.w
  · have z := rc X pins σ s A v u k I hu rv ru
    cases rv
    cases ru
    by_cases e0 : a = c
    · subst e0
      rw [hab rfl]
      exact SeqAt.EqAt.same _
    · exact SeqAt.EqAt.of_refs e0 z
theorem eg_tup {a c : Addr} {xs ys : List V} {e : Nat → Bool} (ha : SqT K H a xs) (hc : SqT K H c ys) (he : ∀ i p q, xs[i]? = some p → ys[i]? = some q → EqOk K H n p q (e i)) (hab : a = c → pairs e xs ys = true) : EqG K H (n + 1) (.ref a) (.ref c) (pairs e xs ys) := by
  have flag : ∀ {p q : Nat}, p = xs.length → q = ys.length → ((List.range (min p q)).all e && p == q) = pairs e xs ys := fun {p q} h1 h2 => by
    subst h1 h2
    unfold pairs
    by_cases hl : xs.length = ys.length
    · rw [← hl]; simp
    · simp [hl]
  have rc : ∀ (X : Cx) (pins : List (Addr × Obj)) (σ : L2.St) (s : Shared) (A : Around) (v u : Value), X.K = K → Inv X pins σ H s → A.units + (n + 1) < cLine → RelV (.ref a) v → RelV (.ref c) u → SeqAt.RcAt A s v u (pairs e xs ys) := fun X pins σ s A v u k I hu rv ru => by
    subst k
    cases rv
    cases ru
    obtain ⟨its, r, pl, _⟩ := I.tuple ha
    obtain ⟨its2, r2, pl2, _⟩ := I.tuple hc
    have := SeqAt.RcAt.tuples (A := A) (e := e) pl pl2 (by omega) (fun j h1 h2 => by
      obtain ⟨p, hp, rp⟩ := vals_at r (j := j) (by simpa using h1)
      obtain ⟨q, hq, rq⟩ := vals_at r2 (j := j) (by simpa using h2)
      simpa using he j p q hp hq X pins σ s A.in1 _ _ rfl I (by show A.units + 1 + n < cLine; omega) rp rq)
    rw [flag (by simp [r.length]) (by simp [r2.length])] at this
    exact this
  refine ⟨fun X pins σ s A v u k I hu rv ru => rc X pins σ s A v u k I hu rv ru X.prog X.w, fun X pins σ s A v u k I hu rv ru => ?_, fun X pins σ s A v u k I hu rv ru => ?_⟩
  · subst k
    cases rv
    cases ru
    obtain ⟨its, r, pl, _⟩ := I.tuple ha
    obtain ⟨its2, r2, pl2, _⟩ := I.tuple hc
    have := SeqAt.RcNeAt.tuples (A := A) (e := e) pl pl2 (by omega) (fun j h1 h2 => by
      obtain ⟨p, hp, rp⟩ := vals_at r (j := j) (by simpa using h1)
      obtain ⟨q, hq, rq⟩ := vals_at r2 (j := j) (by simpa using h2)
      simpa using he j p q hp hq X pins σ s A.in1 _ _ rfl I (by show A.units + 1 + n < cLine; omega) rp rq)
    rw [flag (by simp [r.length]) (by simp [r2.length])] at this
    exact this X.prog X.w
  · have z := rc X pins σ s A v u k I hu rv ru
    cases rv
    cases ru
    by_cases e0 : a = c
    · subst e0
      rw [hab rfl]
      exact SeqAt.EqAt.same _
    · exact SeqAt.EqAt.of_refs e0 z
/-- two dicts: as many keys, and each of the first at the second -/
def hitsV (f : V → V → Bool) (ks ls : List (Key × V)) : Bool := ks.all fun p => match valV ls p.1 with | some y => f p.2 y | none => false
theorem hits_G {A : Around} {s : Shared} {f : V → V → Bool} {ls : List (Key × V)} {vb : List (Key × Value)} (rb : KV ls vb) {ks : List (Key × V)} {va : List (Key × Value)} (ra : KV ks va) :
    (∀ p ∈ ks, ∀ z, valV ls p.1 = some z → ∀ v u, RelV p.2 v → RelV z u → SeqAt.EqAt A s v u (f p.2 z)) → PySem.W.KeqHits A s vb va (hitsV f ks ls) := by
  unfold KV at ra
  induction ra with
  | nil => intro _; exact .nil
  | @cons p q ps qs h t ih =>
    intro hp
    obtain ⟨h1, h2⟩ := h
    obtain ⟨k, v⟩ := q
    have h1' : p.1 = k := h1
    have ih := ih fun p' hm => hp p' (List.mem_cons_of_mem _ hm)
    unfold hitsV
    rw [List.all_cons]
    cases e : valV ls p.1 with
    | none =>
      have rr : RelO none (valueAt vb p.1) := by rw [← e]; exact rb.val p.1
      have hn : valueAt vb p.1 = none := by
        cases hv : valueAt vb p.1 with
        | none => rfl
        | some w => rw [hv] at rr; cases rr
      rw [h1'] at hn
      simp only [Bool.false_and]
      exact .miss hn
    | some z =>
      have rr : RelO (some z) (valueAt vb p.1) := by rw [← e]; exact rb.val p.1
      obtain ⟨y, hy, ry⟩ := rr.some_of
      rw [h1'] at hy
      exact .hit hy (hp p List.mem_cons_self z e v y h2 ry) ih
theorem eg_dict {a c : Addr} {ks ls : List (Key × V)} {f : V → V → Bool} (ha : H a = some (.dK ks)) (hc : H c = some (.dK ls)) (he : ∀ p ∈ ks, ∀ z, valV ls p.1 = some z → EqOk K H n p.2 z (f p.2 z)) :
    RcOk K H (n + 1) (.ref a) (.ref c) (decide (ks.length = ls.length) && hitsV f ks ls) ∧ NeOk K H (n + 1) (.ref a) (.ref c) (decide (ks.length = ls.length) && hitsV f ks ls) := by
  refine ⟨fun X pins σ s A v u k I hu rv ru E Q q => ?_, fun X pins σ s A v u k I hu rv ru E Q q => ?_⟩
  · cases rv
    cases ru
    obtain ⟨_, ya, va, ra, da⟩ := (show ObjOk X.prog X.w H s.heap a (.dK ks) from I.hok a _ ha)
    obtain ⟨_, yb, vb, rb, db⟩ := (show ObjOk X.prog X.w H s.heap c (.dK ls) from I.hok c _ hc)
    refine PySem.W.keq_eq (knd := mixKind X.prog X.w) (r := hitsV f ks ls) ya yb da db (by omega) (fun _ => hits_G rb ra fun p hp z hz v u rv ru => he p hp z hz X pins σ s A.in1 v u k I (by show A.units + 1 + n < cLine; omega) rv ru) ?_
    rw [← ra.length, ← rb.length]
    exact q
  · cases rv
    cases ru
    obtain ⟨_, ya, va, ra, da⟩ := (show ObjOk X.prog X.w H s.heap a (.dK ks) from I.hok a _ ha)
    obtain ⟨_, yb, vb, rb, db⟩ := (show ObjOk X.prog X.w H s.heap c (.dK ls) from I.hok c _ hc)
    refine PySem.W.keq_ne (knd := mixKind X.prog X.w) (r := hitsV f ks ls) ya yb da db (by omega) (fun _ => hits_G rb ra fun p hp z hz v u rv ru => he p hp z hz X pins σ s A.in1 v u k I (by show A.units + 1 + n < cLine; omega) rv ru) ?_
    rw [← ra.length, ← rb.length]
    exact q
def toV : Value → V
  | .none => .non
  | .bool b => .bl b
  | .int i _ => .int i
  | .str z _ => .str z
  | .bytes b _ => .byt b
  | .float b _ => .flt b
  | .ref a => .ref a
  | .type n => .ty n
  | _ => .non
theorem toV_of {x : V} {u : Value} (h : L2.RelV x u) : toV u = x := by cases x <;> first | (cases h; rfl) | (obtain ⟨t, rfl⟩ := h; rfl)
theorem relV_one {x y : V} {u : Value} (h : L2.RelV x u) (k : L2.RelV y u) : x = y := (toV_of h).symm.trans (toV_of k)
/-- x == y, x != y, by their parts -/
def rEqG (K : Frag) : R2 := fun x y H Q => ∃ n b, n ≤ 60 ∧ RcOk K H n x y b ∧ Q (.bl b) H
def rNeG (K : Frag) : R2 := fun x y H Q => ∃ n b, n ≤ 60 ∧ NeOk K H n x y b ∧ Q (.bl (!b)) H
theorem eqGK {X : Cx} (hK : X.K = K) (hu : X.A.units + 64 < cLine) : OpR X (compareOp .Eq) (rEqG K) := by
  intro pins s σ H x y v u Q I rx ry h
  obtain ⟨n, b, hn, h, q⟩ := h
  exact h X pins σ s X.A v u hK I (by omega) rx ry _ _ ⟨.bl b, H, I, rfl, q⟩
theorem neGK {X : Cx} (hK : X.K = K) (hu : X.A.units + 64 < cLine) : OpR X (compareOp .NotEq) (rNeG K) := by
  intro pins s σ H x y v u Q I rx ry h
  obtain ⟨n, b, hn, h, q⟩ := h
  exact h X pins σ s X.A v u hK I (by omega) rx ry _ _ ⟨.bl (!b), H, I, rfl, q⟩
/-- x in ys, a list or a tuple: f tells which item equals x -/
def rInG (K : Frag) (neg : Bool) : R2 := fun x y H Q => ∃ p ys n f, y = .ref p ∧ (SqL K H p ys ∨ SqT K H p ys) ∧ n ≤ 60 ∧ (∀ z ∈ ys, EqOk K H n z x (f z)) ∧ Q (.bl (if neg then !ys.any f else ys.any f)) H
def eU (_ : List V) (f : V → Bool) (u : Value) : Bool := f (toV u)
theorem eU_of {ys : List V} {f : V → Bool} {z : V} {u : Value} (hz : z ∈ ys) (r : L2.RelV z u) : eU ys f u = f z := by
  unfold eU
  rw [toV_of r]
theorem any_eU {f : V → Bool} {ys0 : List V} : ∀ {ys : List V} {us : List Value}, Vals ys us → (∀ z ∈ ys, z ∈ ys0) → us.any (eU ys0 f) = ys.any f
  | _, _, .nil, _ => rfl
  | y :: ys, u :: us, .cons r t, h => by
    rw [List.any_cons, List.any_cons, eU_of (h y List.mem_cons_self) r, any_eU t fun z hz => h z (List.mem_cons_of_mem _ hz)]
theorem vals_mem : ∀ {ys : List V} {us : List Value}, Vals ys us → ∀ u ∈ us, ∃ z ∈ ys, RelV z u
  | _, _, .nil, u, h => by cases h
  | y :: ys, u :: us, .cons r t, u', h => by
    rcases List.mem_cons.mp h with rfl | h
    · exact ⟨y, List.mem_cons_self, r⟩
    · obtain ⟨z, hz, q⟩ := vals_mem t u' h
      exact ⟨z, List.mem_cons_of_mem _ hz, q⟩
theorem inGK {X : Cx} (hK : X.K = K) (hu : X.A.units + 64 < cLine) : OpR X (compareOp .In) (rInG K false) := by
  intro pins s σ H x y v u Q I rx ry h
  subst hK
  obtain ⟨p, ys, n, f, rfl, hq, hn, he, q⟩ := h
  cases ry
  rcases hq with hq | hq
  · obtain ⟨its, r, pl, hz⟩ := I.list hq
    refine SeqAt.in_listAt (eU ys f) pl.isList (fun w hw => ?_) ⟨.bl _, H, I, rfl, ?_⟩
    · obtain ⟨z, hz, rz⟩ := vals_mem r w (by simpa using hw)
      rw [eU_of hz rz]
      exact he z hz X pins σ s X.A.in1 _ _ rfl I (by show X.A.units + 1 + n < cLine; omega) rz rx
    · rw [show its.toArray.any (eU ys f) = its.any (eU ys f) by simp, any_eU r fun _ h => h]
      exact q
  · obtain ⟨its, r, pl, hz⟩ := I.tuple hq
    refine SeqAt.in_tupleAt (eU ys f) pl (fun w hw => ?_) ⟨.bl _, H, I, rfl, ?_⟩
    · obtain ⟨z, hz, rz⟩ := vals_mem r w (by simpa using hw)
      rw [eU_of hz rz]
      exact he z hz X pins σ s X.A.in1 _ _ rfl I (by show X.A.units + 1 + n < cLine; omega) rz rx
    · rw [show its.toArray.any (eU ys f) = its.any (eU ys f) by simp, any_eU r fun _ h => h]
      exact q
theorem notInGK {X : Cx} (hK : X.K = K) (hu : X.A.units + 64 < cLine) : OpR X (compareOp .NotIn) (rInG K true) := by
  intro pins s σ H x y v u Q I rx ry h
  subst hK
  obtain ⟨p, ys, n, f, rfl, hq, hn, he, q⟩ := h
  cases ry
  rcases hq with hq | hq
  · obtain ⟨its, r, pl, hz⟩ := I.list hq
    refine SeqAt.notIn_listAt (eU ys f) pl.isList (fun w hw => ?_) ⟨.bl _, H, I, rfl, ?_⟩
    · obtain ⟨z, hz, rz⟩ := vals_mem r w (by simpa using hw)
      rw [eU_of hz rz]
      exact he z hz X pins σ s X.A.in1 _ _ rfl I (by show X.A.units + 1 + n < cLine; omega) rz rx
    · rw [show its.toArray.any (eU ys f) = its.any (eU ys f) by simp, any_eU r fun _ h => h]
      exact q
  · obtain ⟨its, r, pl, hz⟩ := I.tuple hq
    refine SeqAt.notIn_tupleAt (eU ys f) pl (fun w hw => ?_) ⟨.bl _, H, I, rfl, ?_⟩
    · obtain ⟨z, hz, rz⟩ := vals_mem r w (by simpa using hw)
      rw [eU_of hz rz]
      exact he z hz X pins σ s X.A.in1 _ _ rfl I (by show X.A.units + 1 + n < cLine; omega) rz rx
    · rw [show its.toArray.any (eU ys f) = its.any (eU ys f) by simp, any_eU r fun _ h => h]
      exact q
end
end S
namespace S
open PySem PySem.Spec PyProof.Rows L2
/-! ### a list or a tuple that stands still, walked -/
section
variable {X : Cx} {K : Frag}
abbrev SqX (K : Frag) (H : Hp) (a : Addr) (xs : List V) : Prop := SqL K H a xs ∨ SqT K H a xs
theorem SqX.same {H H' : Hp} {a : Addr} {xs : List V} (h : SqX K H a xs) (s : Same H H') : SqX K H' a xs := by
  rcases h with (h | h) | (h | h)
  · rcases h with h | ⟨o, h⟩
    · exact .inl (.inl (.inl (s _ _ h)))
    · exact .inl (.inl (.inr ⟨o, s _ _ h⟩))
  · exact .inl (.inr h)
  · rcases h with h | ⟨o, h⟩
    · exact .inr (.inl (.inl (s _ _ h)))
    · exact .inr (.inl (.inr ⟨o, s _ _ h⟩))
  · exact .inr (.inr h)
theorem sqL_same {H H' : Hp} {a : Addr} {xs : List V} (h : SqL K H a xs) (s : Same H H') : SqL K H' a xs := by
  rcases h with (h | ⟨o, h⟩) | h
  · exact .inl (.inl (s _ _ h))
  · exact .inl (.inr ⟨o, s _ _ h⟩)
  · exact .inr h
theorem sqT_same {H H' : Hp} {a : Addr} {xs : List V} (h : SqT K H a xs) (s : Same H H') : SqT K H' a xs := by
  rcases h with (h | ⟨o, h⟩) | h
  · exact .inl (.inl (s _ _ h))
  · exact .inl (.inr ⟨o, s _ _ h⟩)
  · exact .inr h
def iSeq (K : Frag) (tl : TE) : TI := fun σ H R => tl σ H fun x H1 => ∃ a xs, x = .ref a ∧ SqX K H1 a xs ∧ ∀ J, Walk J xs.length (fun H => Same H1 H) (YAt xs) → R J H1
theorem pi_seqK {tg l : Expr} {tl : TE} (hK : X.K = K) (hl : PE X l tl) : PI X tg l (iSeq K tl) := by
  subst hK
  refine ⟨fun pins s σ H R I h => ?_⟩
  refine thn (hl.run pins s σ H _ I h) fun v s1 ⟨x, H1, I1, r1, q1⟩ => ?_
  obtain ⟨a, xs, e, hq, q⟩ := q1
  subst e
  cases r1
  have fp : ∀ b ∈ [s1.heap.objs.size], FpOk X pins H1 b := fun b hb => by
    have e : b = s1.heap.objs.size := by simpa using hb
    subst e
    exact I1.fpOk (Nat.le_refl _) (I1.hok.fresh (Nat.le_refl _))
  rcases hq with hq | hq
  · obtain ⟨its, rv, p, hz⟩ := I1.list hq
    refine wpAny_pyIter_list p.isList ?_
    exact ⟨s1.heap.objs.size, [s1.heap.objs.size], _, Itl X.K a, H1, rfl, I1.kept (t' := s1.toks) fun b o e => Heap.get?_push_of_some _ e, turn_list a _, ⟨_, Heap.get?_push_size _ rfl, rfl, rfl⟩, fp, q _ (walk_list.mono (fun H s => sqL_same hq s) fun _ _ _ _ _ _ y => y)⟩
  · obtain ⟨its, rv, p, hz⟩ := I1.tuple hq
    refine wpAny_pyIter_tuple (show s1.heap.IsTuple a its.toArray from p) ?_
    exact ⟨s1.heap.objs.size, [s1.heap.objs.size], _, Itt X.K a, H1, rfl, I1.kept (t' := s1.toks) fun b o e => Heap.get?_push_of_some _ e, turn_tuple a _, ⟨_, Heap.get?_push_size _ rfl, rfl, rfl⟩, fp, q _ (walk_tup.mono (fun H s => sqT_same hq s) fun _ _ _ _ _ _ y => y)⟩
theorem slSeqK (hK : X.K = K) : SlR X (fun x lo hi H Q => rSlL K x lo hi H Q ∨ rSlT K x lo hi H Q) := hK ▸ sl_list.or sl_tup
/-- a for over what stands still: one turn reads the item at its place -/
theorem for_seq {J : It} {xs : List V} {H0 : Hp} (w : Walk J xs.length (fun H => Same H0 H) (YAt xs)) {g : TG} {tb : TS} {D : Ends} {σ : L2.St} {H : Hp} (Pv : Nat → L2.St → Hp → Prop) (h0 : Pv 0 σ H) (hG : ∀ i σ H, i ≤ xs.length → Pv i σ H → Same H0 H)
    (hs : ∀ i x σ H, xs[i]? = some x → Pv i σ H → g x σ H fun σ2 H2 => tb { D with nx := Pv (i + 1), ct := Pv (i + 1), bk := D.nx } σ2 H2) (hd : ∀ σ H, Pv xs.length σ H → D.nx σ H) :
    ∃ W : Nat → Nat → L2.St → Hp → Prop, (∃ m, W 0 m σ H) ∧ ∀ i m σ H, W i m σ H →
      (J.stop i H ∧ D.nx σ H) ∨ (J.go i H ∧ ∃ N : L2.St → Hp → Prop, (∀ σ' H', N σ' H' → ∃ m', m' < m ∧ W (i + 1) m' σ' H') ∧ ∀ x H', J.yld i H x H' → g x σ H' fun σ2 H2 => tb { D with nx := N, ct := N, bk := D.nx } σ2 H2) :=
  for_it w Pv h0 hG (fun i x σ H H' _ p y => by obtain ⟨rfl, e⟩ := y; exact hs i x σ _ e p) hd
theorem lc_seq {J : It} {xs : List V} {H0 : Hp} (w : Walk J xs.length (fun H => Same H0 H) (YAt xs)) {g : TG} {tt : TT} {te : TE} {vs : List Nat} {σ : L2.St} {H1 : Hp} {D : Addr} {Qd : Hp → Prop} (Pv : Nat → Hp → Prop) (h0 : Pv 0 (upd H1 D (.lst []))) (hG : ∀ i H, i ≤ xs.length → Pv i H → Same H0 H)
    (hs : ∀ i x H, xs[i]? = some x → Pv i H → g x (wipe σ vs) H fun σ2 H2 => wipe σ2 vs = wipe σ vs ∧ tt σ2 H2 fun b H3 =>
      if b = true then te σ2 H3 fun y H4 => ∃ acc, H4 D = some (.lst acc) ∧ acc.length < sizeLine ∧ Pv (i + 1) (upd H4 D (.lst (acc ++ [y]))) else Pv (i + 1) H3) (hd : ∀ H, Pv xs.length H → Qd H) :
    ∃ W : Nat → Nat → Hp → Prop, (∃ m, W 0 m (upd H1 D (.lst []))) ∧ ∀ i m H, W i m H →
      (J.stop i H ∧ Qd H) ∨ (J.go i H ∧ ∃ Nx : Hp → Prop, (∀ H', Nx H' → ∃ m', m' < m ∧ W (i + 1) m' H') ∧ ∀ x H', J.yld i H x H' → g x (wipe σ vs) H' fun σ2 H2 => wipe σ2 vs = wipe σ vs ∧ tt σ2 H2 fun b H3 =>
        if b = true then te σ2 H3 fun y H4 => ∃ acc, H4 D = some (.lst acc) ∧ acc.length < sizeLine ∧ Nx (upd H4 D (.lst (acc ++ [y]))) else Nx H3) :=
  lc_it w Pv h0 hG (fun i x H H' _ p y => by obtain ⟨rfl, e⟩ := y; exact hs i x _ e p) hd
theorem dc_it {J : It} {n : Nat} {G : Hp → Prop} {Y : Nat → Hp → V → Hp → Prop} (w : Walk J n G Y) {g : TG} {tt : TT} {tk tv : TE} {vs : List Nat} {σ : L2.St} {H1 : Hp} {D : Addr} {Qd : Hp → Prop} (Pv : Nat → Hp → Prop) (h0 : Pv 0 (upd H1 D (.dK []))) (hG : ∀ i H, i ≤ n → Pv i H → G H)
    (hs : ∀ i x H H', i < n → Pv i H → Y i H x H' → g x (wipe σ vs) H' fun σ2 H2 => wipe σ2 vs = wipe σ vs ∧ tt σ2 H2 fun b H3 =>
      if b = true then tk σ2 H3 fun y H4 => tv σ2 H4 fun z H5 => ∃ kvs k, y = kV k ∧ H5 D = some (.dK kvs) ∧ kvs.length < sizeLine ∧ Pv (i + 1) (upd H5 D (.dK (putK kvs k z))) else Pv (i + 1) H3) (hd : ∀ H, Pv n H → Qd H) :
    ∃ W : Nat → Nat → Hp → Prop, (∃ m, W 0 m (upd H1 D (.dK []))) ∧ ∀ i m H, W i m H →
      (J.stop i H ∧ Qd H) ∨ (J.go i H ∧ ∃ Nx : Hp → Prop, (∀ H', Nx H' → ∃ m', m' < m ∧ W (i + 1) m' H') ∧ ∀ x H', J.yld i H x H' → g x (wipe σ vs) H' fun σ2 H2 => wipe σ2 vs = wipe σ vs ∧ tt σ2 H2 fun b H3 =>
        if b = true then tk σ2 H3 fun y H4 => tv σ2 H4 fun z H5 => ∃ kvs k, y = kV k ∧ H5 D = some (.dK kvs) ∧ kvs.length < sizeLine ∧ Nx (upd H5 D (.dK (putK kvs k z))) else Nx H3) := by
  refine ⟨fun i m H => m = n - i ∧ i ≤ n ∧ Pv i H, ⟨n, by simp, Nat.zero_le _, h0⟩, ?_⟩
  rintro i m H ⟨rfl, hi, p⟩
  have q := hG i H hi p
  by_cases hlt : i < n
  · exact .inr ⟨w.goes i H hlt q, Pv (i + 1), fun H' p' => ⟨n - (i + 1), by omega, rfl, hlt, p'⟩, fun x H' y => hs i x H H' hlt p (w.yields i H x H' hlt q y)⟩
  · have e : i = n := by omega
    subst e
    exact .inl ⟨w.stops H q, hd H p⟩
end
/-! ### o[i], x in o, len(o), by own defs of a plain class -/
section
variable {X : Cx} {n : Nat} {C g : Addr} {sp : Sp} {E : L2.St → XK}
theorem run_in1 {pins : List (Addr × Obj)} {σ : L2.St} {H : Hp} {s : Shared} {Q : VK} {us : List Value} {vs : List V} (F : FnR X.prog X.w X.K X.mg X.base (L2.CX X.prog X.w) n g sp) (hr : Room n X.A.in1) (I : Inv X pins σ H s) (hx : PassesAt (L2.CX X.prog X.w) X σ (E σ)) (r : Vals vs us) (h : sp vs H Q (E σ)) :
    codeAny (model X.prog X.w) X.A.in1 (.call (.ref g) ⟨us, []⟩) (fun r s' => match r with | .ok (.ret v) => EP X pins σ Q v s' | .ok _ => False | .error e => X.xe e s') s := by
  refine codeAny_mono (F X.A.in1 X.stack s H us vs Q (E σ) hr I.env0.in1 r h) fun r s' hq => ?_
  cases r with
  | error e => exact hx pins H s e s' I hq
  | ok fl =>
    cases fl with
    | ret u => exact I.after hq
    | next => exact False.elim hq
    | brk => exact False.elim hq
    | cont => exact False.elim hq
theorem run_at0 {pins : List (Addr × Obj)} {σ : L2.St} {H : Hp} {s : Shared} {Q : VK} {us : List Value} {vs : List V} (F : FnR X.prog X.w X.K X.mg X.base (L2.CX X.prog X.w) n g sp) (hr : Room n X.A) (I : Inv X pins σ H s) (hx : PassesAt (L2.CX X.prog X.w) X σ (E σ)) (r : Vals vs us) (h : sp vs H Q (E σ)) :
    codeAny (model X.prog X.w) X.A (.call (.ref g) ⟨us, []⟩) (fun r s' => match r with | .ok (.ret v) => EP X pins σ Q v s' | .ok _ => False | .error e => X.xe e s') s := by
  refine codeAny_mono (F X.A X.stack s H us vs Q (E σ) hr I.env0 r h) fun r s' hq => ?_
  cases r with
  | error e => exact hx pins H s e s' I hq
  | ok fl =>
    cases fl with
    | ret u => exact I.after hq
    | next => exact False.elim hq
    | brk => exact False.elim hq
    | cont => exact False.elim hq
def tIxO (C : Addr) (sp : Sp) (E : L2.St → XK) (ta tb : TE) : TE := fun σ H Q => ta σ H fun x H1 => tb σ H1 fun y H2 => ∃ a dx fs, x = .ref a ∧ H2 a = some (.ins C dx fs) ∧ sp [.ref a, y] H2 Q (E σ)
theorem pe_ixO {a b : Expr} {ta tb : TE} {pos : Pos} (hs : PySem.W.findIn X.K (.ref C) "__getitem__" = some (some (.ref g))) (hf : PySem.W.fnIn X.K g = true) (hfn : PySem.W.isFn X.K (.ref g) = true)
    (F : FnR X.prog X.w X.K X.mg X.base (L2.CX X.prog X.w) n g sp) (hr : Room (n + 1) X.A) (hx : ∀ σ, PassesAt (L2.CX X.prog X.w) X σ (E σ)) (ha : PE X a ta) (hb : PE X b tb)
    (hsl : ∀ v i, subscripted b true v i = runValue (.builtin "lifetime.subscript" ⟨[v, i], []⟩) := by intro _ _; with_unfolding_all rfl) : PE X (.Subscript a b pos) (tIxO C sp E ta tb) := by
  refine ⟨fun pins s σ H Q I h => ?_⟩
  refine Subscript_ (binT ha hb I h fun v u s2 x y H2 I2 rx ry q => ?_)
  obtain ⟨p, dx, fs, rfl, ep, q⟩ := q
  cases (show v = Value.ref p from rx)
  obtain ⟨mA, O, _⟩ := ins_get I2.hok ep
  obtain ⟨od, J, _⟩ := O.look
  obtain ⟨m, hF⟩ := I2.fr
  refine PySem.W.sub_K hF I2.ok.mod.kin J hs hf hfn ?_ (hsl _ _)
  exact wpAny_call (run_in1 (us := [.ref p, u]) (vs := [.ref p, y]) F hr.in1 I2 (hx σ) (.cons rfl (.cons ry .nil)) q)
/-- x in o: the own def answers with a bool -/
def rInC (C : Addr) (sp : Sp) (neg : Bool) : R2 := fun x y H Q => ∃ a dx fs, y = .ref a ∧ H a = some (.ins C dx fs) ∧ sp [.ref a, x] H (fun z H2 => ∃ r, z = .bl r ∧ Q (.bl (if neg then !r else r)) H2) E0
theorem op_inC (hs : PySem.W.findIn X.K (.ref C) "__contains__" = some (some (.ref g))) (hfn : PySem.W.isFn X.K (.ref g) = true) (F : FnR X.prog X.w X.K X.mg X.base (L2.CX X.prog X.w) n g sp) (hr : Room n X.A) : OpR X (compareOp .In) (rInC C sp false) := by
  intro pins s σ H x y v u Q I rx ry h
  obtain ⟨a, dx, fs, rfl, ea, q⟩ := h
  cases (show u = Value.ref a from ry)
  obtain ⟨mA, O, _⟩ := ins_get I.hok ea
  obtain ⟨od, J, _⟩ := O.look
  obtain ⟨m, hF⟩ := I.fr
  refine PySem.W.in_K hF I.ok.mod.kin J hs hfn ?_
  refine wpAny_mono (wpAny_call (run_at0 (E := fun _ => E0) (us := [.ref a, v]) (vs := [.ref a, x]) F hr I (pas0 σ) (.cons rfl (.cons rx .nil)) q)) (fun w s' z => ?_) fun _ _ x => x
  obtain ⟨z2, H2, I2, rz, r, rfl, qz⟩ := z
  cases (show w = Value.bool r from rz)
  exact wpAny_truthy_bool ⟨.bl r, H2, I2, rfl, qz⟩
theorem op_notInC (hs : PySem.W.findIn X.K (.ref C) "__contains__" = some (some (.ref g))) (hfn : PySem.W.isFn X.K (.ref g) = true) (F : FnR X.prog X.w X.K X.mg X.base (L2.CX X.prog X.w) n g sp) (hr : Room n X.A) : OpR X (compareOp .NotIn) (rInC C sp true) := by
  intro pins s σ H x y v u Q I rx ry h
  obtain ⟨a, dx, fs, rfl, ea, q⟩ := h
  cases (show u = Value.ref a from ry)
  obtain ⟨mA, O, _⟩ := ins_get I.hok ea
  obtain ⟨od, J, _⟩ := O.look
  obtain ⟨m, hF⟩ := I.fr
  refine PySem.W.notIn_K hF I.ok.mod.kin J hs hfn ?_
  refine wpAny_mono (wpAny_call (run_at0 (E := fun _ => E0) (us := [.ref a, v]) (vs := [.ref a, x]) F hr I (pas0 σ) (.cons rfl (.cons rx .nil)) q)) (fun w s' z => ?_) fun _ _ x => x
  obtain ⟨z2, H2, I2, rz, r, rfl, qz⟩ := z
  cases (show w = Value.bool r from rz)
  exact wpAny_truthy_bool ⟨.bl (!r), H2, I2, rfl, qz⟩
def rLenO (C : Addr) (sp : Sp) : List V → Hp → VK → Prop := fun xs H Q => ∃ a dx fs, xs = [.ref a] ∧ H a = some (.ins C dx fs) ∧ sp [.ref a] H (fun z H2 => ∃ i : Int, z = .int i ∧ 0 ≤ i ∧ i < 2 ^ 63 ∧ Q (.int i) H2) E0
theorem call_lenO (hs : PySem.W.findIn X.K (.ref C) "__len__" = some (some (.ref g))) (hfn : PySem.W.isFn X.K (.ref g) = true) (F : FnR X.prog X.w X.K X.mg X.base (L2.CX X.prog X.w) n g sp) (hr : Room (n + 1) X.A) : CallR X (.builtin "len") (rLenO C sp) := by
  intro pins s σ H xs us Q I r h
  obtain ⟨a, dx, fs, rfl, ea, q⟩ := h
  cases r with
  | cons r1 r2 =>
    cases r2
    cases r1
    obtain ⟨mA, O, _⟩ := ins_get I.hok ea
    obtain ⟨od, J, _⟩ := O.look
    obtain ⟨m, hF⟩ := I.fr
    refine PySem.W.len_K hF I.ok.mod.kin J hs hfn ?_
    refine wpAny_mono (wpAny_call (run_in1 (E := fun _ => E0) (us := [.ref a]) (vs := [.ref a]) F hr.in1 I (pas0 σ) (.cons rfl .nil) q)) (fun w s' z => ?_) fun _ _ x => x
    obtain ⟨z2, H2, I2, rz, i, rfl, l0, l1, qz⟩ := z
    obtain ⟨t, rfl⟩ := (show ∃ t, w = Value.int i t from rz)
    exact ⟨⟨l0, l1⟩, .int i, H2, I2.tok _, ⟨_, rfl⟩, qz⟩
end
end S
namespace S
open PySem PySem.Spec PyProof.Rows L2
section
variable {X : Cx} {K : Frag}
theorem yesT {σ : L2.St} {H : Hp} {R : Bool → Hp → Prop} (h : R true H) : tYes σ H R := h
theorem listOfK (hK : X.K = K) : CallR X (.type "list") (fun xs H Q => ∃ p ys, xs = [.ref p] ∧ (SqL K H p ys ∨ SqT K H p ys) ∧ ∀ l, H l = none → Q (.ref l) (upd H l (.lst ys))) := hK ▸ call_list_of
theorem tupOfK (hK : X.K = K) : CallR X (.type "tuple") (fun xs H Q => ∃ p ys, xs = [.ref p] ∧ ((SqL K H p ys ∧ ∀ l, H l = none → Q (.ref l) (upd H l (.tup ys))) ∨ (SqT K H p ys ∧ Q (.ref p) H))) := hK ▸ call_tuple_of
/-! readings of a list or tuple that stands -/
theorem ixX {H : Hp} {a : Addr} {xs : List V} {v : V} {i : Int} {Q : VK} (h : SqX K H a xs) (e : atI xs i = some v) (q : Q v H) : rIx K (.ref a) (.int i) H Q := by
  rcases h with h | h
  · exact .inl ⟨a, _, _, _, rfl, rfl, h, e, q⟩
  · exact .inr (.inl ⟨a, _, _, _, rfl, rfl, h, e, q⟩)
theorem lenVX {H : Hp} {a : Addr} {xs : List V} (h : SqX K H a xs) : LenV K (.ref a) H xs.length := by
  rcases h with h | h
  · exact .inl ⟨_, h, rfl⟩
  · exact .inr ⟨_, h, rfl⟩
theorem sIx_nat {n d i : Nat} (h : i ≤ n) : HT.sIx n d (some (i : Int)) = i := by
  simp only [HT.sIx]
  split <;> omega
theorem cut_take (xs : List V) {i : Nat} (h : i ≤ xs.length) : cutV xs none (some (i : Int)) = xs.take i := by
  unfold cutV
  have e1 : HT.sIx xs.length 0 none = 0 := rfl
  have e2 : HT.sIx xs.length xs.length (some (i : Int)) = i := sIx_nat h
  rw [e1, e2]
  simp
theorem cut_drop (xs : List V) {i : Nat} (h : i ≤ xs.length) : cutV xs (some (i : Int)) none = xs.drop i := by
  unfold cutV
  have e1 : HT.sIx xs.length xs.length none = xs.length := rfl
  have e2 : HT.sIx xs.length 0 (some (i : Int)) = i := sIx_nat h
  rw [e1, e2]
  rw [List.take_of_length_le (by rw [List.length_drop]; exact Nat.le_refl _)]
theorem sl_takeX {H : Hp} {a : Addr} {xs : List V} {i : Nat} {Q : VK} (h : SqX K H a xs) (hi : i < xs.length) (q : ∀ p H', H p = none → Same H H' → SqX K H' p (xs.take i) → Q (.ref p) H') : rSlL K (.ref a) none (some (i : Int)) H Q ∨ rSlT K (.ref a) none (some (i : Int)) H Q := by
  rcases h with h | h
  · refine .inl ⟨a, xs, rfl, h, fun p hp => q p _ hp (Same.new hp) (.inl (.inl (.inl ?_)))⟩
    rw [cut_take xs (Nat.le_of_lt hi), upd_same]
  · refine .inr ⟨a, xs, rfl, h, ?_, fun p hp => q p _ hp (Same.new hp) (.inr (.inl (.inl ?_)))⟩
    · rintro ⟨_, e⟩
      have e2 : HT.sIx xs.length xs.length (some (i : Int)) = i := sIx_nat (Nat.le_of_lt hi)
      omega
    · rw [cut_take xs (Nat.le_of_lt hi), upd_same]
/-! flat things -/
theorem eg_str {H : Hp} {n : Nat} {a b : Str} : EqG K H n (.str a) (.str b) (decide (a = b)) := by
  have h := eg_dat (K := K) (H := H) (.str a) (.str b) rfl rfl
  refine (h.to ?_).up (by simp [PyData.depth])
  simp only [PyData.eqv]
  rw [Bool.eq_iff_iff]
  simp
theorem eg_int {H : Hp} {n : Nat} {a b : Int} : EqG K H n (.int a) (.int b) (decide (a = b)) := by
  have h := eg_dat (K := K) (H := H) (.int a) (.int b) rfl rfl
  refine (h.to ?_).up (by simp [PyData.depth])
  simp only [PyData.eqv]
  rw [Bool.eq_iff_iff]
  simp
theorem eg_bl {H : Hp} {n : Nat} {a b : Bool} : EqG K H n (.bl a) (.bl b) (decide (a = b)) := by
  have h := eg_dat (K := K) (H := H) (.bl a) (.bl b) rfl rfl
  refine (h.to ?_).up (by simp [PyData.depth])
  simp only [PyData.eqv]
  rw [Bool.eq_iff_iff]
  simp
/-- texts, pair by pair -/
theorem pairs_str {ws zs : List Str} : pairs (fun i => decide (ws[i]? = zs[i]?)) (ws.map V.str) (zs.map V.str) = decide (ws = zs) := by
  unfold pairs
  rw [List.length_map, List.length_map, Bool.eq_iff_iff]
  simp only [Bool.and_eq_true, decide_eq_true_eq, List.all_eq_true, List.mem_range]
  constructor
  · rintro ⟨hl, h⟩
    refine List.ext_getElem? fun i => ?_
    by_cases c : i < ws.length
    · exact h i c
    · rw [List.getElem?_eq_none (by omega), List.getElem?_eq_none (by omega)]
  · rintro rfl
    exact ⟨rfl, fun _ _ => rfl⟩
theorem str_pair {H : Hp} {n : Nat} {ws zs : List Str} (i : Nat) (p q : V) (hp : (ws.map V.str)[i]? = some p) (hq : (zs.map V.str)[i]? = some q) : EqOk K H n p q (decide (ws[i]? = zs[i]?)) := by
  rw [List.getElem?_map] at hp hq
  obtain ⟨a, ha, rfl⟩ := Option.map_eq_some_iff.mp hp
  obtain ⟨b, hb, rfl⟩ := Option.map_eq_some_iff.mp hq
  rw [ha, hb]
  refine eg_str.at_.to ?_
  simp
/-- two tuples of texts, two lists of texts -/
theorem eg_tups {H : Hp} {n : Nat} {a c : Addr} {ws zs : List Str} (ha : SqT K H a (ws.map V.str)) (hc : SqT K H c (zs.map V.str)) (hab : a = c → ws = zs) : EqG K H (n + 1) (.ref a) (.ref c) (decide (ws = zs)) :=
  (eg_tup ha hc str_pair fun e => by rw [pairs_str]; exact decide_eq_true (hab e)).to pairs_str
theorem eg_lsts {H : Hp} {n : Nat} {a c : Addr} {ws zs : List Str} (ha : SqL K H a (ws.map V.str)) (hc : SqL K H c (zs.map V.str)) (hab : a = c → ws = zs) : EqG K H (n + 1) (.ref a) (.ref c) (decide (ws = zs)) :=
  (eg_list ha hc str_pair fun e => by rw [pairs_str]; exact decide_eq_true (hab e)).to pairs_str
theorem mapS_inj {ws zs : List Str} (h : ws.map V.str = zs.map V.str) : ws = zs := (List.map_inj_right (fun _ _ e => by injection e)).mp h
theorem eg_flat {H : Hp} {n : Nat} {x y : V} (hx : flatV x = true) (hy : flatV y = true) : EqOk K H n x y (eqV x y) := fun X pins σ s A v u _ I hu rv ru => eqAt_V rv ru hx hy
end
end S
namespace S
open PySem PySem.Spec PyProof.Rows L2
section
variable {X : Cx} {K : Frag}
theorem slTwK (hK : X.K = K) : SlR X (rSlA K) := hK ▸ sl_tupA
theorem catTK (hK : X.K = K) : OpR X (binaryOp .Add) (rCatA K) := hK ▸ op_catA
theorem sl_Tt {H : Hp} {a : Addr} {xs : List V} {lo hi : Option Int} {Q : VK} (h : H a = some (.tup xs)) (q : ∀ p H', Same H H' → H' p = some (.tup (cutV xs lo hi)) → Q (.ref p) H') : rSlA K (.ref a) lo hi H Q := by
  refine ⟨a, xs, rfl, .inl (.inl h), fun e => q a H (fun _ _ z => z) ?_, fun _ p hp => q p _ (Same.new hp) upd_same⟩
  rw [h]
  unfold cutV
  rw [e.1, e.2]
  simp
theorem cat_Tt {H : Hp} {a b : Addr} {xs ys : List V} {Q : VK} (h : H a = some (.tup xs)) (h' : H b = some (.tup ys)) (hl : xs.length + ys.length ≤ 1000) (q : ∀ p H', Same H H' → H' p = some (.tup (xs ++ ys)) → Q (.ref p) H') : rCatA K (.ref a) (.ref b) H Q := by
  refine ⟨a, b, xs, ys, rfl, rfl, .inl (.inl h), .inl (.inl h'), Nat.le_trans hl (by decide), fun e => q b H (fun _ _ z => z) ?_, fun _ e => q a H (fun _ _ z => z) ?_, fun _ _ p hp => q p _ (Same.new hp) upd_same⟩
  · rw [h', e]; rfl
  · rw [h, e, List.append_nil]
end
end S
namespace S
open PySem PySem.Spec PyProof.Rows L2
/-! ### several except clauses, each with a name or with none -/
/-- an error of the body has come to the clauses -/
structure Lnd (X : Cx) (pins : List (Addr × Obj)) (σ : L2.St) (H : Hp) (a : Addr) (cls : Value) (d : Option Addr) (B : Heap) (t s : Shared) : Prop where
  inv : Inv X pins σ H t
  nb : ∀ b o, t.heap.get? b = some o → b ∉ frs X.stack → B.get? b = some o
  up : t.heap.UpToSlots s.heap
  fl : HandSPX.FlyingZ B (X.env :: X.outer) a (Zc cls d) s.heap
  na : H a = none
  os : s.os = t.os
  ag : AllBare s.gens
section
variable {X : Cx} {pins : List (Addr × Obj)} {σ : L2.St} {H : Hp} {a : Addr} {cls : Value} {d : Option Addr} {B : Heap} {t s : Shared}
theorem Lnd.here (l : Lnd X pins σ H a cls d B t s) : Inv X pins σ H s := by
  exact l.inv.landed l.nb l.fl.1 l.up l.os l.ag
theorem Lnd.lay (hs : X.stack = X.env :: X.outer) (hf : X.env.frame = some X.env.locals) (l : Lnd X pins σ H a cls d B t s) :
    ∃ o, s.heap.get? a = some o ∧ Zc cls d o ∧ (∃ vs, o.data = .fields vs) ∧ Inv (X.suite a ((a, o) :: (X.pn ++ pins))) [] σ H s := by
  obtain ⟨o, vs, e1, e2, e3⟩ := l.fl.there
  have out : a ∉ frs (X.env :: X.outer) := fun m => by
    obtain ⟨_, o2, e4, no⟩ := l.fl.2.2.1.mem m
    rw [e1] at e4
    cases e4
    exact no _ e3
  have n1 : a ≠ X.env.locals := fun z => out (List.mem_filterMap.mpr ⟨X.env, List.mem_cons_self, by rw [hf, z]⟩)
  have n2 : a ∉ X.fs := fun m => by
    obtain ⟨v, hv, z⟩ := List.mem_filterMap.mp m
    exact out (List.mem_filterMap.mpr ⟨v, List.mem_cons_of_mem _ hv, z⟩)
  exact ⟨o, e1, e2, ⟨vs, e3⟩, l.here.suite e1 e3 l.na n1 n2⟩
theorem Lnd.again {M : Model} {A : Around} {E : Value → Shared → Prop} {Q : Unit → Shared → Prop} (l : Lnd X pins σ H a cls d B t s)
    (q : ∀ h', Lnd X pins σ H a cls d B t { s with heap := h' } → Q () { s with heap := h' }) : wpAny M A (setFlight (.ref a) none) Q E s :=
  HandSPX.lands_againZ l.fl fun h' f u => q h' ⟨l.inv, l.nb, l.up.trans u, f, l.na, l.os, l.ag⟩
theorem Lnd.pass {W : WX} {D : Ends} (hs : X.stack = X.env :: X.outer) (hf : X.env.frame = some X.env.locals) (tk : Takes X W) (l : Lnd X pins σ H a cls d B t s) (w : W cls d σ H) :
    wpAny (model X.prog X.w) X.A (handleBy (.ref a) X.env []) (SP X pins D) X.xe s := by
  refine wpAny_handleBy_nil ?_
  obtain ⟨_, _, _, _, vs, T, _, _, g1, _, g2, g3, _⟩ := id l.fl
  unfold PySem.passOn
  refine wpAny_bind (wpAny_field g1 g2 g3 ?_)
  rw [if_neg (by simp : ¬ ((Value.ref T == Value.none) = true))]
  have last : wpAny (model X.prog X.w) X.A (setFlight (.ref a) X.env.frame) (fun _ s4 => wpAny (model X.prog X.w) X.A (throw (.ref a) : Sem Flow) (SP X pins D) X.xe s4) X.xe s := by
    rw [hf]
    exact HandSPX.setFlight_upZ l.fl fun h4 g u => wpAny_throw (tk _ _ ⟨a, B, t, pins, σ, H, cls, d, rfl, l.inv, l.nb, l.up.trans u, .inr (.inr (by rw [hs]; exact g)), l.na, l.os, l.ag, w⟩)
  first
    | exact wpAny_bind last
    | exact wpAny_bind (wpAny_pure (wpAny_bind last))
end
/-- a clause: its class, the slot of its name, its suite -/
structure Cl where
  c : Value
  i : Option Nat
  ts : Addr → Value → Option Addr → TS
/-- what the clauses wish of an error of the body -/
def wCl (K : Frag) (W : WX) (D : Ends) : List Cl → WX
  | [] => W
  | ⟨c, some i, ts⟩ :: r => fun cls d σ H => ∃ b, PySem.W.exmOne K cls c = some b ∧
      (b = true → ∀ a, H a = none → ts a cls d { nx := fun τ J => D.nx (τ.set i none) J, rt := D.rt, bk := fun τ J => D.bk (τ.set i none) J, ct := fun τ J => D.ct (τ.set i none) J } (σ.set i (some (.ref a))) H) ∧ (b = false → wCl K W D r cls d σ H)
  | ⟨c, none, ts⟩ :: r => fun cls d σ H => ∃ b, PySem.W.exmOne K cls c = some b ∧ (b = true → ∀ a, H a = none → ts a cls d D σ H) ∧ (b = false → wCl K W D r cls d σ H)
inductive ClOk (X : Cx) : List ExceptHandler → List Cl → Prop
  | nil : ClOk X [] []
  | as_ {x n : Str} {c : Value} {i : Nat} {ts : Addr → Value → Option Addr → TS} {b : Stmt} {bs : List Stmt} {np p : Pos} {hds : List ExceptHandler} {l : List Cl} (hN : X.N.Nodup) (hi : X.N[i]? = some n) (hl : X.env.kindOf n = some .local) (hc : Names X x c)
      (hsu : ∀ (a : Addr) (oe : Obj) (cls : Value) (d : Option Addr) (pn : List (Addr × Obj)), Zc cls d oe → (∃ vs, oe.data = .fields vs) → PSs (X.suite a ((a, oe) :: pn)) (b :: bs) (ts a cls d)) (r : ClOk X hds l) :
      ClOk X (.ExceptHandler (some (.Name x np)) (some n) (b :: bs) p :: hds) (⟨c, some i, ts⟩ :: l)
  | only {x : Str} {c : Value} {ts : Addr → Value → Option Addr → TS} {b : Stmt} {bs : List Stmt} {np p : Pos} {hds : List ExceptHandler} {l : List Cl} (hc : Names X x c)
      (hsu : ∀ (a : Addr) (oe : Obj) (cls : Value) (d : Option Addr) (pn : List (Addr × Obj)), Zc cls d oe → (∃ vs, oe.data = .fields vs) → PSs (X.suite a ((a, oe) :: pn)) (b :: bs) (ts a cls d)) (r : ClOk X hds l) :
      ClOk X (.ExceptHandler (some (.Name x np)) none (b :: bs) p :: hds) (⟨c, none, ts⟩ :: l)
section
variable {X : Cx} {pins : List (Addr × Obj)} {σ : L2.St} {H : Hp} {a : Addr} {cls : Value} {d : Option Addr} {B : Heap} {t s : Shared}
/-- the class that a clause names is looked at -/
theorem Lnd.name {x : Str} {np : Pos} {c : Value} {Q : Value → Shared → Prop} {E : Value → Shared → Prop} (hs : X.stack = X.env :: X.outer) (hf : X.env.frame = some X.env.locals) (l : Lnd X pins σ H a cls d B t s) (hc : Names X x c) (q : Q c s) :
    wpAny (model X.prog X.w) (X.A.mark (some (.ref a))) (eval (.Name x np) X.env) Q E s := by
  obtain ⟨o, e1, e2, _, I⟩ := l.lay hs hf
  obtain ⟨g1, g2, g3 | ⟨g3, g4, g5⟩⟩ := hc
  · exact ld_glob (X := X.suite a ((a, o) :: (X.pn ++ pins))) I g1 g3 q g2
  · exact ld_blt (X := X.suite a ((a, o) :: (X.pn ++ pins))) I g1 g3 g4 q g5 g2
theorem Lnd.asks {A : Around} {c : Value} {b : Bool} {Q : Bool → Shared → Prop} {E : Value → Shared → Prop} (hs : X.stack = X.env :: X.outer) (hf : X.env.frame = some X.env.locals) (l : Lnd X pins σ H a cls d B t s) (e : PySem.W.exmOne X.K cls c = some b) (q : Q b s) :
    wpAny (model X.prog X.w) A (excMatches (.ref a) c) Q E s := by
  obtain ⟨o, e1, e2, _, I⟩ := l.lay hs hf
  have ty : PySem.W.Looks (model X.prog X.w) s.heap (typeOf (.ref a)) cls := fun A Q E s' k z => wpAny_typeOf_ref (k _ _ e1) (by rw [e2.1]; exact z)
  exact (PySem.W.exm_one (M := model X.prog X.w) l.here.kIn ty e).here q
theorem Lnd.by_ {W : WX} {D : Ends} (hs : X.stack = X.env :: X.outer) (hf : X.env.frame = some X.env.locals) (tk : Takes X W) :
    ∀ {hds : List ExceptHandler} {l : List Cl}, ClOk X hds l → ∀ {s : Shared}, Lnd X pins σ H a cls d B t s → wCl X.K W D l cls d σ H → wpAny (model X.prog X.w) X.A (handleBy (.ref a) X.env hds) (SP X pins D) X.xe s := by
  intro hds l hk
  induction hk with
  | nil => exact fun L w => L.pass hs hf tk w
  | as_ hN hi hl hc hsu r ih =>
    intro s L w
    obtain ⟨b, e, yes, no⟩ := w
    refine wpAny_handleBy_cons (codeAny_handlers_test (L.name hs hf hc (L.asks hs hf e ?_))) (by intro q; cases q)
    cases b with
    | false => exact ih L (no rfl)
    | true =>
      refine codeAny_handlers_suite_as (L.again fun h' L' => ?_)
      obtain ⟨o, _, hz, hv, I⟩ := L'.lay hs hf
      refine store_ok (X := X.suite a ((a, o) :: (X.pn ++ pins))) (v := .ref a) I hN hi (.inl hl) rfl (fun s5 I5 => ?_) (.inr hl)
      refine wpAny_mono ((hsu a o cls d _ hz hv).run [] s5 _ H _ I5 (yes rfl a L.na)) (fun f s6 z => ?_) fun _ _ z => False.elim z
      match f, z with
      | .next, ⟨τ, J, I6, k⟩ => exact gone_ok (I6.unsuite L.inv.ok) hN hi hl fun s7 I7 => ⟨_, _, I7, k⟩
      | .brk, ⟨τ, J, I6, k⟩ => exact gone_ok (I6.unsuite L.inv.ok) hN hi hl fun s7 I7 => ⟨_, _, I7, k⟩
      | .cont, ⟨τ, J, I6, k⟩ => exact gone_ok (I6.unsuite L.inv.ok) hN hi hl fun s7 I7 => ⟨_, _, I7, k⟩
      | .ret u, ⟨v, τ, J, I6, rv, k⟩ => exact gone_ok (I6.unsuite L.inv.ok) hN hi hl fun s7 I7 => ⟨_, _, _, I7, rv, k⟩
  | only hc hsu r ih =>
    intro s L w
    obtain ⟨b, e, yes, no⟩ := w
    refine wpAny_handleBy_cons (codeAny_handlers_test (L.name hs hf hc (L.asks hs hf e ?_))) (by intro q; cases q)
    cases b with
    | false => exact ih L (no rfl)
    | true =>
      refine codeAny_handlers_suite (L.again fun h' L' => ?_)
      obtain ⟨o, _, hz, hv, I⟩ := L'.lay hs hf
      refine wpAny_mono ((hsu a o cls d _ hz hv).run [] _ _ H _ I (yes rfl a L.na)) (fun f s6 z => ?_) fun _ _ z => False.elim z
      match f, z with
      | .next, ⟨τ, J, I6, k⟩ => exact ⟨_, _, I6.unsuite L.inv.ok, k⟩
      | .brk, ⟨τ, J, I6, k⟩ => exact ⟨_, _, I6.unsuite L.inv.ok, k⟩
      | .cont, ⟨τ, J, I6, k⟩ => exact ⟨_, _, I6.unsuite L.inv.ok, k⟩
      | .ret u, ⟨v, τ, J, I6, rv, k⟩ => exact ⟨_, _, _, I6.unsuite L.inv.ok, rv, k⟩
theorem ps_try_cl {W : WX} {body : List Stmt} {h0 : ExceptHandler} {hds : List ExceptHandler} {l : List Cl} {tb : WX → TS} {pos : Pos} (hs : X.stack = X.env :: X.outer) (hf : X.env.frame = some X.env.locals) (tk : Takes X W)
    (hb : ∀ (W' : WX) (pn : List (Addr × Obj)) (xe : Value → Shared → Prop), Takes (X.tr pn xe) W' → PassesOwn (model X.prog X.w) X.A X.env xe → PSs (X.tr pn xe) body (tb W'))
    (hh : ClOk X (h0 :: hds) l) : PS X (.Try body (h0 :: hds) [] [] pos) (fun D σ H => tb (wCl X.K W D l) D σ H) := by
  refine ⟨fun pins s σ H D I h => wpAny_Try_except ?_⟩
  have fr : X.A.frames = some (X.env :: X.outer) := by rw [I.ok.frames, hs]
  refine wpAny_mono ((hb (wCl X.K W D l) (X.pn ++ pins) (fun e s1 => wpAny (model X.prog X.w) X.A (noteFrame e X.env) (fun _ s2 => wpAny (model X.prog X.w) X.A (setFlight e none) (fun _ s3 =>
    wpAny (model X.prog X.w) X.A (handleBy e X.env (h0 :: hds)) (SP X pins D) X.xe s3) X.xe s2) X.xe s1) (fun u s' xx => ?_) PassesOwn.looking).run [] s σ H D (I.toTry _) h) (fun f s1 z => ?_) fun _ _ z => z
  · obtain ⟨a, B, t, pins2, τ, J, cls, d, rfl, I2, nb, up, sky, na, os, ag, w⟩ := xx
    refine Sky.land Zc.steady fr hf (by rw [← hs]; exact sky) fun h3 f3 u3 => ?_
    exact Lnd.by_ (a := a) (cls := cls) (d := d) (B := B) (t := t) hs hf tk hh ⟨I2.ofTry I.ok, nb, up.trans u3, f3, na, os, ag⟩ w
  · match f, z with
    | .next, ⟨τ, J, I2, k⟩ => exact wpAny_execs_nil ⟨τ, J, I2.ofTry I.ok, k⟩
    | .brk, ⟨τ, J, I2, k⟩ => exact ⟨τ, J, I2.ofTry I.ok, k⟩
    | .cont, ⟨τ, J, I2, k⟩ => exact ⟨τ, J, I2.ofTry I.ok, k⟩
    | .ret u, ⟨v, τ, J, I2, rv, k⟩ => exact ⟨v, τ, J, I2.ofTry I.ok, rv, k⟩
end
end S
namespace S
open PySem PySem.Spec PyProof.Rows L2
/-! ### a dict beside a thing of another kind: not equal -/
section
open PySem.SeqAt
variable {prog : Program} {w : World} {A : Around} {E : Value → Shared → Prop} {s : Shared}
/-- a dict stands at d -/
def DkO (s : Shared) (d : Addr) : Prop := ∃ es ep, s.heap.get? d = some ⟨.type "dict", none, .dict es ep, #[]⟩
theorem DkO.ty {d : Addr} (h : DkO s d) : s.TypeIs (.ref d) "dict" := by
  obtain ⟨es, ep, e⟩ := h
  exact ⟨_, e, rfl⟩
theorem dict_no {d : Addr} {y : Value} {T : String} {Q : Value → Shared → Prop} (hd : s.TypeIs (.ref d) "dict") (hy : s.TypeIs y T) (hs : isSubtype (.type T) (.type "dict") = pure false) (q : Q .notImplemented s)
    {name : Str} (sl : Slot "dict" name "dict.__eq__") : wpAny (model prog w) A (call (.builtin "dict.__eq__") [.ref d, y]) Q E s := by
  refine wpAny_call_entry sl hd PySem.F.entry_dict_eq ?_ (PySem.F.args_dict_eq_2 _ _)
  show wpAny _ _ (Builtin.Dict.dictSlotArgs "__eq__" ⟨[.ref d, y], []⟩ >>= _) _ _ s
  refine wpAny_bind ?_
  unfold Builtin.Dict.dictSlotArgs
  refine wpAny_bind (wpAny_notOrdered_dict hd ?_)
  show wpAny _ _ (pure (Value.ref d, y)) _ _ s
  refine wpAny_pure (wpAny_bind (wpAny_isInstance (T := T) hy hs ?_))
  simp only [Bool.not_false, if_true]
  exact wpAny_bind (wpAny_rule (wpAny_pure ⟨_, rfl, q⟩))
theorem no_int (i : Int) (u : Tok) {d : Addr} {es : Array DictEntry} {ep : Nat} : Meets (Builtin.«int.__eq__» ⟨[.int i u, .ref d], []⟩) (fun _ R s => s.heap.get? d = some ⟨.type "dict", none, .dict es ep, #[]⟩ ∧ R (.ok (.ret .notImplemented)) s) :=
  .of_wp fun prog w A R s ⟨hl, h⟩ => by obtain ⟨hp, g, dd, tk, os⟩ := s; wp_walk using wpAny_loadPart' hl, wpAny_load hl; exact ⟨_, rfl, h⟩
theorem no_bool (b : Bool) {d : Addr} {es : Array DictEntry} {ep : Nat} : Meets (Builtin.«int.__eq__» ⟨[.bool b, .ref d], []⟩) (fun _ R s => s.heap.get? d = some ⟨.type "dict", none, .dict es ep, #[]⟩ ∧ R (.ok (.ret .notImplemented)) s) :=
  .of_wp fun prog w A R s ⟨hl, h⟩ => by obtain ⟨hp, g, dd, tk, os⟩ := s; wp_walk using wpAny_loadPart' hl, wpAny_load hl; exact ⟨_, rfl, h⟩
theorem no_str (z : Str) (u : Tok) {d : Addr} {es : Array DictEntry} {ep : Nat} : Meets (Builtin.«str.__eq__» ⟨[.str z u, .ref d], []⟩) (fun _ R s => s.heap.get? d = some ⟨.type "dict", none, .dict es ep, #[]⟩ ∧ R (.ok (.ret .notImplemented)) s) :=
  .of_wp fun prog w A R s ⟨hl, h⟩ => by obtain ⟨hp, g, dd, tk, os⟩ := s; wp_walk using wpAny_loadPart' hl, wpAny_load hl; exact ⟨_, rfl, h⟩
theorem no_list {l : Addr} {d : Addr} {es : Array DictEntry} {ep : Nat} : Meets (Builtin.«list.__eq__» ⟨[.ref l, .ref d], []⟩) (fun _ R s => s.heap.get? d = some ⟨.type "dict", none, .dict es ep, #[]⟩ ∧ R (.ok (.ret .notImplemented)) s) :=
  .of_wp fun prog w A R s ⟨hl, h⟩ => by obtain ⟨hp, g, dd, tk, os⟩ := s; have f1 := PySem.F.sub_dict_list; wp_walk using wpAny_loadPart' hl, wpAny_load hl; exact ⟨_, rfl, h⟩
theorem no_tuple {l : Addr} {d : Addr} {es : Array DictEntry} {ep : Nat} : Meets (Builtin.«tuple.__eq__» ⟨[.ref l, .ref d], []⟩) (fun _ R s => s.heap.get? d = some ⟨.type "dict", none, .dict es ep, #[]⟩ ∧ R (.ok (.ret .notImplemented)) s) :=
  .of_wp fun prog w A R s ⟨hl, h⟩ => by obtain ⟨hp, g, dd, tk, os⟩ := s; have f1 := PySem.F.sub_dict_tuple; wp_walk using wpAny_loadPart' hl, wpAny_load hl; exact ⟨_, rfl, h⟩
/-- no dict, and its == leaves dicts alone -/
structure NoD (s : Shared) (v : Value) (T id : String) : Prop where
  ty : s.TypeIs v T
  n1 : (Value.type T != Value.type "dict") = true
  n2 : (Value.type "dict" != Value.type T) = true
  s1 : isSubtype (.type T) (.type "dict") = pure false
  s2 : isSubtype (.type "dict") (.type T) = pure false
  sl : Slot T (cmpInfo .Eq).2.1 id
  sr : Slot T (cmpInfo .Eq).2.2 id
  is_ : ∀ d, (∃ l, v = .ref l) ∨ (isSame (.ref d) v = pure false ∧ isSame v (.ref d) = pure false)
  no : ∀ (prog : Program) (w : World) (A : Around) (E : Value → Shared → Prop) (Q : Value → Shared → Prop) (d : Addr) (name : Str), Slot T name id → DkO s d → Q .notImplemented s → wpAny (model prog w) A (call (.builtin id) [v, .ref d]) Q E s
theorem noD_non : NoD s .none "NoneType" "NoneType.__eq__" := ⟨rfl, by decide, by decide, PySem.F.sub_NoneType_dict, PySem.F.sub_dict_NoneType, PySem.F.slot_NoneType_eq, PySem.F.slot_NoneType_eq_refl, (fun _ => .inr ⟨rfl, rfl⟩),
  fun prog w A E Q d name sl _ q => call_gives sl rfl PySem.F.entry_NoneType_eq (PySem.F.args_NoneType_eq_2 _ _) (NoneType___eq___none_ref_0 d) q⟩
theorem noD_bool (b : Bool) : NoD s (.bool b) "bool" "int.__eq__" := ⟨rfl, by decide, by decide, PySem.F.sub_bool_dict, PySem.F.sub_dict_bool, PySem.F.slot_bool_eq, PySem.F.slot_bool_eq_refl, (fun _ => .inr ⟨rfl, rfl⟩),
  fun prog w A E Q d name sl ⟨es, ep, e⟩ q => call_meets sl rfl PySem.F.entry_int_eq (PySem.F.args_int_eq_2 _ _) (no_bool b) ⟨e, q⟩⟩
theorem noD_int (i : Int) (u : Tok) : NoD s (.int i u) "int" "int.__eq__" := ⟨rfl, by decide, by decide, PySem.F.sub_int_dict, PySem.F.sub_dict_int, PySem.F.slot_int_eq, PySem.F.slot_int_eq_refl, (fun _ => .inr ⟨rfl, rfl⟩),
  fun prog w A E Q d name sl ⟨es, ep, e⟩ q => call_meets sl rfl PySem.F.entry_int_eq (PySem.F.args_int_eq_2 _ _) (no_int i u) ⟨e, q⟩⟩
theorem noD_str (z : Str) (u : Tok) : NoD s (.str z u) "str" "str.__eq__" := ⟨rfl, by decide, by decide, PySem.F.sub_str_dict, PySem.F.sub_dict_str, PySem.F.slot_str_eq, PySem.F.slot_str_eq_refl, (fun _ => .inr ⟨rfl, rfl⟩),
  fun prog w A E Q d name sl ⟨es, ep, e⟩ q => call_meets sl rfl PySem.F.entry_str_eq (PySem.F.args_str_eq_2 _ _) (no_str z u) ⟨e, q⟩⟩
theorem noD_list {l : Addr} (h : s.TypeIs (.ref l) "list") : NoD s (.ref l) "list" "list.__eq__" := ⟨h, by decide, by decide, PySem.F.sub_list_dict, PySem.F.sub_dict_list, PySem.F.slot_list_eq, PySem.F.slot_list_eq_refl, (fun _ => .inl ⟨_, rfl⟩),
  fun prog w A E Q d name sl ⟨es, ep, e⟩ q => call_meets sl h PySem.F.entry_list_eq (PySem.F.args_list_eq_2 _ _) no_list ⟨e, q⟩⟩
theorem noD_tuple {l : Addr} (h : s.TypeIs (.ref l) "tuple") : NoD s (.ref l) "tuple" "tuple.__eq__" := ⟨h, by decide, by decide, PySem.F.sub_tuple_dict, PySem.F.sub_dict_tuple, PySem.F.slot_tuple_eq, PySem.F.slot_tuple_eq_refl, (fun _ => .inl ⟨_, rfl⟩),
  fun prog w A E Q d name sl ⟨es, ep, e⟩ q => call_meets sl h PySem.F.entry_tuple_eq (PySem.F.args_tuple_eq_2 _ _) no_tuple ⟨e, q⟩⟩
/-- no thing of another kind is the dict itself -/
theorem notD {v : Value} {T id : String} {d : Addr} {R : Bool → Shared → Prop} (h : NoD s v T id) (hd : DkO s d) (r : R false s) : wpAny (model prog w) A (isSame (.ref d) v) R E s ∧ wpAny (model prog w) A (isSame v (.ref d)) R E s := by
  obtain ⟨es, ep, e⟩ := hd
  rcases h.is_ d with ⟨l, rfl⟩ | ⟨i1, i2⟩
  · obtain ⟨o, ho, hc⟩ := h.ty
    have ne : d ≠ l := fun z => by
      subst z
      rw [e] at ho
      cases ho
      have := h.n1
      rw [← hc] at this
      simp at this
    constructor
    · show wpAny _ A (if (d == l) = true then pure true else _) R E s
      rw [if_neg (by simpa using ne)]
      refine wpAny_bind (wpAny_load e (wpAny_bind (wpAny_load ho ?_)))
      split
      · rename_i h1 _ _ _; injection h1 with z; exact absurd z (by decide)
      · exact wpAny_pure r
    · show wpAny _ A (if (l == d) = true then pure true else _) R E s
      rw [if_neg (by simpa using ne.symm)]
      refine wpAny_bind (wpAny_load ho (wpAny_bind (wpAny_load e ?_)))
      split
      · rename_i _ h1 _ _; injection h1 with z; exact absurd z (by decide)
      · exact wpAny_pure r
  · exact ⟨wpAny_of_eq i1 r, wpAny_of_eq i2 r⟩
theorem rcD1 {v : Value} {T id : String} {d : Addr} (h : NoD s v T id) (hd : DkO s d) (hu : A.units < cLine) : RcAt A s (.ref d) v false := fun prog w E Q q =>
  rc_eq_decline_or (k := false) hd.ty h.ty h.n2 h.s1 PySem.F.slot_dict_eq h.sr (fun _ z => dict_no hd.ty h.ty h.s1 z PySem.F.slot_dict_eq) (fun _ z => h.no prog w A E _ d _ h.sr hd z) (fun _ z => (notD h hd z).1) (.inr hu) q
theorem rcD2 {v : Value} {T id : String} {d : Addr} (h : NoD s v T id) (hd : DkO s d) (hu : A.units < cLine) : RcAt A s v (.ref d) false := fun prog w E Q q =>
  rc_eq_decline_or (k := false) h.ty hd.ty h.n1 h.s2 h.sl PySem.F.slot_dict_eq_refl (fun _ z => h.no prog w A E _ d _ h.sl hd z) (fun _ z => dict_no hd.ty h.ty h.s1 z PySem.F.slot_dict_eq_refl) (fun _ z => (notD h hd z).2) (.inr hu) q
theorem neD {v : Value} {T id : String} {d : Addr} (h : NoD s v T id) (hd : DkO s d) : v ≠ .ref d := fun z => by
  subst z
  obtain ⟨o, ho, hc⟩ := h.ty
  obtain ⟨es, ep, e⟩ := hd
  rw [e] at ho
  cases ho
  have := h.n1
  rw [← hc] at this
  simp at this
theorem eqD1 {v : Value} {T id : String} {d : Addr} (h : NoD s v T id) (hd : DkO s d) (hu : A.units < cLine) : EqAt A s (.ref d) v false := fun prog w E Q q => by
  unfold eqBool
  refine wpAny_holding (wpAny_ite_split (fun hab => absurd (eq_of_beq hab).symm (neD h hd)) fun _ => ?_)
  exact wpAny_bind (rcD1 h hd hu prog w E _ (wpAny_truthy_bool q))
theorem eqD2 {v : Value} {T id : String} {d : Addr} (h : NoD s v T id) (hd : DkO s d) (hu : A.units < cLine) : EqAt A s v (.ref d) false := fun prog w E Q q => by
  unfold eqBool
  refine wpAny_holding (wpAny_ite_split (fun hab => absurd (eq_of_beq hab) (neD h hd)) fun _ => ?_)
  cases v <;> exact wpAny_bind (rcD2 h hd hu prog w E _ (wpAny_truthy_bool q))
end
end S
namespace S
open PySem PySem.Spec PyProof.Rows L2
/-! ### plain data, or the empty dict -/
inductive Mx (K : Frag) (H : Hp) : V → PyData → Prop where
  | dat {x : V} {d : PyData} (h : Dp K H x d) (p : d.plain = true) (l : d.depth ≤ 20) : Mx K H x d
  | dk {a : Addr} (h : H a = some (.dK [])) : Mx K H (.ref a) (.dict [])
def mixEq : PyData → PyData → Bool
  | .dict _, .dict _ => true
  | .dict _, _ => false
  | _, .dict _ => false
  | d, e => PyData.eqv d e
section
variable {X : Cx} {K : Frag} {pins : List (Addr × Obj)} {σ : L2.St} {H : Hp} {s : Shared} {a b : Addr} {x y : V} {d e : PyData}
theorem dkO_of {ks : List (Key × V)} (I : Inv X pins σ H s) (h : H a = some (.dK ks)) : DkO s a := by
  obtain ⟨_, _, va, _, o, es, ep, e1, ⟨e2, e3, e4⟩, e5, _⟩ := (show ObjOk X.prog X.w H s.heap a (.dK ks) from I.hok a _ h)
  obtain ⟨c, dd, dt, sl⟩ := o
  simp only at e2 e3 e4 e5
  subst e2 e3 e4 e5
  exact ⟨es, ep, e1⟩
theorem dk0_any (I : Inv X pins σ H s) (h : H a = some (.dK [])) (P : Program) (w : World) : s.heap.DictOf (mixKind P w) a ([] : List (Key × Value)) ∧ (a == sysModules) = false := by
  obtain ⟨_, ya, va, ra, o, es, ep, e1, e2, e3, e4, e5, e6⟩ := (show ObjOk X.prog X.w H s.heap a (.dK []) from I.hok a _ h)
  have hv : va = [] := by
    have := ra.length
    exact List.length_eq_zero_iff.mp this.symm
  subst hv
  generalize hl : es.toList = l at e5
  cases e5
  refine ⟨⟨o, es, ep, e1, e2, e3, fun q hq => ?_, by rw [hl]; exact .nil, List.nodup_nil⟩, ya⟩
  have : q ∈ es.toList := by simpa using hq
  rw [hl] at this
  cases this
theorem noD_of (I : Inv X pins σ H s) (h : Dp X.K H x d) {v : Value} (r : RelV x v) : ∃ T id, NoD s v T id := by
  cases h with
  | non => cases r; exact ⟨_, _, noD_non⟩
  | bl b => cases r; exact ⟨_, _, noD_bool b⟩
  | int i => obtain ⟨t, rfl⟩ := r; exact ⟨_, _, noD_int i t⟩
  | str z => obtain ⟨t, rfl⟩ := r; exact ⟨_, _, noD_str z t⟩
  | lst hl _ =>
    cases r
    obtain ⟨its, _, pl, _⟩ := I.list hl
    obtain ⟨o, e1, e2, _⟩ := pl.isList
    exact ⟨_, _, noD_list ⟨o, e1, e2⟩⟩
  | tup hl _ =>
    cases r
    obtain ⟨its, _, pl, _⟩ := I.tuple hl
    obtain ⟨o, e1, e2, _⟩ := pl
    exact ⟨_, _, noD_tuple ⟨o, e1, e2⟩⟩
theorem mix_plain (hd : d.plain = true) (he : e.plain = true) : mixEq d e = PyData.eqv d e := by
  cases d <;> cases e <;> first | rfl | cases hd | cases he
theorem mix_dL (he : e.plain = true) : mixEq (.dict []) e = false := by
  cases e <;> first | rfl | cases he
theorem mix_dR (he : d.plain = true) : mixEq d (.dict []) = false := by
  cases d <;> first | rfl | cases he
theorem Mx.eq (hx : Mx K H x d) (hy : Mx K H y e) : EqOk K H 30 x y (mixEq d e) := by
  cases hx with
  | dat h1 p1 l1 =>
    cases hy with
    | dat h2 p2 l2 =>
      rw [mix_plain p1 p2]
      exact (eg_dat h1 h2 p1 p2).at_.up (by omega)
    | dk h2 =>
      rw [mix_dR p1]
      intro X pins σ s A v u k I hu rv ru
      subst k
      cases ru
      obtain ⟨T, id, n⟩ := noD_of I h1 rv
      exact eqD2 n (dkO_of I h2) (by omega)
  | dk h1 =>
    cases hy with
    | dat h2 p2 l2 =>
      rw [mix_dL p2]
      intro X pins σ s A v u k I hu rv ru
      subst k
      cases rv
      obtain ⟨T, id, n⟩ := noD_of I h2 ru
      exact eqD1 n (dkO_of I h1) (by omega)
    | dk h2 =>
      rename_i a b
      intro X pins σ s A v u k I hu rv ru
      subst k
      cases rv
      cases ru
      show SeqAt.EqAt A s _ _ true
      by_cases e0 : a = b
      · subst e0
        exact SeqAt.EqAt.same _
      · refine SeqAt.EqAt.of_refs e0 fun prog w E Q q => ?_
        obtain ⟨d1, y1⟩ := dk0_any I h1 prog w
        obtain ⟨d2, y2⟩ := dk0_any I h2 prog w
        exact PySem.W.keq_eq (knd := mixKind prog w) (r := true) y1 y2 d1 d2 (by omega) (fun _ => .nil) q
theorem dp_same {H' : Hp} (s : Same H H') : ∀ {x : V} {d : PyData}, Dp K H x d → Dp K H' x d := by
  intro x d h
  refine Dp.rec (motive_1 := fun x d _ => Dp K H' x d) (motive_2 := fun xs ds _ => DpAll K H' xs ds) ?_ ?_ ?_ ?_ ?_ ?_ ?_ ?_ h
  · exact .non
  · exact fun b => .bl b
  · exact fun i => .int i
  · exact fun z => .str z
  · exact fun h _ ih => .lst (sqL_same h s) ih
  · exact fun h _ ih => .tup (sqT_same h s) ih
  · exact .nil
  · exact fun _ _ a b => .cons a b
theorem Mx.same {H' : Hp} (h : Mx K H x d) (s : Same H H') : Mx K H' x d := by
  cases h with
  | dat h p l => exact .dat (dp_same s h) p l
  | dk h => exact .dk (s _ _ h)
open Classical in
/-- the data that stands there -/
noncomputable def rdM (K : Frag) (H : Hp) (x : V) : PyData := if h : ∃ d, Mx K H x d then h.choose else .none
theorem rdM_of (h : ∃ d, Mx K H x d) : Mx K H x (rdM K H x) := by
  unfold rdM
  rw [dif_pos h]
  exact h.choose_spec
end
end S
namespace S
open PySem PySem.Spec PyProof.Rows L2
/-! ### [f(x) for x in xs if c(x)] over what stands -/
section
variable {J : It} {xs : List V} {H0 : Hp} {D : Addr} {tt : TT} {te : TE} {vs : List Nat} {σ : L2.St} {Qd : Hp → Prop} {i : Nat}
theorem lc_fm (wk : Walk J xs.length (fun H => Same H0 H) (YAt xs)) (c : V → Bool) (f : V → V) (hD : H0 D = none) (ln : xs.length ≤ 1000) (w0 : ∀ x, wipe ((wipe σ vs).set i (some x)) vs = wipe σ vs)
    (tst : ∀ (x : V) (H : Hp) (B : Bool → Hp → Prop), x ∈ xs → Same H0 H → (∀ H', Same H H' → B (c x) H') → tt ((wipe σ vs).set i (some x)) H B)
    (el : ∀ (x : V) (H : Hp) (Z : V → Hp → Prop), x ∈ xs → Same H0 H → (∀ H', Same H H' → Z (f x) H') → te ((wipe σ vs).set i (some x)) H Z)
    (q : ∀ H, Same H0 H → H D = some (.lst ((xs.filter c).map f)) → Qd H) :
    ∃ W : Nat → Nat → Hp → Prop, (∃ m, W 0 m (upd H0 D (.lst []))) ∧ ∀ k m H, W k m H →
      (J.stop k H ∧ Qd H) ∨ (J.go k H ∧ ∃ Nx : Hp → Prop, (∀ H', Nx H' → ∃ m', m' < m ∧ W (k + 1) m' H') ∧ ∀ x H', J.yld k H x H' → gName i x (wipe σ vs) H' fun σ2 H2 => wipe σ2 vs = wipe σ vs ∧ tt σ2 H2 fun b H3 =>
        if b = true then te σ2 H3 fun y H4 => ∃ acc, H4 D = some (.lst acc) ∧ acc.length < sizeLine ∧ Nx (upd H4 D (.lst (acc ++ [y]))) else Nx H3) := by
  refine lc_seq wk (fun k J => Same H0 J ∧ J D = some (.lst (((xs.take k).filter c).map f))) ⟨Same.new hD, upd_same⟩ (fun k J _ h => h.1) ?_ ?_
  · rintro k x J hx ⟨sJ, eD⟩
    have mx := List.mem_of_getElem? hx
    refine ⟨w0 x, tst x J _ mx sJ fun J2 s2 => ?_⟩
    have et : xs.take (k + 1) = xs.take k ++ [x] := by rw [List.take_add_one, hx]; rfl
    cases e : c x with
    | true =>
      refine iteT (el x J2 _ mx (sJ.trans s2) fun J3 s3 => ⟨_, (s2.trans s3) _ _ eD, ?_, Same.upd ((sJ.trans s2).trans s3) hD, ?_⟩)
      · rw [List.length_map]
        have h1 := List.length_filter_le c (xs.take k)
        rw [List.length_take] at h1
        exact Nat.lt_of_le_of_lt (show ((xs.take k).filter c).length ≤ 1000 by omega) (by decide)
      · rw [upd_same, et, List.filter_append, List.map_append]
        simp [e]
    | false =>
      refine iteF ⟨sJ.trans s2, ?_⟩
      rw [et, List.filter_append, List.map_append]
      simp [e]
      simpa using s2 _ _ eD
  · rintro J ⟨sJ, eD⟩
    rw [List.take_length] at eD
    exact q J sJ eD
theorem lc_map (wk : Walk J xs.length (fun H => Same H0 H) (YAt xs)) (f : V → V) (hD : H0 D = none) (ln : xs.length ≤ 1000) (w0 : ∀ x, wipe ((wipe σ vs).set i (some x)) vs = wipe σ vs)
    (el : ∀ (x : V) (H : Hp) (Z : V → Hp → Prop), x ∈ xs → Same H0 H → (∀ H', Same H H' → Z (f x) H') → te ((wipe σ vs).set i (some x)) H Z)
    (q : ∀ H, Same H0 H → H D = some (.lst (xs.map f)) → Qd H) :
    ∃ W : Nat → Nat → Hp → Prop, (∃ m, W 0 m (upd H0 D (.lst []))) ∧ ∀ k m H, W k m H →
      (J.stop k H ∧ Qd H) ∨ (J.go k H ∧ ∃ Nx : Hp → Prop, (∀ H', Nx H' → ∃ m', m' < m ∧ W (k + 1) m' H') ∧ ∀ x H', J.yld k H x H' → gName i x (wipe σ vs) H' fun σ2 H2 => wipe σ2 vs = wipe σ vs ∧ tYes σ2 H2 fun b H3 =>
        if b = true then te σ2 H3 fun y H4 => ∃ acc, H4 D = some (.lst acc) ∧ acc.length < sizeLine ∧ Nx (upd H4 D (.lst (acc ++ [y]))) else Nx H3) :=
  lc_fm wk (fun _ => true) f hD ln w0 (fun _ _ _ _ _ b => yesT (b _ fun _ _ z => z)) el fun H s e => q H s (by rw [List.filter_eq_self.mpr (fun _ _ => rfl)] at e; exact e)
/-- the same from rows of data: the values are a ↦ v a -/
theorem lc_mapA {α : Type} {as : List α} {v : α → V} (wk : Walk J (as.map v).length (fun H => Same H0 H) (YAt (as.map v))) (f : α → V) (hf : ∀ a ∈ as, ∀ b ∈ as, v a = v b → f a = f b) (hD : H0 D = none) (ln : as.length ≤ 1000) (w0 : ∀ x, wipe ((wipe σ vs).set i (some x)) vs = wipe σ vs)
    (el : ∀ (a : α) (H : Hp) (Z : V → Hp → Prop), a ∈ as → Same H0 H → (∀ H', Same H H' → Z (f a) H') → te ((wipe σ vs).set i (some (v a))) H Z)
    (q : ∀ H, Same H0 H → H D = some (.lst (as.map f)) → Qd H) :
    ∃ W : Nat → Nat → Hp → Prop, (∃ m, W 0 m (upd H0 D (.lst []))) ∧ ∀ k m H, W k m H →
      (J.stop k H ∧ Qd H) ∨ (J.go k H ∧ ∃ Nx : Hp → Prop, (∀ H', Nx H' → ∃ m', m' < m ∧ W (k + 1) m' H') ∧ ∀ x H', J.yld k H x H' → gName i x (wipe σ vs) H' fun σ2 H2 => wipe σ2 vs = wipe σ vs ∧ tYes σ2 H2 fun b H3 =>
        if b = true then te σ2 H3 fun y H4 => ∃ acc, H4 D = some (.lst acc) ∧ acc.length < sizeLine ∧ Nx (upd H4 D (.lst (acc ++ [y]))) else Nx H3) := by
  classical
  let F : V → V := fun x => if h : ∃ a ∈ as, v a = x then f h.choose else .non
  have hF : ∀ a ∈ as, F (v a) = f a := fun a ha => by
    have h : ∃ b ∈ as, v b = v a := ⟨a, ha, rfl⟩
    show (if h : ∃ b ∈ as, v b = v a then f h.choose else .non) = f a
    rw [dif_pos h]
    exact hf _ h.choose_spec.1 _ ha h.choose_spec.2
  refine lc_map wk F hD (by rw [List.length_map]; exact ln) w0 (fun x H Z hx s z => ?_) fun H s e => q H s ?_
  · obtain ⟨a, ha, rfl⟩ := List.mem_map.mp hx
    rw [hF a ha] at z
    exact el a H Z ha s z
  · rw [List.map_map] at e
    rw [e]
    congr 2
    exact List.map_congr_left fun a ha => hF a ha
end
/-- two tuples of like items -/
theorem tup_ne {K : Frag} {H : Hp} {n : Nat} {o t : Addr} {xs : List V} (h1 : H o = some (.tup xs)) (h2 : H t = some (.tup xs)) (hx : ∀ z ∈ xs, EqOk K H n z z true) : EqG K H (n + 1) (.ref o) (.ref t) true :=
  (eg_tup (e := fun _ => true) (.inl (.inl h1)) (.inl (.inl h2)) (fun i p q hp hq => by rw [hp] at hq; cases hq; exact hx p (List.mem_of_getElem? hp)) (fun _ => by simp [pairs])).to (by simp [pairs])
theorem mix_refl {K : Frag} {H : Hp} {x : V} {d : PyData} (h : Mx K H x d) : mixEq d d = true := by
  cases h with
  | dat h p l => rw [mix_plain p p]; exact SeqAt.eqv_refl_plain d p
  | dk h => rfl
end S
namespace S
open PySem PySem.Spec PyProof.Rows L2
def Sp6 (f : V → V → V → V → V → V → Hp → VK → XK → Prop) : Sp := fun vs H Q E => ∃ x y z u v w, vs = [x, y, z, u, v, w] ∧ f x y z u v w H Q E
theorem splen6 {vs : List V} {H : Hp} {Q : VK} {E : XK} {f} (h : Sp6 f vs H Q E) : vs.length = 6 := by obtain ⟨_, _, _, _, _, _, rfl, _⟩ := h; rfl
/-! ### x < y of like data -/
def rLtD (K : Frag) : R2 := fun x y H Q => ∃ d e, Dp K H x d ∧ Dp K H y e ∧ PySem.W.alike d e = true ∧ d ≠ .none ∧ d.depth ≤ 20 ∧ Q (.bl (PySem.W.dataLt d e)) H
theorem ltDK {X : Cx} {K : Frag} (hK : X.K = K) (hu : X.A.units + 64 < cLine) : OpR X (compareOp .Lt) (rLtD K) := by
  intro pins s σ H x y v u Q I rx ry h
  subst hK
  obtain ⟨d, e, hd, he, al, nn, dp, q⟩ := h
  obtain ⟨as, r1⟩ := Dp.reads I d x v hd rx
  obtain ⟨bs, r2⟩ := Dp.reads I e y u he ry
  exact PySem.W.rcLt_alike d e X.A s v u as bs r1 r2 al nn (by omega) X.prog X.w _ _ ⟨.bl _, H, I, rfl, q⟩
/-! ### a or b, a and b of bools, as values -/
theorem orQ {c d : Bool} {Q : V → Hp → Prop} {H : Hp} {B : Prop} (q : Q (.bl (c || d)) H) (hB : Q (.bl d) H → B) : if c = true then Q (.bl true) H else B := by
  cases c with
  | true => exact q
  | false => exact hB q
theorem andQ {c d : Bool} {Q : V → Hp → Prop} {H : Hp} {B : Prop} (q : Q (.bl (c && d)) H) (hB : Q (.bl d) H → B) : if c = true then B else Q (.bl false) H := by
  cases c with
  | true => exact hB q
  | false => exact q
/-! ### the sort by steps from the end -/
section
variable {α β : Type}
def ltAt (lt : α → α → Bool) (x : α) (out : List α) (k : Nat) : Bool := match out[k]? with
  | some y => lt x y
  | none => false
/-- x goes down from k past what is above it -/
def posR (lt : α → α → Bool) (x : α) (out : List α) : Nat → Nat
  | 0 => 0
  | k + 1 => if ltAt lt x out k then posR lt x out k else k + 1
def insR (lt : α → α → Bool) (out : List α) (x : α) : List α := out.take (posR lt x out out.length) ++ [x] ++ out.drop (posR lt x out out.length)
def sortR (lt : α → α → Bool) (l : List α) : List α := l.foldl (insR lt) []
theorem posR_le (lt : α → α → Bool) (x : α) (out : List α) : ∀ k, posR lt x out k ≤ k
  | 0 => Nat.le_refl _
  | k + 1 => by
    unfold posR
    split
    · exact Nat.le_succ_of_le (posR_le lt x out k)
    · exact Nat.le_refl _
theorem insR_perm (lt : α → α → Bool) (out : List α) (x : α) : (insR lt out x).Perm (x :: out) := by
  unfold insR
  have h1 : (out.take (posR lt x out out.length) ++ [x] ++ out.drop (posR lt x out out.length)).Perm ([x] ++ out.take (posR lt x out out.length) ++ out.drop (posR lt x out out.length)) := List.Perm.append_right _ List.perm_append_comm
  refine h1.trans ?_
  rw [List.append_assoc, List.take_append_drop]
  exact List.Perm.refl _
theorem foldR_perm (lt : α → α → Bool) : ∀ (l out : List α), (l.foldl (insR lt) out).Perm (l ++ out)
  | [], out => List.Perm.refl _
  | x :: l, out => by
    rw [List.foldl_cons]
    refine (foldR_perm lt l _).trans ?_
    refine (List.Perm.append_left l (insR_perm lt out x)).trans ?_
    exact List.perm_middle
theorem sortR_perm (lt : α → α → Bool) (l : List α) : (sortR lt l).Perm l := by
  have := foldR_perm lt l []
  rwa [List.append_nil] at this
theorem posR_congr {lt lt' : α → α → Bool} {x : α} {out : List α} (h : ∀ y ∈ out, lt x y = lt' x y) : ∀ k, posR lt x out k = posR lt' x out k
  | 0 => rfl
  | k + 1 => by
    unfold posR
    have e : ltAt lt x out k = ltAt lt' x out k := by
      unfold ltAt
      cases hk : out[k]? with
      | none => rfl
      | some y => exact h y (List.mem_of_getElem? hk)
    rw [e, posR_congr h k]
theorem foldR_congr {lt lt' : α → α → Bool} : ∀ {l out : List α}, (∀ x ∈ l, ∀ y ∈ out, lt x y = lt' x y) → l.Pairwise (fun y x => lt x y = lt' x y) → l.foldl (insR lt) out = l.foldl (insR lt') out
  | [], _, _, _ => rfl
  | x :: l, out, h, p => by
    have e : insR lt out x = insR lt' out x := by
      unfold insR
      rw [posR_congr (h x List.mem_cons_self)]
    rw [List.foldl_cons, List.foldl_cons, e]
    have hp := List.pairwise_cons.mp p
    refine foldR_congr (fun z hz y hy => ?_) hp.2
    rcases List.mem_cons.mp ((insR_perm lt' out x).mem_iff.mp hy) with rfl | hy
    · exact hp.1 z hz
    · exact h z (List.mem_cons_of_mem _ hz) y hy
theorem sortR_congr {lt lt' : α → α → Bool} {l : List α} (p : l.Pairwise (fun y x => lt x y = lt' x y)) : sortR lt l = sortR lt' l := foldR_congr (fun _ _ _ h => by cases h) p
theorem posR_map {lt : α → α → Bool} {lt' : β → β → Bool} {f : α → β} (h : ∀ x y, lt x y = lt' (f x) (f y)) (x : α) (out : List α) : ∀ k, posR lt x out k = posR lt' (f x) (out.map f) k
  | 0 => rfl
  | k + 1 => by
    unfold posR
    have e : ltAt lt x out k = ltAt lt' (f x) (out.map f) k := by
      unfold ltAt
      rw [List.getElem?_map]
      cases out[k]? with
      | none => rfl
      | some y => exact h x y
    rw [e, posR_map h x out k]
theorem insR_map {lt : α → α → Bool} {lt' : β → β → Bool} {f : α → β} (h : ∀ x y, lt x y = lt' (f x) (f y)) (x : α) (out : List α) : (insR lt out x).map f = insR lt' (out.map f) (f x) := by
  unfold insR
  rw [List.map_append, List.map_append, List.map_take, List.map_drop, posR_map h, List.length_map]
  rfl
theorem foldR_map {lt : α → α → Bool} {lt' : β → β → Bool} {f : α → β} (h : ∀ x y, lt x y = lt' (f x) (f y)) : ∀ (l out : List α), (l.foldl (insR lt) out).map f = (l.map f).foldl (insR lt') (out.map f)
  | [], _ => rfl
  | x :: l, out => by
    rw [List.foldl_cons, List.map_cons, List.foldl_cons, foldR_map h l, insR_map h]
theorem sortR_map {lt : α → α → Bool} {lt' : β → β → Bool} {f : α → β} (h : ∀ x y, lt x y = lt' (f x) (f y)) (l : List α) : (sortR lt l).map f = sortR lt' (l.map f) := foldR_map h l []
theorem sortR_take {lt : α → α → Bool} {l : List α} {i : Nat} {x : α} (h : l[i]? = some x) : sortR lt (l.take (i + 1)) = insR lt (sortR lt (l.take i)) x := by
  unfold sortR
  rw [List.take_add_one, h, List.foldl_append]
  rfl
end
end S
namespace S
open PySem PySem.Spec PyProof.Rows L2
section
variable {X : Cx} {K : Frag}
theorem ps_fldaugK {o value : Expr} {f : Str} {tpos pos : Pos} {ta tv : TE} {op : Operator} {rd : V → V → Hp → VK → Prop} (hK : X.K = K) (ha : PE X o ta) (hv : PE X value tv) (hop : InOp X op rd) : PS X (.AugAssign (.Attribute o f tpos) op value pos) (sFldAug K ta tv rd f) := hK ▸ ps_fldaug ha hv hop
theorem pi_enumK {e : Expr} {ta : TA} {p pos tpos : Pos} {elts : List Expr} {kk : Nat} (hK : X.K = K) (hg : Gl X "enumerate") (hm : X.mg "enumerate" = none) (ha : PA X [e] ta) (hs : starEach [e] X.env = [(false, eval e X.env)] := by rfl) :
    PI X (.Tuple elts kk tpos) (.Call (.Name "enumerate" p) [e] [] pos) (iEnum K ta) := hK ▸ pi_enum hg hm ha hs
end
end S
namespace S
open PySem PySem.Spec PyProof.Rows L2
/-! list(d.values()) -/
def rListVals : V → Hp → VK → Prop := fun x H Q => ∃ (d : Addr) (kvs : List (Key × V)), x = .ref d ∧ H d = some (.dK kvs) ∧ ∀ p, H p = none → Q (.ref p) (upd H p (.lst (kvs.map Prod.snd)))
theorem LiIx.paired_get {α β : Type} {F : α → β → Prop} : ∀ {xs : List α} {ys : List β}, Paired F xs ys → ∀ {i : Nat} {x : α}, xs[i]? = some x → ∃ y, ys[i]? = some y ∧ F x y
  | _, _, .nil, i, x, h => by cases h
  | _, _, .cons r t, 0, x, h => by
    have e := Option.some.inj h
    subst e
    exact ⟨_, rfl, r⟩
  | _, _, .cons r t, i + 1, x, h => LiIx.paired_get t h
def tListVals (te : TE) : TE := fun σ H Q => te σ H fun x H1 => rListVals x H1 Q
theorem pe_listVals {X : Cx} {e : Expr} {te : TE} {p apos cpos pos : Pos} (hc : X.calm = true) (hg : Gl X "list") (hm : X.mg "list" = none) (he : PE X e te) (hbase : attributeBase e "values" X.env (eval e X.env) = eval e X.env := by rfl) (hline : (apos.endLine == cpos.line) = true := by rfl)
    (hs : starEach [.Call (.Attribute e "values" apos) [] [] cpos] X.env = (false, eval (.Call (.Attribute e "values" apos) [] [] cpos) X.env) :: starEach [] X.env := by rfl) :
    PE X (.Call (.Name "list" p) [.Call (.Attribute e "values" apos) [] [] cpos] [] pos) (tListVals te) := by
  refine ⟨fun pins s σ H Q I hq => ?_⟩
  refine wpAny_Call_Name_kw (ld_blt I hg hm boot_list ?_)
  refine PyProof.Rows.callWith_type1 ?_ hs rfl
  rw [hs]
  show wpAny _ _ (spliced ((false, eval (.Call (.Attribute e "values" apos) [] [] cpos) X.env) :: backTo pos (starEach [] X.env))) _ _ s
  refine Calls.spliced_cons ?_
  refine wpAny_Call_method (T := "dict") (id := "dict.values") hbase rfl hline F.plainAttrs_dict F.slot_dict_values F.type_dict_values (thn (he.run pins s σ H _ I hq) fun u s1 ⟨x, H1, I1, rx, d, kvs, ex, hd, q⟩ => ?_)
  subst ex
  obtain rfl : u = Value.ref d := rx
  obtain ⟨hz, hs0, vs, kv, hdo⟩ := I1.hok d _ hd
  obtain ⟨ep, hat⟩ := hdo.dictAt
  have lk : kvs.length = vs.length := Paired.length kv
  have I2 : Inv X pins σ H1 { s1 with heap := s1.heap.push { cls := .type "dict_values", data := .fields #[.ref d] } } := I1.kept (t' := s1.toks) fun b ob q => Heap.get?_push_of_some _ q
  refine ⟨hdo.typeIs, hdo.mapOf.noDict, ?_⟩
  show wpAny _ _ (callWith cpos (.builtin "dict.values") [.ref d] [] []) _ X.xe s1
  refine method_meetsIn F.slot_dict_values F.entry_dict_values rfl (PySem.evalArgs_none ⟨rfl, hdo.typeIs, F.args_dict_values_1 _, _, meets_dict_values (mixKind X.prog X.w) d hs0, ⟨vs, hdo⟩, ?_⟩)
  refine Calls.spliced_nil ?_
  refine PySem.W.kdl_call (PySem.W.kdl_values (knd := mixKind X.prog X.w) (kvs := vs) (ep := ep)) (I1.ok.hd hc) ⟨⟨_, Heap.get?_push_size _ rfl, rfl, rfl⟩, hat.push _⟩ (by rw [← lk]; exact hz) fun h' tk acc' c' hkeep hS hacc => ?_
  refine ⟨.ref _, upd H1 _ (.lst (kvs.map Prod.snd)), I2.laid hkeep (Nat.le_refl _) (show ObjOk X.prog X.w _ _ _ (.lst (kvs.map Prod.snd)) from ⟨?_, acc'.toList, c', ?_, ?_⟩), rfl, q _ (I2.hok.fresh (Nat.le_refl _))⟩
  · rw [List.length_map]; exact hz
  · have el : acc'.toList.length = acc'.size := by simp
    refine vals_of_at (by rw [List.length_map, el, hacc.1, lk]) fun j x w h1 h2 => ?_
    obtain ⟨k, hky⟩ := hacc.2 j w (by rw [← Array.getElem?_toList]; exact h2)
    rw [List.getElem?_map] at h1
    obtain ⟨pk, hpk, rfl⟩ := Option.map_eq_some_iff.mp h1
    obtain ⟨qv, g1, g2, g3⟩ := LiIx.paired_get kv hpk
    rw [hky] at g1
    cases g1
    exact g3
  · rw [Array.toArray_toList]; exact hS
/-! [f a for x in xs if c a], from rows of data -/
section
variable {J : It} {H0 : Hp} {D : Addr} {tt : TT} {te : TE} {vs : List Nat} {σ : L2.St} {Qd : Hp → Prop} {i : Nat}
theorem lc_fmA {α : Type} {as : List α} {v : α → V} (wk : Walk J (as.map v).length (fun H => Same H0 H) (YAt (as.map v))) (c : α → Bool) (f : α → V) (hf : ∀ a ∈ as, ∀ b ∈ as, v a = v b → c a = c b ∧ f a = f b) (hD : H0 D = none) (ln : as.length ≤ 1000) (w0 : ∀ x, wipe ((wipe σ vs).set i (some x)) vs = wipe σ vs)
    (tst : ∀ (a : α) (H : Hp) (B : Bool → Hp → Prop), a ∈ as → Same H0 H → (∀ H', Same H H' → B (c a) H') → tt ((wipe σ vs).set i (some (v a))) H B)
    (el : ∀ (a : α) (H : Hp) (Z : V → Hp → Prop), a ∈ as → Same H0 H → (∀ H', Same H H' → Z (f a) H') → te ((wipe σ vs).set i (some (v a))) H Z)
    (q : ∀ H, Same H0 H → H D = some (.lst ((as.filter c).map f)) → Qd H) :
    ∃ W : Nat → Nat → Hp → Prop, (∃ m, W 0 m (upd H0 D (.lst []))) ∧ ∀ k m H, W k m H →
      (J.stop k H ∧ Qd H) ∨ (J.go k H ∧ ∃ Nx : Hp → Prop, (∀ H', Nx H' → ∃ m', m' < m ∧ W (k + 1) m' H') ∧ ∀ x H', J.yld k H x H' → gName i x (wipe σ vs) H' fun σ2 H2 => wipe σ2 vs = wipe σ vs ∧ tt σ2 H2 fun b H3 =>
        if b = true then te σ2 H3 fun y H4 => ∃ acc, H4 D = some (.lst acc) ∧ acc.length < sizeLine ∧ Nx (upd H4 D (.lst (acc ++ [y]))) else Nx H3) := by
  classical
  let F : V → V := fun x => if h : ∃ a ∈ as, v a = x then f h.choose else .non
  let C : V → Bool := fun x => if h : ∃ a ∈ as, v a = x then c h.choose else false
  have hF : ∀ a ∈ as, F (v a) = f a := fun a ha => by
    have h : ∃ b ∈ as, v b = v a := ⟨a, ha, rfl⟩
    show (if h : ∃ b ∈ as, v b = v a then f h.choose else .non) = f a
    rw [dif_pos h]
    exact (hf _ h.choose_spec.1 _ ha h.choose_spec.2).2
  have hC : ∀ a ∈ as, C (v a) = c a := fun a ha => by
    have h : ∃ b ∈ as, v b = v a := ⟨a, ha, rfl⟩
    show (if h : ∃ b ∈ as, v b = v a then c h.choose else false) = c a
    rw [dif_pos h]
    exact (hf _ h.choose_spec.1 _ ha h.choose_spec.2).1
  refine lc_fm wk C F hD (by rw [List.length_map]; exact ln) w0 (fun x H Z hx s z => ?_) (fun x H Z hx s z => ?_) fun H s e => q H s ?_
  · obtain ⟨a, ha, rfl⟩ := List.mem_map.mp hx
    rw [hC a ha] at z
    exact tst a H Z ha s z
  · obtain ⟨a, ha, rfl⟩ := List.mem_map.mp hx
    rw [hF a ha] at z
    exact el a H Z ha s z
  · rw [e, List.filter_map, List.map_map]
    congr 2
    have e1 : as.filter (C ∘ v) = as.filter c := List.filter_congr fun a ha => hC a ha
    rw [e1]
    exact List.map_congr_left fun a ha => hF a ((List.mem_filter.mp ha).1)
end
end S
namespace S
open PySem PySem.Spec PyProof.Rows L2
/-! ### enumerate over a list or a tuple that stands -/
section
open PySem.Calls
set_option maxHeartbeats 1000000 in
theorem meets_enum1 {v : Value} {o : Obj} {H : Heap → Prop} (B : Begins v o H) :
    Meets (Builtin.«enumerate.__new__» ⟨[.type "enumerate", v], []⟩) (fun _ R s => H s.heap ∧
      R (.ok (.ret (.ref (s.heap.push o).objs.size))) { s with heap := (s.heap.push o).push { cls := .type "enumerate", data := .fields #[.none, .bool false, .ref s.heap.objs.size, rawInt 0, .none, .none] } }) :=
  .of_wp fun prog w A R s h => by
    obtain ⟨hp, g, d, tk, os⟩ := s; obtain ⟨h1, h⟩ := h
    have hsub := sub_enumerate
    have q1 : ∀ {A' : Around} {E : Value → Shared → Prop} {Q : Value → Shared → Prop}, Q (.ref hp.objs.size) ⟨hp.push o, g, d, tk, os⟩ → wpAny (model prog w) A' (pyIter v) Q E ⟨hp, g, d, tk, os⟩ :=
      fun q => B.iter prog w _ _ ⟨hp, g, d, tk, os⟩ _ h1 q
    wp_walk using q1
    refine wpAny_stack_any fun st => wpAny_pure ?_
    split
    · rename_i c _ _ _ _ _
      cases (c == Value.type "enumerate")
      · wp_walk using q1
        exact ⟨_, rfl, h⟩
      · wp_walk using q1
        exact ⟨_, rfl, h⟩
    · wp_walk using q1
      exact ⟨_, rfl, h⟩
theorem enum_begins1 {prog : Program} {w : World} {A : Around} {E : Value → Shared → Prop} {s : Shared} {v : Value} {o : Obj} {H : Heap → Prop} {Q : Value → Shared → Prop} (B : Begins v o H) (h1 : H s.heap)
    (h : ∀ h', IsEnum h' (s.heap.objs.size + 1) s.heap.objs.size 0 .none → h'.get? s.heap.objs.size = some o → h'.objs.size = s.heap.objs.size + 2 →
      (∀ b o, s.heap.get? b = some o → h'.get? b = some o) → Q (.ref (s.heap.objs.size + 1)) { s with heap := h' }) :
    wpAny (model prog w) A (call (.type "enumerate") [v]) Q E s := by
  refine callType_new F.called_enumerate (by decide) (F.typeCall_enumerate_1 _) (F.newCall_enumerate_1 _) (fun obj => F.args_object_init_2 obj _) F.entry_enumerate_new (meets_enum1 B) ⟨h1, ?_⟩
  have hz : (s.heap.push o).objs.size = s.heap.objs.size + 1 := Heap.size_push ..
  show _ ∧ _
  rw [hz]
  have he : IsEnum ((s.heap.push o).push { cls := .type "enumerate", data := .fields #[.none, .bool false, .ref s.heap.objs.size, rawInt 0, .none, .none] }) (s.heap.objs.size + 1) s.heap.objs.size 0 .none := by
    have := Heap.get?_push_size (s.heap.push o) (o := { cls := .type "enumerate", data := .fields #[.none, .bool false, .ref s.heap.objs.size, rawInt 0, .none, .none] }) rfl
    rw [hz] at this; exact this
  exact ⟨⟨_, he, rfl⟩, h _ he (Heap.get?_push_of_some _ (Heap.get?_push_size _ B.free)) (by rw [Heap.size_push, hz]) fun b o x => Heap.get?_push_of_some _ (Heap.get?_push_of_some _ x)⟩
end
section
variable {K : Frag}
/-- a list (false) or a tuple (true) -/
def SqB (K : Frag) (b : Bool) (H : Hp) (a : Addr) (xs : List V) : Prop := if b then SqT K H a xs else SqL K H a xs
/-- the items as they stand at each turn, each in a new pair with its number from c on -/
def IteC (K : Frag) (b : Bool) (a : Addr) (c : Int) : It :=
  ⟨fun i H => ∃ (xs : List V) (x : V), SqB K b H a xs ∧ xs[i]? = some x, fun i H v H' => ∃ T x, v = .ref T ∧ H T = none ∧ H' = upd H T (.tup [.int (c + (i : Nat)), x]) ∧ ∀ xs, SqB K b H a xs → xs[i]? = some x, fun i H => ∃ xs : List V, SqB K b H a xs ∧ xs.length = i⟩
def srcAt (b : Bool) (it a : Addr) (i : Nat) (h : Heap) : Prop := if b then h.IsTupleIter it a i else h.IsListIter it a i
def srcOf (b : Bool) (a : Addr) (items : Array Value) (h : Heap) : Prop := if b then h.IsTuple a items else h.IsList a items
theorem src_draws {prog : Program} {w : World} {A : Around} (b : Bool) (hh : A.handled = none) (it a : Addr) (hne : a ≠ it) (items : Array Value) :
    Draws prog w A it [it, a] items.size (fun i v => items[i]? = some v) (fun i h => srcAt b it a i h ∧ srcOf b a items h) := by
  cases b with
  | true => exact Draws.tuple hh it a hne items
  | false => exact Draws.list hh it a hne items
theorem src_inv {X : Cx} {pins : List (Addr × Obj)} {σ : L2.St} {H : Hp} {s : Shared} {b : Bool} {a : Addr} {xs : List V} (I : Inv X pins σ H s) (h : SqB X.K b H a xs) : ∃ its, Vals xs its ∧ srcOf b a its.toArray s.heap := by
  cases b with
  | true =>
    obtain ⟨its, rv, p, hz⟩ := I.tuple h
    exact ⟨its, rv, p⟩
  | false =>
    obtain ⟨its, rv, p, hz⟩ := I.list h
    exact ⟨its, rv, p.isList⟩
theorem srcAt.at {b : Bool} {it a : Addr} {i : Nat} {h h' : Heap} (x : srcAt b it a i h) (k : ∀ o, h.get? it = some o → h'.get? it = some o) : srcAt b it a i h' := by
  cases b with
  | true => exact Heap.IsTupleIter.at x k
  | false => exact Heap.IsListIter.at x k
theorem srcAt.obj {b : Bool} {it a : Addr} {i : Nat} {h : Heap} (x : srcAt b it a i h) : ∃ o, h.get? it = some o ∧ ∀ v, o.data ≠ .cell v := by
  cases b with
  | true =>
    obtain ⟨o, ho, hc, hd⟩ := x
    exact ⟨o, ho, fun v q => by rw [hd] at q; cases q⟩
  | false =>
    obtain ⟨o, ho, hc, hd⟩ := x
    exact ⟨o, ho, fun v q => by rw [hd] at q; cases q⟩
theorem sqB_inj {X : Cx} {pins : List (Addr × Obj)} {σ : L2.St} {H : Hp} {s : Shared} {b : Bool} {a : Addr} {xs ys : List V} (I : Inv X pins σ H s) (h : SqB X.K b H a xs) (h' : SqB X.K b H a ys) : xs = ys := by
  cases b with
  | true => exact I.tuple_inj h h'
  | false => exact I.list_inj h h'
theorem turn_enumC {P : Program} {w : World} {elts : List Expr} {kk : Nat} {tpos : Pos} (b : Bool) (a e it : Addr) (c : Int) :
    Turn P w K (.Tuple elts kk tpos) (IteC K b a c) [e, it] e (fun i h => (∃ old, IsEnum h e it (c + (i : Nat)) old) ∧ srcAt b it a i h ∧ e ≠ it ∧ a ≠ it ∧ e ≠ a) where
  mem := by simp
  obj := fun i h st b' hb => by
    obtain ⟨⟨old, he⟩, hs, _⟩ := st
    have e' : b' = e ∨ b' = it := by simpa using hb
    rcases e' with z | z
    · rw [z]; exact ⟨_, he, fun v q => nomatch q⟩
    · rw [z]; exact hs.obj
  keep := fun i h h' st k => let ⟨⟨old, he⟩, hi, hne⟩ := st; ⟨⟨old, k e (by simp) _ he⟩, hi.at fun o q => k it (by simp) o q, hne⟩
  item := by
    intro X hP hw hK hc i pins s σ H E I hf st hg
    subst hP hw hK
    obtain ⟨⟨old, he⟩, hit, hne, hai, hea⟩ := st
    obtain ⟨xs, x, hq, hx⟩ := hg
    obtain ⟨its, rv, p⟩ := src_inv I hq
    obtain ⟨u, hu, ru⟩ := rv.get hx
    have hel : e < s.heap.objs.size := Heap.lt_size he
    have hil : it < s.heap.objs.size := by obtain ⟨_, q, _⟩ := hit.obj; exact Heap.lt_size q
    have hlt : i < its.toArray.size := by simpa using (List.getElem?_eq_some_iff.mp hu).1
    refine wpAny_pyNext_enum_itemC (src_draws (A := X.A.in1) b (show X.A.in1.handled = none from I.ok.hd hc) it a hai its.toArray) he ⟨hit, p⟩ hlt hne (by simp [hne, hea]) fun u' h' tk hPu ho hst' hT hsz hk => ?_
    have eu : u' = u := by
      have h1 : its[i]? = some u' := by simpa using hPu
      rw [hu] at h1
      injection h1 with h1
      exact h1.symm
    subst eu
    refine ⟨_, rfl, wpAny_letOwnedTupleGo_enum (s := { s with heap := h', toks := tk + 1 }) ho fun h'' he' sb => ?_⟩
    have hT2 : h''.get? s.heap.objs.size = some { cls := .type "tuple", data := .seq #[.int (c + (i : Nat)) tk, u'] } := (sb.2 _ (Nat.ne_of_gt hel)).trans hT
    have new : ObjOk X.prog X.w (upd H s.heap.objs.size (.tup [.int (c + (i : Nat)), x])) h'' s.heap.objs.size (.tup [.int (c + (i : Nat)), x]) :=
      ⟨by show 2 ≤ sizeLine; decide, [.int (c + (i : Nat)) tk, u'], .cons ⟨_, rfl⟩ (.cons ru .nil), ⟨_, hT2, rfl, _, rfl⟩⟩
    have I1 : Inv X pins σ (upd H s.heap.objs.size (.tup [.int (c + (i : Nat)), x])) { s with heap := h'', toks := tk + 1 } :=
      I.turnedNew (ch := [e, it]) (fun b ob hb q => (sb.2 b (fun z => hb (by simp [z]))).trans (hk b ob (fun z => hb (by simp [z])) (fun z => hb (by simp [z])) q)) hf (Nat.le_refl _) new
    refine ⟨.ref s.heap.objs.size, _, I1, rfl, ⟨_, x, rfl, I.hok.fresh (Nat.le_refl _), rfl, fun ys hy => by rw [sqB_inj I hy hq]; exact hx⟩, ⟨⟨u', ?_⟩, hst'.1.at fun o q => (sb.2 it (Ne.symm hne)).trans q, hne, hai, hea⟩, fun b hb => ?_⟩
    · have e1 : c + ((i + 1 : Nat) : Int) = c + (i : Nat) + 1 := by omega
      rw [e1]; exact he'
    · have hb' : b < s.heap.objs.size := by
        have e' : b = e ∨ b = it := by simpa using hb
        rcases e' with z | z
        · rw [z]; exact hel
        · rw [z]; exact hil
      rw [upd_ne (Nat.ne_of_lt hb')]
      exact (hf b hb).1
  done := by
    intro X hP hw hK hc i pins s σ H E I hf st hg
    subst hP hw hK
    obtain ⟨⟨old, he⟩, hit, hne, hai, hea⟩ := st
    obtain ⟨xs, hq, hx⟩ := hg
    obtain ⟨its, rv, p⟩ := src_inv I hq
    obtain ⟨f0, f1, f2, f3, f4, f5⟩ := hf it (by simp)
    have hl := rv.length
    have ei : its.toArray.size = i := by simp; omega
    exact wpAny_pyNext_enum_endD (src_draws (A := X.A.in1) b (show X.A.in1.handled = none from I.ok.hd hc) it a hai its.toArray) he (by rw [ei]; exact ⟨hit, p⟩) fun h' eb => ⟨rfl, I.turned (t' := s.toks) (fun b o hb q => eb b o hb q) f0 f1 f3 f4 f5⟩
  self := fun A i s Q E st h => let ⟨⟨_, he⟩, _⟩ := st; wpAny_pyIter_enum he h
/-- at turn i: a new pair of c + i and the item -/
def YEn (c : Int) (xs : List V) : Nat → Hp → V → Hp → Prop := fun i H v H' => ∃ T x, v = .ref T ∧ H T = none ∧ H' = upd H T (.tup [.int (c + (i : Nat)), x]) ∧ xs[i]? = some x
def iEnX (K : Frag) (c : Int) (ta : TA) : TI := fun σ H R => ta σ H fun vs H1 => ∃ a xs, vs = [.ref a] ∧ (SqL K H1 a xs ∨ SqT K H1 a xs) ∧ ∀ J, Walk J xs.length (fun H => Same H1 H) (YEn c xs) → R J H1
theorem sqB_same {b : Bool} {H H' : Hp} {a : Addr} {xs : List V} (h : SqB K b H a xs) (s : Same H H') : SqB K b H' a xs := by
  cases b with
  | true => exact sqT_same h s
  | false => exact sqL_same h s
theorem walk_enumC {b : Bool} {a : Addr} {xs : List V} {c : Int} {H1 : Hp} (h : SqB K b H1 a xs) : Walk (IteC K b a c) xs.length (fun H => Same H1 H) (YEn c xs) :=
  ⟨fun i H hi s => ⟨xs, xs[i], sqB_same h s, List.getElem?_eq_getElem hi⟩, fun H s => ⟨xs, sqB_same h s, rfl⟩, fun i H v H' hi s y => let ⟨T, x, h1, h2, h3, h4⟩ := y; ⟨T, x, h1, h2, h3, h4 xs (sqB_same h s)⟩⟩
theorem pi_enumX {X : Cx} {e : Expr} {ta : TA} {p pos tpos : Pos} {elts : List Expr} {kk : Nat} (hK : X.K = K) (hg : Gl X "enumerate") (hm : X.mg "enumerate" = none) (ha : PA X [e] ta) (hs : starEach [e] X.env = [(false, eval e X.env)] := by rfl) :
    PI X (.Tuple elts kk tpos) (.Call (.Name "enumerate" p) [e] [] pos) (iEnX K 0 ta) := by
  subst hK
  refine ⟨fun pins s σ H R I h => ?_⟩
  refine Call_ (ld_blt I hg hm boot_enumerate (PyProof.Rows.callWith_type1 (thn (ha.run pos pins s σ H _ I h) fun us s1 ⟨vs, H1, I1, r1, q1⟩ => ?_) hs rfl))
  obtain ⟨a, xs, ex, hq, q⟩ := q1
  subst ex
  cases r1 with
  | cons r rr =>
    cases rr
    cases r
    have fin : ∀ (b : Bool) (h' : Heap), SqB X.K b H1 a xs → IsEnum h' (s1.heap.objs.size + 1) s1.heap.objs.size 0 .none → srcAt b s1.heap.objs.size a 0 h' → a < s1.heap.objs.size → (∀ b o, s1.heap.get? b = some o → h'.get? b = some o) → PIE X pins σ (.Tuple elts kk tpos) R (.ref (s1.heap.objs.size + 1)) { s1 with heap := h' } := fun b h' hB he hit hlt hk => by
      have I2 : Inv X pins σ H1 { s1 with heap := h' } := I1.kept (t' := s1.toks) hk
      refine ⟨s1.heap.objs.size + 1, [s1.heap.objs.size + 1, s1.heap.objs.size], _, IteC X.K b a 0, H1, rfl, I2, turn_enumC b a (s1.heap.objs.size + 1) s1.heap.objs.size 0, ⟨⟨.none, he⟩, hit, Nat.succ_ne_self _, Nat.ne_of_lt hlt, Nat.ne_of_gt (Nat.lt_succ_of_lt hlt)⟩, fun b hb => ?_, q _ (walk_enumC hB)⟩
      have e' : b = s1.heap.objs.size + 1 ∨ b = s1.heap.objs.size := by simpa using hb
      have hle : s1.heap.objs.size ≤ b := by
        rcases e' with z | z
        · rw [z]; exact Nat.le_add_right _ _
        · rw [z]; exact Nat.le_refl _
      exact I1.fpOk hle (I1.hok.fresh hle)
    rcases hq with hq | hq
    · obtain ⟨its, rv, p', hz⟩ := I1.list hq
      have hL := p'.isList
      refine enum_begins1 (begins_list a its.toArray) hL fun h' he hit hsz hk => wpAny_pyIter_enum he (fin false h' hq he ⟨_, hit, rfl, rfl⟩ (by obtain ⟨_, z, _⟩ := hL; exact Heap.lt_size z) hk)
    · obtain ⟨its, rv, p', hz⟩ := I1.tuple hq
      refine enum_begins1 (begins_tuple a its.toArray) p' fun h' he hit hsz hk => wpAny_pyIter_enum he (fin true h' hq he ⟨_, hit, rfl, rfl⟩ (by obtain ⟨_, z, _⟩ := p'; exact Heap.lt_size z) hk)
/-- a for over enumerate(..) of what stands -/
theorem for_enX {J : It} {xs : List V} {c : Int} {H0 : Hp} (w : Walk J xs.length (fun H => Same H0 H) (YEn c xs)) {g : TG} {tb : TS} {D : Ends} {σ : L2.St} {H : Hp} (Pv : Nat → L2.St → Hp → Prop) (h0 : Pv 0 σ H) (hG : ∀ i σ H, i ≤ xs.length → Pv i σ H → Same H0 H)
    (hs : ∀ i x σ H T, xs[i]? = some x → Pv i σ H → H T = none → g (.ref T) σ (upd H T (.tup [.int (c + (i : Nat)), x])) fun σ2 H2 => tb { D with nx := Pv (i + 1), ct := Pv (i + 1), bk := D.nx } σ2 H2) (hd : ∀ σ H, Pv xs.length σ H → D.nx σ H) :
    ∃ W : Nat → Nat → L2.St → Hp → Prop, (∃ m, W 0 m σ H) ∧ ∀ i m σ H, W i m σ H →
      (J.stop i H ∧ D.nx σ H) ∨ (J.go i H ∧ ∃ N : L2.St → Hp → Prop, (∀ σ' H', N σ' H' → ∃ m', m' < m ∧ W (i + 1) m' σ' H') ∧ ∀ x H', J.yld i H x H' → g x σ H' fun σ2 H2 => tb { D with nx := N, ct := N, bk := D.nx } σ2 H2) :=
  for_it w Pv h0 hG (fun i x σ H H' _ p y => by
    obtain ⟨T, v, rfl, h2, rfl, e⟩ := y
    exact hs i v σ H T e p h2) hd
end
end S
namespace S
open PySem PySem.Spec PyProof.Rows L2
/-! f(e, ..), f an instance of a plain class with its own __call__ -/
def tCallX (C : Addr) (sp : Sp) (E : L2.St → XK) (tf : TE) (t : TA) : TE := fun σ H Q => tf σ H fun y H1 => ∃ a, y = V.ref a ∧ t σ H1 fun vs H2 => (∃ dx fs, H2 a = some (.ins C dx fs)) ∧ sp (V.ref a :: vs) H2 Q (E σ)
theorem pe_callX {X : Cx} {fe e : Expr} {es : List Expr} {pos : Pos} {C g : Addr} {k : Nat} {sp : Sp} {E : L2.St → XK} {tf : TE} {t : TA} (hf : PE X fe tf) (c : StX.CallO X.K C g) (F : FnR X.prog X.w X.K X.mg X.base (L2.CX X.prog X.w) k g sp) (hr : Room k X.A) (hx : ∀ σ, PassesAt (L2.CX X.prog X.w) X σ (E σ)) (ha : PA X (e :: es) t)
    (ht : eval (.Call fe (e :: es) [] pos) X.env = (do callWith pos (← eval fe X.env) [] (backTo pos (starEach (e :: es) X.env)) (backToKw pos (keywordEach [] X.env))) := by rfl)
    (he : starEach (e :: es) X.env = (false, eval e X.env) :: starEach es X.env := by rfl) (hpl : (backTo pos (starEach es X.env)).any (·.1) = false := by rfl) : PE X (.Call fe (e :: es) [] pos) (tCallX C sp E tf t) := by
  refine ⟨fun pins s σ H Q I h => ?_⟩
  refine Call_ (thn (hf.run pins s σ H _ I h) fun u s1 ⟨y, H1, I1, ry, a, ey, q⟩ => ?_) ht
  subst ey
  obtain rfl : u = Value.ref a := ry
  refine StX.callO_with (thn (ha.run pos pins s1 σ H1 _ I1 q) fun us s2 ⟨vs, H2, I2, r, hi, q2⟩ => ?_) he hpl
  obtain ⟨ox, od, J, hd⟩ := StX.insC_at (X := X) I2 (.inr hi)
  exact ⟨⟨C, ox, od, J, hd⟩, wpAny_call (PySem.W.kco_code I2.kIn J hd c.at_ c.fn c.fi (run_at0 (us := .ref a :: us) (vs := .ref a :: vs) F hr I2 (hx σ) (.cons rfl r) q2))⟩
end S
namespace S
open PySem PySem.Spec PyProof.Rows L2
/-! ### enumerate(x, start=k) over a list or a tuple; the walk asks only that it stands -/
section
open PySem.Calls
variable {K : Frag}
def iEnS (K : Frag) (ta tk : TA) : TI := fun σ H R => ta σ H fun vs H1 => tk σ H1 fun zs H2 => ∃ (a : Addr) (xs : List V) (b : Bool) (c : Int), vs = [.ref a] ∧ zs = [.int c] ∧ 0 ≤ c ∧ c < 2 ^ 62 ∧ SqB K b H2 a xs ∧ ∀ J, Walk J xs.length (fun H => SqB K b H a xs) (YEn c xs) → R J H2
theorem walk_enumS {b : Bool} {a : Addr} {xs : List V} {c : Int} : Walk (IteC K b a c) xs.length (fun H => SqB K b H a xs) (YEn c xs) :=
  ⟨fun i H hi s => ⟨xs, xs[i], s, List.getElem?_eq_getElem hi⟩, fun H s => ⟨xs, s, rfl⟩, fun i H v H' hi s y => let ⟨T, x, h1, h2, h3, h4⟩ := y; ⟨T, x, h1, h2, h3, h4 xs s⟩⟩
theorem callWith_typeKw {M : Model} {A : Around} {E : Value → Shared → Prop} {s : Shared} {env : Env} {pos : Pos} {T : String} {e : Expr} {kws : List Keyword} {Q : Value → Shared → Prop}
    (h : wpAny M A (spliced (backTo pos (starEach [e] env))) (fun vs s₁ => wpAny M A (evalAll ((backToKw pos (keywordEach kws env)).map (·.2)))
      (fun kvs s₂ => wpAny M A (call (.type T) vs (((backToKw pos (keywordEach kws env)).filterMap (·.1)).zip kvs)) Q E s₂) E s₁) E s)
    (he : backTo pos (starEach [e] env) = (false, eval e env) :: backTo pos (starEach [] env) := by rfl)
    (hplain : (backTo pos (starEach [e] env)).any (·.1) = false := by rfl)
    (hall : (backToKw pos (keywordEach kws env)).all (·.1.isSome) = true := by rfl)
    (hkw : (backToKw pos (keywordEach kws env)).any (·.1.isNone) = false := by rfl) :
    wpAny M A (callWith pos (.type T) [] (backTo pos (starEach [e] env)) (backToKw pos (keywordEach kws env))) Q E s := by
  unfold callWith
  refine wpAny_bind (wpAny_holding (wpAny_mono (Q := fun a s₁ => wpAny M A (call (.type T) ([] ++ a.pos) a.kw) Q E s₁) ?_ (fun a s₁ h₁ => wpAny_bind (wpAny_standAt ?_)) fun _ _ x => x))
  · rw [he] at h ⊢
    exact evalArgs_kwB hall h
  · simp only [hplain, hkw, Bool.or_false]
    refine wpAny_bind (wpAny_pure ?_)
    exact wpAny_bind (wpAny_mono h₁ (fun r s₂ hr => wpAny_bind (wpAny_holding (wpAny_point (wpAny_pure hr)))) fun _ _ x => x)
theorem pi_enumS {X : Cx} {e e2 : Expr} {ta tk : TA} {p pos tpos kpos : Pos} {elts : List Expr} {kk : Nat} (hK : X.K = K) (hg : Gl X "enumerate") (hm : X.mg "enumerate" = none) (ha : PA X [e] ta) (hk : PK X [⟨some "start", e2, kpos⟩] tk)
    (he : backTo pos (starEach [e] X.env) = (false, eval e X.env) :: backTo pos (starEach [] X.env) := by rfl) (hpl : (backTo pos (starEach [e] X.env)).any (·.1) = false := by rfl) :
    PI X (.Tuple elts kk tpos) (.Call (.Name "enumerate" p) [e] [⟨some "start", e2, kpos⟩] pos) (iEnS K ta tk) := by
  subst hK
  refine ⟨fun pins s σ H R I h => ?_⟩
  refine wpAny_Call_Name_kw (ld_blt I hg hm boot_enumerate (callWith_typeKw (thn (ha.run pos pins s σ H _ I h) fun us s0 ⟨vs, H0, I0, r1, q0⟩ => thn (hk.run pos pins s0 σ H0 _ I0 q0) fun ws s1 ⟨zs, H1, I1, r2, q1⟩ => ?_) he hpl))
  obtain ⟨a, xs, b, c, ex, ez, c0, c1, hq, q⟩ := q1
  subst ex
  subst ez
  cases r1 with
  | cons r rr =>
    cases rr
    cases r
    cases r2 with
    | cons r' rr' =>
      cases rr'
      obtain ⟨tc, rfl⟩ := r'
      have fin : ∀ (h' : Heap), IsEnum h' (s1.heap.objs.size + 1) s1.heap.objs.size c .none → srcAt b s1.heap.objs.size a 0 h' → a < s1.heap.objs.size → (∀ b o, s1.heap.get? b = some o → h'.get? b = some o) → PIE X pins σ (.Tuple elts kk tpos) R (.ref (s1.heap.objs.size + 1)) { s1 with heap := h' } := fun h' he hit hlt hk => by
        have I2 : Inv X pins σ H1 { s1 with heap := h' } := I1.kept (t' := s1.toks) hk
        refine ⟨s1.heap.objs.size + 1, [s1.heap.objs.size + 1, s1.heap.objs.size], _, IteC X.K b a c, H1, rfl, I2, turn_enumC b a (s1.heap.objs.size + 1) s1.heap.objs.size c, ⟨⟨.none, by rw [show c + ((0 : Nat) : Int) = c by omega]; exact he⟩, hit, Nat.succ_ne_self _, Nat.ne_of_lt hlt, Nat.ne_of_gt (Nat.lt_succ_of_lt hlt)⟩, fun b hb => ?_, q _ walk_enumS⟩
        have e' : b = s1.heap.objs.size + 1 ∨ b = s1.heap.objs.size := by simpa using hb
        have hle : s1.heap.objs.size ≤ b := by
          rcases e' with z | z
          · rw [z]; exact Nat.le_add_right _ _
          · rw [z]; exact Nat.le_refl _
        exact I1.fpOk hle (I1.hok.fresh hle)
      cases b with
      | false =>
        obtain ⟨its, rv, p', hz⟩ := I1.list hq
        have hL := p'.isList
        exact enum_begins_start (begins_list a its.toArray) hL (by omega) (by omega) fun h' he hit hsz hk => wpAny_pyIter_enum he (fin h' he ⟨_, hit, rfl, rfl⟩ (by obtain ⟨_, z, _⟩ := hL; exact Heap.lt_size z) hk)
      | true =>
        obtain ⟨its, rv, p', hz⟩ := I1.tuple hq
        exact enum_begins_start (begins_tuple a its.toArray) p' (by omega) (by omega) fun h' he hit hsz hk => wpAny_pyIter_enum he (fin h' he ⟨_, hit, rfl, rfl⟩ (by obtain ⟨_, z, _⟩ := p'; exact Heap.lt_size z) hk)
/-- a for over enumerate(.., start=c) -/
theorem for_enS {J : It} {b : Bool} {a : Addr} {xs : List V} {c : Int} (w : Walk J xs.length (fun H => SqB K b H a xs) (YEn c xs)) {g : TG} {tb : TS} {D : Ends} {σ : L2.St} {H : Hp} (Pv : Nat → L2.St → Hp → Prop) (h0 : Pv 0 σ H) (hG : ∀ i σ H, i ≤ xs.length → Pv i σ H → SqB K b H a xs)
    (hs : ∀ i x σ H T, xs[i]? = some x → Pv i σ H → H T = none → g (.ref T) σ (upd H T (.tup [.int (c + (i : Nat)), x])) fun σ2 H2 => tb { D with nx := Pv (i + 1), ct := Pv (i + 1), bk := D.nx } σ2 H2) (hd : ∀ σ H, Pv xs.length σ H → D.nx σ H) :
    ∃ W : Nat → Nat → L2.St → Hp → Prop, (∃ m, W 0 m σ H) ∧ ∀ i m σ H, W i m σ H →
      (J.stop i H ∧ D.nx σ H) ∨ (J.go i H ∧ ∃ N : L2.St → Hp → Prop, (∀ σ' H', N σ' H' → ∃ m', m' < m ∧ W (i + 1) m' σ' H') ∧ ∀ x H', J.yld i H x H' → g x σ H' fun σ2 H2 => tb { D with nx := N, ct := N, bk := D.nx } σ2 H2) :=
  for_it w Pv h0 hG (fun i x σ H H' _ p y => by
    obtain ⟨T, v, rfl, h2, rfl, e⟩ := y
    exact hs i v σ H T e p h2) hd
end
end S
namespace S
open PySem PySem.Spec PyProof.Rows L2
section
variable {X : Cx} {K : Frag}
/-- l[::-1] -/
theorem pe_revK (hK : X.K = K) {e : Expr} {te : TE} {k : Nat} {p1 p2 p3 pos : Pos} (he : PE X e te) : PE X (.Subscript e (.Slice none none (some (.UnaryOp .USub (.Constant (.int 1) k p1) p2)) p3) pos) (tRevL K te) := hK ▸ pe_revL he
end
end S
namespace S
open PySem PySem.Spec PyProof.Rows L2
/-! text * number; d.copy() -/
section
variable {X : Cx}
def repS (z : Str) (k : Nat) : Str := ⟨(List.replicate k z.cps).foldl (· ++ ·) #[]⟩
theorem rep_size (c : Array Nat) : ∀ (k : Nat) (acc : Array Nat), ((List.replicate k c).foldl (· ++ ·) acc).size = acc.size + c.size * k
  | 0, acc => by simp
  | k + 1, acc => by
    rw [List.replicate_succ, List.foldl_cons, rep_size c k, Array.size_append, Nat.mul_succ]
    omega
theorem repS_len (z : Str) (k : Nat) : (repS z k).length = z.length * k := by
  show ((List.replicate k z.cps).foldl (· ++ ·) #[]).size = z.cps.size * k
  rw [rep_size]
  simp
theorem tooLong_no {n : Nat} (h : n ≤ 1000) : Builtin.Str.tooLong n = false := by
  unfold Builtin.Str.tooLong
  exact decide_eq_false (by have : (1000 : Nat) ≤ sizeLine := by decide
                            omega)
theorem op_rep_str : OpR X (binaryOp .Mult) (fun x y H Q => ∃ (z : Str) (k : Int), x = .str z ∧ y = .int k ∧ 2 ≤ k ∧ 1 ≤ z.length ∧ z.length * k.toNat ≤ 1000 ∧ Q (.str (repS z k.toNat)) H) := by
  intro pins s σ H x y v u Q I rx ry h
  obtain ⟨z, k, rfl, rfl, k2, z1, zk, q⟩ := h
  obtain ⟨t, rfl⟩ := rx
  obtain ⟨t', rfl⟩ := ry
  have kk : k.toNat ≤ 1000 := Nat.le_trans (Nat.le_mul_of_pos_left _ z1) zk
  have zi : (z.length : Int) * k ≤ 1000 := by
    have : ((z.length * k.toNat : Nat) : Int) ≤ 1000 := by omega
    rw [Int.natCast_mul, Int.toNat_of_nonneg (by omega)] at this
    exact this
  refine P.mul_str (by simp; omega) (fun _ _ => ?_) (fun _ _ => ?_) ?_
  · have : (z.length : Int) ≤ (2 ^ 63 - 1) / k := by
      rw [Int.le_ediv_iff_mul_le (by omega)]
      omega
    omega
  · exact tooLong_no zk
  · rw [if_neg (by omega), if_neg (by simp; omega)]
    exact ⟨Nat.le_trans (show (repS z k.toNat).length ≤ 1000 by rw [repS_len]; exact zk) (by decide), ⟨.str (repS z k.toNat), H, I.tok _, ⟨_, rfl⟩, q⟩⟩
def rDCopy : V → List V → Hp → VK → Prop := fun x xs H Q => ∃ a kvs, x = .ref a ∧ xs = [] ∧ H a = some (.dK kvs) ∧ ∀ p, H p = none → Q (.ref p) (upd H p (.dK kvs))
theorem mt_dcopy : MtR X "dict.copy" rDCopy := by
  intro pins s σ H x vs v us Q I rx rv h
  obtain ⟨a, kvs, rfl, rfl, hH, q⟩ := h
  cases rx
  have hus := rv.zero
  subst hus
  obtain ⟨z, hd, vs, rel, dd⟩ := dk_rd I.hok (.inl hH)
  refine call_meetsIn PySem.F.slot_dict_copy dd.typeIs PySem.F.entry_dict_copy (PySem.F.args_dict_copy_1 _) (meets_dict_copy (mixKind X.prog X.w) a hd) ⟨vs, dd, by rw [← rel.length]; exact z, fun h' dd' _ hs => ?_⟩
  refine ⟨.ref _, upd H s.heap.objs.size (.dK kvs), ?_, rfl, q _ (I.hok.fresh (Nat.le_refl _))⟩
  exact I.laid (a := s.heap.objs.size) (o := .dK kvs) (t' := s.toks) (fun b q hq => hs b q hq) (Nat.le_refl _) (dk_new z (beq_eq_false_iff_ne.mpr (Ne.symm (Nat.ne_of_lt I.big))) rel dd')
end
end S
namespace W
open PySem PySem.Spec PyProof.Rows L2
def top (i : Nat) : Stmt := PySem.Challenge.pw_seenshares_k07_program_refusals.main.body.getD i (.Pass ⟨0, 0, 0, 0⟩)
abbrev s_is_integer : Stmt := top 4
theorem sc_is_integer : FnScope ["value"] ["value"] (defScope s_is_integer) := by
  refine ⟨rfl, rfl, rfl, ?_, rfl, ?_, ?_⟩ <;> decide +kernel
abbrev d_is_integer : He.DefD := ⟨("is_integer", none), "is_integer", "is_integer", defArgs s_is_integer, defBody s_is_integer, defScope s_is_integer, [], []⟩
abbrev s_is_within : Stmt := top 5
theorem sc_is_within : FnScope ["value", "low", "high"] ["value", "low", "high"] (defScope s_is_within) := by
  refine ⟨rfl, rfl, rfl, ?_, rfl, ?_, ?_⟩ <;> decide +kernel
abbrev d_is_within : He.DefD := ⟨("is_within", none), "is_within", "is_within", defArgs s_is_within, defBody s_is_within, defScope s_is_within, [], []⟩
abbrev s_is_name : Stmt := top 6
theorem sc_is_name : FnScope ["value", "char"] ["value"] (defScope s_is_name) := by
  refine ⟨rfl, rfl, rfl, ?_, rfl, ?_, ?_⟩ <;> decide +kernel
abbrev d_is_name : He.DefD := ⟨("is_name", none), "is_name", "is_name", defArgs s_is_name, defBody s_is_name, defScope s_is_name, [], []⟩
abbrev s_has_equal_items : Stmt := top 7
theorem sc_has_equal_items : FnScope ["items", "at"] ["items"] (defScope s_has_equal_items) := by
  refine ⟨rfl, rfl, rfl, ?_, rfl, ?_, ?_⟩ <;> decide +kernel
abbrev d_has_equal_items : He.DefD := ⟨("has_equal_items", none), "has_equal_items", "has_equal_items", defArgs s_has_equal_items, defBody s_has_equal_items, defScope s_has_equal_items, [], []⟩
abbrev s_BadPlace___init__ : Stmt := inClass (top 10) 0
theorem sc_BadPlace___init__ : FnScope ["self", "why"] ["self", "why"] (defScope s_BadPlace___init__) := by
  refine ⟨rfl, rfl, rfl, ?_, rfl, ?_, ?_⟩ <;> decide +kernel
abbrev d_BadPlace___init__ : He.DefD := ⟨("BadPlace", some "__init__"), "__init__", "BadPlace.__init__", defArgs s_BadPlace___init__, defBody s_BadPlace___init__, defScope s_BadPlace___init__, [], []⟩
abbrev s_BadProgram___init__ : Stmt := inClass (top 11) 0
theorem sc_BadProgram___init__ : FnScope ["self", "why"] ["self", "why"] (defScope s_BadProgram___init__) := by
  refine ⟨rfl, rfl, rfl, ?_, rfl, ?_, ?_⟩ <;> decide +kernel
abbrev d_BadProgram___init__ : He.DefD := ⟨("BadProgram", some "__init__"), "__init__", "BadProgram.__init__", defArgs s_BadProgram___init__, defBody s_BadProgram___init__, defScope s_BadProgram___init__, [], []⟩
abbrev s_Place___init__ : Stmt := inClass (top 16) 0
theorem sc_Place___init__ : FnScope ["self", "name", "least", "most", "let"] ["self", "name", "least", "most", "let"] (defScope s_Place___init__) := by
  refine ⟨rfl, rfl, rfl, ?_, rfl, ?_, ?_⟩ <;> decide +kernel
abbrev d_Place___init__ : He.DefD := ⟨("Place", some "__init__"), "__init__", "Place.__init__", defArgs s_Place___init__, defBody s_Place___init__, defScope s_Place___init__, [.int 1, .non], [("let", .bl true)]⟩
abbrev s_places_fit : Stmt := top 17
theorem sc_places_fit : FnScope ["places", "place"] ["places"] (defScope s_places_fit) := by
  refine ⟨rfl, rfl, rfl, ?_, rfl, ?_, ?_⟩ <;> decide +kernel
abbrev d_places_fit : He.DefD := ⟨("places_fit", none), "places_fit", "places_fit", defArgs s_places_fit, defBody s_places_fit, defScope s_places_fit, [], []⟩
abbrev s_nexts_fit : Stmt := top 18
theorem sc_nexts_fit : FnScope ["names", "nexts", "name", "row", "item"] ["names", "nexts"] (defScope s_nexts_fit) := by
  refine ⟨rfl, rfl, rfl, ?_, rfl, ?_, ?_⟩ <;> decide +kernel
abbrev d_nexts_fit : He.DefD := ⟨("nexts_fit", none), "nexts_fit", "nexts_fit", defArgs s_nexts_fit, defBody s_nexts_fit, defScope s_nexts_fit, [], []⟩
abbrev s_Program___init__ : Stmt := inClass (top 19) 0
theorem sc_Program___init__ : FnScope ["self", "places", "nexts", "start", "names", "place", "name"] ["self", "places", "nexts", "start"] (defScope s_Program___init__) := by
  refine ⟨rfl, rfl, rfl, ?_, rfl, ?_, ?_⟩ <;> decide +kernel
abbrev d_Program___init__ : He.DefD := ⟨("Program", some "__init__"), "__init__", "Program.__init__", defArgs s_Program___init__, defBody s_Program___init__, defScope s_Program___init__, [], [("start", .non)]⟩
abbrev s__law_cell : Stmt := top 21
theorem sc__law_cell : FnScope ["_law_script", "_law_k", "_law_cell_here", "_law_number", "_law_total", "_law_step"] ["_law_script", "_law_k"] (defScope s__law_cell) := by
  refine ⟨rfl, rfl, rfl, ?_, rfl, ?_, ?_⟩ <;> decide +kernel
abbrev d__law_cell : He.DefD := ⟨("_law_cell", none), "_law_cell", "_law_cell", defArgs s__law_cell, defBody s__law_cell, defScope s__law_cell, [], []⟩
abbrev s__law_take : Stmt := top 22
theorem sc__law_take : FnScope ["_law_draw", "_law_size", "_law_taken"] ["_law_draw", "_law_size"] (defScope s__law_take) := by
  refine ⟨rfl, rfl, rfl, ?_, rfl, ?_, ?_⟩ <;> decide +kernel
abbrev d__law_take : He.DefD := ⟨("_law_take", none), "_law_take", "_law_take", defArgs s__law_take, defBody s__law_take, defScope s__law_take, [], []⟩
abbrev s__law_name : Stmt := top 23
theorem sc__law_name : FnScope ["_law_draw", "_law_used", "_law_letters", "_law_word", "_law_k", "_law_letter"] ["_law_draw", "_law_used"] (defScope s__law_name) := by
  refine ⟨rfl, rfl, rfl, ?_, rfl, ?_, ?_⟩ <;> decide +kernel
abbrev d__law_name : He.DefD := ⟨("_law_name", none), "_law_name", "_law_name", defArgs s__law_name, defBody s__law_name, defScope s__law_name, [], []⟩
abbrev s__law_rows : Stmt := top 24
theorem sc__law_rows : FnScope ["_law_draw", "_law_words", "_law_many", "_law_longest", "_law_rows_here", "_law_k", "_law_word", "_law_row_here", "_law_low", "_law_shift", "_law_way", "_law_found", "_law_j"] ["_law_draw", "_law_words", "_law_many", "_law_longest"] (defScope s__law_rows) := by
  refine ⟨rfl, rfl, rfl, ?_, rfl, ?_, ?_⟩ <;> decide +kernel
abbrev d__law_rows : He.DefD := ⟨("_law_rows", none), "_law_rows", "_law_rows", defArgs s__law_rows, defBody s__law_rows, defScope s__law_rows, [], []⟩
abbrev s__law_nexts : Stmt := top 26
theorem sc__law_nexts : FnScope ["_law_rows_here", "_law_table", "_law_row_here"] ["_law_rows_here"] (defScope s__law_nexts) := by
  refine ⟨rfl, rfl, rfl, ?_, rfl, ?_, ?_⟩ <;> decide +kernel
abbrev d__law_nexts : He.DefD := ⟨("_law_nexts", none), "_law_nexts", "_law_nexts", defArgs s__law_nexts, defBody s__law_nexts, defScope s__law_nexts, [], []⟩
abbrev s__law_bad_places : Stmt := top 28
theorem sc__law_bad_places : FnScope ["_law_draw", "_law_places", "_law_kind", "_law_at", "_law_more", "_law_word", "_law_bad"] ["_law_draw", "_law_places"] (defScope s__law_bad_places) := by
  refine ⟨rfl, rfl, rfl, ?_, rfl, ?_, ?_⟩ <;> decide +kernel
abbrev d__law_bad_places : He.DefD := ⟨("_law_bad_places", none), "_law_bad_places", "_law_bad_places", defArgs s__law_bad_places, defBody s__law_bad_places, defScope s__law_bad_places, [], []⟩
abbrev s__law_bad_nexts : Stmt := top 29
theorem sc__law_bad_nexts : FnScope ["_law_draw", "_law_table", "_law_words", "_law_kind", "_law_word", "_law_row_here", "_law_at", "_law_bad"] ["_law_draw", "_law_table", "_law_words"] (defScope s__law_bad_nexts) := by
  refine ⟨rfl, rfl, rfl, ?_, rfl, ?_, ?_⟩ <;> decide +kernel
abbrev d__law_bad_nexts : He.DefD := ⟨("_law_bad_nexts", none), "_law_bad_nexts", "_law_bad_nexts", defArgs s__law_bad_nexts, defBody s__law_bad_nexts, defScope s__law_bad_nexts, [], []⟩
abbrev s__law_made : Stmt := top 30
theorem sc__law_made : FnScope ["_law_places", "_law_table", "_law_begin", "_law_program_here", "_law_outcome", "e"] ["_law_places", "_law_table", "_law_begin"] (defScope s__law_made) := by
  refine ⟨rfl, rfl, rfl, ?_, rfl, ?_, ?_⟩ <;> decide +kernel
abbrev d__law_made : He.DefD := ⟨("_law_made", none), "_law_made", "_law_made", defArgs s__law_made, defBody s__law_made, defScope s__law_made, [], []⟩
abbrev s__law_copies : Stmt := top 31
theorem sc__law_copies : FnScope ["_law_value"] ["_law_value"] (defScope s__law_copies) := by
  refine ⟨rfl, rfl, rfl, ?_, rfl, ?_, ?_⟩ <;> decide +kernel
abbrev d__law_copies : He.DefD := ⟨("_law_copies", none), "_law_copies", "_law_copies", defArgs s__law_copies, defBody s__law_copies, defScope s__law_copies, [], []⟩
abbrev s_law : Stmt := top 32
theorem sc_law : FnScope ["_law_script", "_law_draw", "_law_spoils", "_law_rows_here", "_law_spoil", "_law_words", "_law_row_here", "_law_places", "_law_table", "_law_begin", "_law_due", "_law_kept", "_law_outcome"] ["_law_script"] (defScope s_law) := by
  refine ⟨rfl, rfl, rfl, ?_, rfl, ?_, ?_⟩ <;> decide +kernel
abbrev d_law : He.DefD := ⟨("law", none), "law", "law", defArgs s_law, defBody s_law, defScope s_law, [], []⟩
def fns : List He.DefD := [d_is_integer, d_is_within, d_is_name, d_has_equal_items, d_BadPlace___init__, d_BadProgram___init__, d_Place___init__, d_places_fit, d_nexts_fit, d_Program___init__, d__law_cell, d__law_take, d__law_name, d__law_rows, d__law_nexts, d__law_bad_places, d__law_bad_nexts, d__law_made, d__law_copies, d_law]
def gts : List He.DefD := []
def cks : List S.Ck := [
  (He.Fa.glo "is_integer").ok,
  (He.Fa.glo "is_within").ok,
  (He.Fa.glo "is_name").ok,
  (He.Fa.glo "has_equal_items").ok,
  (He.Fa.glo "places_fit").ok,
  (He.Fa.glo "nexts_fit").ok,
  (He.Fa.glo "_law_cell").ok,
  (He.Fa.glo "_law_take").ok,
  (He.Fa.glo "_law_name").ok,
  (He.Fa.glo "_law_rows").ok,
  (He.Fa.glo "_law_nexts").ok,
  (He.Fa.glo "_law_bad_places").ok,
  (He.Fa.glo "_law_bad_nexts").ok,
  (He.Fa.glo "_law_made").ok,
  (He.Fa.glo "_law_copies").ok,
  (He.Fa.glo "law").ok,
  (He.Fa.glo "SeenError").ok,
  (He.Fa.glo "BadPlace").ok,
  (He.Fa.glo "BadProgram").ok,
  (He.Fa.glo "Place").ok,
  (He.Fa.glo "Program").ok,
  (He.Fa.free "int").ok,
  (He.Fa.free "bool").ok,
  (He.Fa.free "str").ok,
  (He.Fa.free "list").ok,
  (He.Fa.free "tuple").ok,
  (He.Fa.free "dict").ok,
  (He.Fa.free "isinstance").ok,
  (He.Fa.free "len").ok,
  (He.Fa.free "range").ok,
  (He.Fa.str "LETTERS" "abcdefghijklmnopqrstuvwxyz").ok,
  (He.Fa.glo "KEPT_WORDS").ok,
  (fun K => He.tupB K "KEPT_WORDS" [.str "any", .str "closed", .str "end", .str "open", .str "to"]),
  (He.Fa.int "MOST_TICKS" 6).ok,
  (He.Fa.int "MOST_PLACES" 6).ok,
  (fun K => S.oexB K (He.ga K "BadPlace")),
  (fun K => He.eqO (PySem.W.findIn K (.ref (He.ga K "BadPlace")) "__init__") (some (some (.ref (He.ma K (He.ga K "BadPlace") "__init__"))))),
  (fun K => decide (PySem.W.typeIn K (.ref (He.ma K (He.ga K "BadPlace") "__init__")) = some (.type "function"))),
  (fun K => He.eqO (PySem.W.findIn K (.ref (He.ga K "BadPlace")) "why") (some none)),
  (fun K => S.oexB K (He.ga K "BadProgram")),
  (fun K => S.excB K (He.ga K "BadProgram")),
  (fun K => xfB K (He.ga K "BadProgram")),
  (fun K => He.eqO (PySem.W.findIn K (.ref (He.ga K "BadProgram")) "__init__") (some (some (.ref (He.ma K (He.ga K "BadProgram") "__init__"))))),
  (fun K => decide (PySem.W.typeIn K (.ref (He.ma K (He.ga K "BadProgram") "__init__")) = some (.type "function"))),
  (fun K => He.eqO (PySem.W.findIn K (.ref (He.ga K "BadProgram")) "why") (some none)),
  (fun K => decide (PySem.W.kitOne K (.ref (He.ga K "BadProgram")) (.ref (He.ga K "SeenError")) = some true)),
  (fun K => decide (PySem.W.kitOne K (.ref (He.ga K "BadProgram")) (.ref (He.ga K "BadPlace")) = some false)),
  (He.Fa.exm "BadProgram" "BadProgram" true).ok,
  (He.Fa.cls "Place").ok,
  (He.Fa.mkr "Place").ok,
  (He.Fa.noat "Place" "name").ok,
  (He.Fa.noat "Place" "least").ok,
  (He.Fa.noat "Place" "most").ok,
  (He.Fa.noat "Place" "let").ok,
  (fun K => S.insB K (He.ga K "Place")),
  (fun K => decide (PySem.W.kitOne K (.ref (He.ga K "Place")) (.ref (He.ga K "Place")) = some true)),
  (fun K => decide (PySem.W.kitOne K (.type "int") (.ref (He.ga K "Place")) = some false)),
  (fun K => decide (PySem.W.kitOne K (.type "bool") (.ref (He.ga K "Place")) = some false)),
  (fun K => decide (PySem.W.kitOne K (.type "str") (.ref (He.ga K "Place")) = some false)),
  (fun K => decide (PySem.W.kitOne K (.type "list") (.ref (He.ga K "Place")) = some false)),
  (fun K => decide (PySem.W.kitOne K (.type "tuple") (.ref (He.ga K "Place")) = some false)),
  (fun K => decide (PySem.W.kitOne K (.type "dict") (.ref (He.ga K "Place")) = some false)),
  (fun K => decide (PySem.W.kitOne K (.type "NoneType") (.ref (He.ga K "Place")) = some false)),
  (He.Fa.cls "Program").ok,
  (He.Fa.mkr "Program").ok,
  (He.Fa.noat "Program" "places").ok,
  (He.Fa.noat "Program" "names").ok,
  (He.Fa.noat "Program" "start").ok,
  (He.Fa.noat "Program" "links").ok]
structure Txt (K : S.Frag) (mg : Str → Option Value) : Prop where
  F_is_integer : S.FunA K d_is_integer
  F_is_within : S.FunA K d_is_within
  F_is_name : S.FunA K d_is_name
  F_has_equal_items : S.FunA K d_has_equal_items
  F_BadPlace___init__ : S.FunA K d_BadPlace___init__
  F_BadProgram___init__ : S.FunA K d_BadProgram___init__
  F_Place___init__ : S.FunA K d_Place___init__
  F_places_fit : S.FunA K d_places_fit
  F_nexts_fit : S.FunA K d_nexts_fit
  F_Program___init__ : S.FunA K d_Program___init__
  F__law_cell : S.FunA K d__law_cell
  F__law_take : S.FunA K d__law_take
  F__law_name : S.FunA K d__law_name
  F__law_rows : S.FunA K d__law_rows
  F__law_nexts : S.FunA K d__law_nexts
  F__law_bad_places : S.FunA K d__law_bad_places
  F__law_bad_nexts : S.FunA K d__law_bad_nexts
  F__law_made : S.FunA K d__law_made
  F__law_copies : S.FunA K d__law_copies
  F_law : S.FunA K d_law
  g_is_integer : mg "is_integer" = some (.ref (He.ga K "is_integer"))
  g_is_within : mg "is_within" = some (.ref (He.ga K "is_within"))
  g_is_name : mg "is_name" = some (.ref (He.ga K "is_name"))
  g_has_equal_items : mg "has_equal_items" = some (.ref (He.ga K "has_equal_items"))
  g_places_fit : mg "places_fit" = some (.ref (He.ga K "places_fit"))
  g_nexts_fit : mg "nexts_fit" = some (.ref (He.ga K "nexts_fit"))
  g__law_cell : mg "_law_cell" = some (.ref (He.ga K "_law_cell"))
  g__law_take : mg "_law_take" = some (.ref (He.ga K "_law_take"))
  g__law_name : mg "_law_name" = some (.ref (He.ga K "_law_name"))
  g__law_rows : mg "_law_rows" = some (.ref (He.ga K "_law_rows"))
  g__law_nexts : mg "_law_nexts" = some (.ref (He.ga K "_law_nexts"))
  g__law_bad_places : mg "_law_bad_places" = some (.ref (He.ga K "_law_bad_places"))
  g__law_bad_nexts : mg "_law_bad_nexts" = some (.ref (He.ga K "_law_bad_nexts"))
  g__law_made : mg "_law_made" = some (.ref (He.ga K "_law_made"))
  g__law_copies : mg "_law_copies" = some (.ref (He.ga K "_law_copies"))
  g_law : mg "law" = some (.ref (He.ga K "law"))
  g_SeenError : mg "SeenError" = some (.ref (He.ga K "SeenError"))
  g_BadPlace : mg "BadPlace" = some (.ref (He.ga K "BadPlace"))
  g_BadProgram : mg "BadProgram" = some (.ref (He.ga K "BadProgram"))
  g_Place : mg "Place" = some (.ref (He.ga K "Place"))
  g_Program : mg "Program" = some (.ref (He.ga K "Program"))
  n_int : mg "int" = none
  n_bool : mg "bool" = none
  n_str : mg "str" = none
  n_list : mg "list" = none
  n_tuple : mg "tuple" = none
  n_dict : mg "dict" = none
  n_isinstance : mg "isinstance" = none
  n_len : mg "len" = none
  n_range : mg "range" = none
  c_LETTERS : ∃ t, mg "LETTERS" = some (.str "abcdefghijklmnopqrstuvwxyz" t)
  g_KEPT_WORDS : mg "KEPT_WORDS" = some (.ref (He.ga K "KEPT_WORDS"))
  t_KEPT_WORDS : ∀ H : Hp, SqT K H (He.ga K "KEPT_WORDS") [V.str "any", V.str "closed", V.str "end", V.str "open", V.str "to"]
  c_MOST_TICKS : ∃ t, mg "MOST_TICKS" = some (.int 6 t)
  c_MOST_PLACES : ∃ t, mg "MOST_PLACES" = some (.int 6 t)
  ox_BadPlace : OexC K (He.ga K "BadPlace")
  xi_BadPlace : PySem.W.findIn K (.ref (He.ga K "BadPlace")) "__init__" = some (some (.ref (He.ma K (He.ga K "BadPlace") "__init__")))
  xt_BadPlace : PySem.W.typeIn K (.ref (He.ma K (He.ga K "BadPlace") "__init__")) = some (.type "function")
  xn_BadPlace_why : PySem.W.findIn K (.ref (He.ga K "BadPlace")) "why" = some none
  ox_BadProgram : OexC K (He.ga K "BadProgram")
  xc_BadProgram : ExcC K (He.ga K "BadProgram")
  xf_BadProgram : XfC K (He.ga K "BadProgram")
  xi_BadProgram : PySem.W.findIn K (.ref (He.ga K "BadProgram")) "__init__" = some (some (.ref (He.ma K (He.ga K "BadProgram") "__init__")))
  xt_BadProgram : PySem.W.typeIn K (.ref (He.ma K (He.ga K "BadProgram") "__init__")) = some (.type "function")
  xn_BadProgram_why : PySem.W.findIn K (.ref (He.ga K "BadProgram")) "why" = some none
  xk_BadProgram_SeenError : PySem.W.kitOne K (.ref (He.ga K "BadProgram")) (.ref (He.ga K "SeenError")) = some true
  xk_BadProgram_BadPlace : PySem.W.kitOne K (.ref (He.ga K "BadProgram")) (.ref (He.ga K "BadPlace")) = some false
  xm_BadProgram_BadProgram : PySem.W.exmOne K (.ref (He.ga K "BadProgram")) (.ref (He.ga K "BadProgram")) = some true
  cl_Place : Cls K (He.ga K "Place")
  mk_Place : Mk K (He.ga K "Place") (He.ma K (He.ga K "Place") "__init__")
  na_Place_name : NoAttr K (He.ga K "Place") "name"
  na_Place_least : NoAttr K (He.ga K "Place") "least"
  na_Place_most : NoAttr K (He.ga K "Place") "most"
  na_Place_let : NoAttr K (He.ga K "Place") "let"
  is_Place : S.InsT K (He.ga K "Place")
  ko_Place_Place : PySem.W.kitOne K (.ref (He.ga K "Place")) (.ref (He.ga K "Place")) = some true
  kb_Place_int : PySem.W.kitOne K (.type "int") (.ref (He.ga K "Place")) = some false
  kb_Place_bool : PySem.W.kitOne K (.type "bool") (.ref (He.ga K "Place")) = some false
  kb_Place_str : PySem.W.kitOne K (.type "str") (.ref (He.ga K "Place")) = some false
  kb_Place_list : PySem.W.kitOne K (.type "list") (.ref (He.ga K "Place")) = some false
  kb_Place_tuple : PySem.W.kitOne K (.type "tuple") (.ref (He.ga K "Place")) = some false
  kb_Place_dict : PySem.W.kitOne K (.type "dict") (.ref (He.ga K "Place")) = some false
  kb_Place_NoneType : PySem.W.kitOne K (.type "NoneType") (.ref (He.ga K "Place")) = some false
  cl_Program : Cls K (He.ga K "Program")
  mk_Program : Mk K (He.ga K "Program") (He.ma K (He.ga K "Program") "__init__")
  na_Program_places : NoAttr K (He.ga K "Program") "places"
  na_Program_names : NoAttr K (He.ga K "Program") "names"
  na_Program_start : NoAttr K (He.ga K "Program") "start"
  na_Program_links : NoAttr K (He.ga K "Program") "links"
theorem txt_of {K : S.Frag} {h : Heap} {mg : Str → Option Value} (X : K.In h) (G : h.Ns mainGlobals mg) (c : S.SaysX cks fns gts K) : Txt K mg where
  F_is_integer := c.def_ 0
  F_is_within := c.def_ 1
  F_is_name := c.def_ 2
  F_has_equal_items := c.def_ 3
  F_BadPlace___init__ := c.def_ 4
  F_BadProgram___init__ := c.def_ 5
  F_Place___init__ := c.def_ 6
  F_places_fit := c.def_ 7
  F_nexts_fit := c.def_ 8
  F_Program___init__ := c.def_ 9
  F__law_cell := c.def_ 10
  F__law_take := c.def_ 11
  F__law_name := c.def_ 12
  F__law_rows := c.def_ 13
  F__law_nexts := c.def_ 14
  F__law_bad_places := c.def_ 15
  F__law_bad_nexts := c.def_ 16
  F__law_made := c.def_ 17
  F__law_copies := c.def_ 18
  F_law := c.def_ 19
  g_is_integer := He.glo_ok X G (c.fact 0)
  g_is_within := He.glo_ok X G (c.fact 1)
  g_is_name := He.glo_ok X G (c.fact 2)
  g_has_equal_items := He.glo_ok X G (c.fact 3)
  g_places_fit := He.glo_ok X G (c.fact 4)
  g_nexts_fit := He.glo_ok X G (c.fact 5)
  g__law_cell := He.glo_ok X G (c.fact 6)
  g__law_take := He.glo_ok X G (c.fact 7)
  g__law_name := He.glo_ok X G (c.fact 8)
  g__law_rows := He.glo_ok X G (c.fact 9)
  g__law_nexts := He.glo_ok X G (c.fact 10)
  g__law_bad_places := He.glo_ok X G (c.fact 11)
  g__law_bad_nexts := He.glo_ok X G (c.fact 12)
  g__law_made := He.glo_ok X G (c.fact 13)
  g__law_copies := He.glo_ok X G (c.fact 14)
  g_law := He.glo_ok X G (c.fact 15)
  g_SeenError := He.glo_ok X G (c.fact 16)
  g_BadPlace := He.glo_ok X G (c.fact 17)
  g_BadProgram := He.glo_ok X G (c.fact 18)
  g_Place := He.glo_ok X G (c.fact 19)
  g_Program := He.glo_ok X G (c.fact 20)
  n_int := He.free_ok X G (c.fact 21)
  n_bool := He.free_ok X G (c.fact 22)
  n_str := He.free_ok X G (c.fact 23)
  n_list := He.free_ok X G (c.fact 24)
  n_tuple := He.free_ok X G (c.fact 25)
  n_dict := He.free_ok X G (c.fact 26)
  n_isinstance := He.free_ok X G (c.fact 27)
  n_len := He.free_ok X G (c.fact 28)
  n_range := He.free_ok X G (c.fact 29)
  c_LETTERS := He.str_ok X G (c.fact 30)
  g_KEPT_WORDS := He.glo_ok X G (c.fact 31)
  t_KEPT_WORDS := He.tupB_ok (c.fact 32)
  c_MOST_TICKS := He.int_ok X G (c.fact 33)
  c_MOST_PLACES := He.int_ok X G (c.fact 34)
  ox_BadPlace := S.oexB_ok (c.fact 35)
  xi_BadPlace := He.eqO_ok (c.fact 36)
  xt_BadPlace := of_decide_eq_true (c.fact 37)
  xn_BadPlace_why := He.eqO_ok (c.fact 38)
  ox_BadProgram := S.oexB_ok (c.fact 39)
  xc_BadProgram := S.excB_ok (c.fact 40)
  xf_BadProgram := xfB_ok (c.fact 41)
  xi_BadProgram := He.eqO_ok (c.fact 42)
  xt_BadProgram := of_decide_eq_true (c.fact 43)
  xn_BadProgram_why := He.eqO_ok (c.fact 44)
  xk_BadProgram_SeenError := of_decide_eq_true (c.fact 45)
  xk_BadProgram_BadPlace := of_decide_eq_true (c.fact 46)
  xm_BadProgram_BadProgram := He.exm_ok (c.fact 47)
  cl_Place := He.cls_ok (c.fact 48)
  mk_Place := He.mkr_ok (c.fact 49)
  na_Place_name := He.noat_ok (c.fact 50)
  na_Place_least := He.noat_ok (c.fact 51)
  na_Place_most := He.noat_ok (c.fact 52)
  na_Place_let := He.noat_ok (c.fact 53)
  is_Place := S.insB_ok (c.fact 54)
  ko_Place_Place := of_decide_eq_true (c.fact 55)
  kb_Place_int := of_decide_eq_true (c.fact 56)
  kb_Place_bool := of_decide_eq_true (c.fact 57)
  kb_Place_str := of_decide_eq_true (c.fact 58)
  kb_Place_list := of_decide_eq_true (c.fact 59)
  kb_Place_tuple := of_decide_eq_true (c.fact 60)
  kb_Place_dict := of_decide_eq_true (c.fact 61)
  kb_Place_NoneType := of_decide_eq_true (c.fact 62)
  cl_Program := He.cls_ok (c.fact 63)
  mk_Program := He.mkr_ok (c.fact 64)
  na_Program_places := He.noat_ok (c.fact 65)
  na_Program_names := He.noat_ok (c.fact 66)
  na_Program_start := He.noat_ok (c.fact 67)
  na_Program_links := He.noat_ok (c.fact 68)
theorem kb_is_integer_1 {K : S.Frag} {mg : Str → Option Value} (T : Txt K mg) : KBn K (S.fdA K ("is_integer", none)) ["value"] 1 [] (fun us _ => us ++ []) (fun vs _ => vs ++ []) :=
  S.kb_of_binds (T.F_is_integer.bindsN fun _ _ _ _ _ _ us hl => match us, hl with | [_], _ => rfl) .nil rfl
theorem kb_is_name_1 {K : S.Frag} {mg : Str → Option Value} (T : Txt K mg) : KBn K (S.fdA K ("is_name", none)) ["value"] 1 [] (fun us _ => us ++ []) (fun vs _ => vs ++ []) :=
  S.kb_of_binds (T.F_is_name.bindsN fun _ _ _ _ _ _ us hl => match us, hl with | [_], _ => rfl) .nil rfl
theorem kb_BadPlace___init___2 {K : S.Frag} {mg : Str → Option Value} (T : Txt K mg) : KBn K (S.fdA K ("BadPlace", some "__init__")) ["self", "why"] 2 [] (fun us _ => us ++ []) (fun vs _ => vs ++ []) :=
  S.kb_of_binds (T.F_BadPlace___init__.bindsN fun _ _ _ _ _ _ us hl => match us, hl with | [_, _], _ => rfl) .nil rfl
theorem kb_is_within_3 {K : S.Frag} {mg : Str → Option Value} (T : Txt K mg) : KBn K (S.fdA K ("is_within", none)) ["value", "low", "high"] 3 [] (fun us _ => us ++ []) (fun vs _ => vs ++ []) :=
  S.kb_of_binds (T.F_is_within.bindsN fun _ _ _ _ _ _ us hl => match us, hl with | [_, _, _], _ => rfl) .nil rfl
theorem kb_has_equal_items_1 {K : S.Frag} {mg : Str → Option Value} (T : Txt K mg) : KBn K (S.fdA K ("has_equal_items", none)) ["items"] 1 [] (fun us _ => us ++ []) (fun vs _ => vs ++ []) :=
  S.kb_of_binds (T.F_has_equal_items.bindsN fun _ _ _ _ _ _ us hl => match us, hl with | [_], _ => rfl) .nil rfl
theorem kb_places_fit_1 {K : S.Frag} {mg : Str → Option Value} (T : Txt K mg) : KBn K (S.fdA K ("places_fit", none)) ["places"] 1 [] (fun us _ => us ++ []) (fun vs _ => vs ++ []) :=
  S.kb_of_binds (T.F_places_fit.bindsN fun _ _ _ _ _ _ us hl => match us, hl with | [_], _ => rfl) .nil rfl
theorem kb_BadProgram___init___2 {K : S.Frag} {mg : Str → Option Value} (T : Txt K mg) : KBn K (S.fdA K ("BadProgram", some "__init__")) ["self", "why"] 2 [] (fun us _ => us ++ []) (fun vs _ => vs ++ []) :=
  S.kb_of_binds (T.F_BadProgram___init__.bindsN fun _ _ _ _ _ _ us hl => match us, hl with | [_, _], _ => rfl) .nil rfl
theorem kb_nexts_fit_2 {K : S.Frag} {mg : Str → Option Value} (T : Txt K mg) : KBn K (S.fdA K ("nexts_fit", none)) ["names", "nexts"] 2 [] (fun us _ => us ++ []) (fun vs _ => vs ++ []) :=
  S.kb_of_binds (T.F_nexts_fit.bindsN fun _ _ _ _ _ _ us hl => match us, hl with | [_, _], _ => rfl) .nil rfl
theorem kb__law_take_2 {K : S.Frag} {mg : Str → Option Value} (T : Txt K mg) : KBn K (S.fdA K ("_law_take", none)) ["_law_draw", "_law_size"] 2 [] (fun us _ => us ++ []) (fun vs _ => vs ++ []) :=
  S.kb_of_binds (T.F__law_take.bindsN fun _ _ _ _ _ _ us hl => match us, hl with | [_, _], _ => rfl) .nil rfl
theorem kb__law_name_2 {K : S.Frag} {mg : Str → Option Value} (T : Txt K mg) : KBn K (S.fdA K ("_law_name", none)) ["_law_draw", "_law_used"] 2 [] (fun us _ => us ++ []) (fun vs _ => vs ++ []) :=
  S.kb_of_binds (T.F__law_name.bindsN fun _ _ _ _ _ _ us hl => match us, hl with | [_, _], _ => rfl) .nil rfl
theorem kb_Place___init___2 {K : S.Frag} {mg : Str → Option Value} (T : Txt K mg) : ∃ g, KBn K (S.fdA K ("Place", some "__init__")) ["self", "name", "least", "most", "let"] 2 [] g (fun vs zs => vs ++ (([V.int 1, V.non] : List V).drop 0) ++ ((([V.bl true] : List V).drop 0).take 1)) := by
  obtain ⟨_, _, h⟩ := T.F_Place___init__.kbinds (ps := ["self", "name", "least", "most", "let"]) 2 [] [("let", V.bl true)] (fun us its mv ws => us ++ (its.drop 0) ++ ((mv.drop 0).take 1)) (List.cons_ne_nil _ _) (List.cons_ne_nil _ _) (by simp [He.DefD.kws, He.Dv.v]) (fun a b c d => ((a.append (b.drop 0)).append ((c.drop 0).take 1)))
    (fun _ _ _ _ _ _ _ us its mv ws l1 l2 l3 l4 => match us, its, mv, ws, l1, l2, l3, l4 with | [_, _], [_, _], [_], [], _, _, _, _ => ⟨_, rfl, ⟨_, _, _, _, _, _, rfl, rfl, rfl⟩⟩)
  exact ⟨_, h⟩
theorem kb_Place___init___4 {K : S.Frag} {mg : Str → Option Value} (T : Txt K mg) : ∃ g, KBn K (S.fdA K ("Place", some "__init__")) ["self", "name", "least", "most", "let"] 4 [] g (fun vs zs => vs ++ ((([V.bl true] : List V).drop 0).take 1)) := by
  obtain ⟨_, _, h⟩ := T.F_Place___init__.kbinds (ps := ["self", "name", "least", "most", "let"]) 4 [] [("let", V.bl true)] (fun us its mv ws => us ++ ((mv.drop 0).take 1)) (List.cons_ne_nil _ _) (List.cons_ne_nil _ _) (by simp [He.DefD.kws, He.Dv.v]) (fun a b c d => (a.append ((c.drop 0).take 1)))
    (fun _ _ _ _ _ _ _ us its mv ws l1 l2 l3 l4 => match us, its, mv, ws, l1, l2, l3, l4 with | [_, _, _, _], [_, _], [_], [], _, _, _, _ => ⟨_, rfl, ⟨_, _, _, _, _, _, rfl, rfl, rfl⟩⟩)
  exact ⟨_, h⟩
theorem kb_Program___init___3_start {K : S.Frag} {mg : Str → Option Value} (T : Txt K mg) : ∃ g, KBn K (S.fdA K ("Program", some "__init__")) ["self", "places", "nexts", "start"] 3 ["start"] g (fun vs zs => vs ++ ((zs.drop 0).take 1)) := by
  obtain ⟨_, h⟩ := S.kbinds0 (ps := ["self", "places", "nexts", "start"]) T.F_Program___init__ 3 ["start"] [] (fun us mv ws => us ++ ((ws.drop 0).take 1)) (List.cons_ne_nil _ _) (by simp [He.DefD.kws, He.Dv.v]) (fun a c d => (a.append ((d.drop 0).take 1)))
    (fun _ _ _ _ _ _ us mv ws l1 l3 l4 => match us, mv, ws, l1, l3, l4 with | [_, _, _], [], [_], _, _, _ => rfl)
  exact ⟨_, h⟩
theorem kb__law_cell_2 {K : S.Frag} {mg : Str → Option Value} (T : Txt K mg) : KBn K (S.fdA K ("_law_cell", none)) ["_law_script", "_law_k"] 2 [] (fun us _ => us ++ []) (fun vs _ => vs ++ []) :=
  S.kb_of_binds (T.F__law_cell.bindsN fun _ _ _ _ _ _ us hl => match us, hl with | [_, _], _ => rfl) .nil rfl
theorem kb__law_rows_4 {K : S.Frag} {mg : Str → Option Value} (T : Txt K mg) : KBn K (S.fdA K ("_law_rows", none)) ["_law_draw", "_law_words", "_law_many", "_law_longest"] 4 [] (fun us _ => us ++ []) (fun vs _ => vs ++ []) :=
  S.kb_of_binds (T.F__law_rows.bindsN fun _ _ _ _ _ _ us hl => match us, hl with | [_, _, _, _], _ => rfl) .nil rfl
theorem kb_Place___init___4_let {K : S.Frag} {mg : Str → Option Value} (T : Txt K mg) : ∃ g, KBn K (S.fdA K ("Place", some "__init__")) ["self", "name", "least", "most", "let"] 4 ["let"] g (fun vs zs => vs ++ ((zs.drop 0).take 1)) := by
  obtain ⟨_, _, h⟩ := T.F_Place___init__.kbinds (ps := ["self", "name", "least", "most", "let"]) 4 ["let"] [] (fun us its mv ws => us ++ ((ws.drop 0).take 1)) (List.cons_ne_nil _ _) (List.cons_ne_nil _ _) (by simp [He.DefD.kws, He.Dv.v]) (fun a b c d => (a.append ((d.drop 0).take 1)))
    (fun _ _ _ _ _ _ _ us its mv ws l1 l2 l3 l4 => match us, its, mv, ws, l1, l2, l3, l4 with | [_, _, _, _], [_, _], [], [_], _, _, _, _ => ⟨_, rfl, rfl⟩)
  exact ⟨_, h⟩
theorem kb__law_nexts_1 {K : S.Frag} {mg : Str → Option Value} (T : Txt K mg) : KBn K (S.fdA K ("_law_nexts", none)) ["_law_rows_here"] 1 [] (fun us _ => us ++ []) (fun vs _ => vs ++ []) :=
  S.kb_of_binds (T.F__law_nexts.bindsN fun _ _ _ _ _ _ us hl => match us, hl with | [_], _ => rfl) .nil rfl
theorem kb__law_bad_nexts_3 {K : S.Frag} {mg : Str → Option Value} (T : Txt K mg) : KBn K (S.fdA K ("_law_bad_nexts", none)) ["_law_draw", "_law_table", "_law_words"] 3 [] (fun us _ => us ++ []) (fun vs _ => vs ++ []) :=
  S.kb_of_binds (T.F__law_bad_nexts.bindsN fun _ _ _ _ _ _ us hl => match us, hl with | [_, _, _], _ => rfl) .nil rfl
theorem kb__law_bad_places_2 {K : S.Frag} {mg : Str → Option Value} (T : Txt K mg) : KBn K (S.fdA K ("_law_bad_places", none)) ["_law_draw", "_law_places"] 2 [] (fun us _ => us ++ []) (fun vs _ => vs ++ []) :=
  S.kb_of_binds (T.F__law_bad_places.bindsN fun _ _ _ _ _ _ us hl => match us, hl with | [_, _], _ => rfl) .nil rfl
theorem kb__law_copies_1 {K : S.Frag} {mg : Str → Option Value} (T : Txt K mg) : KBn K (S.fdA K ("_law_copies", none)) ["_law_value"] 1 [] (fun us _ => us ++ []) (fun vs _ => vs ++ []) :=
  S.kb_of_binds (T.F__law_copies.bindsN fun _ _ _ _ _ _ us hl => match us, hl with | [_], _ => rfl) .nil rfl
theorem kb__law_made_3 {K : S.Frag} {mg : Str → Option Value} (T : Txt K mg) : KBn K (S.fdA K ("_law_made", none)) ["_law_places", "_law_table", "_law_begin"] 3 [] (fun us _ => us ++ []) (fun vs _ => vs ++ []) :=
  S.kb_of_binds (T.F__law_made.bindsN fun _ _ _ _ _ _ us hl => match us, hl with | [_, _, _], _ => rfl) .nil rfl
end W

namespace W
open PySem PySem.W PySem.Calls PyProof.Rows
/-! the head: its run in four looks; the facts over all that the top made -/
abbrev R : PySem.W.OpenRow := PySem.W.OpenLaw.row PySem.Challenge.rw_seenshares_k07_program_refusals
def obR (g : Addr → Option Obj) : He.AlD := S.obsX cks fns gts (He.frG g (List.range 2500))
def hk : PySem.W.Hook where
  α := He.AlD
  obs := fun s => obR s.heap.get?
  val := fun _ => S.valX fns gts
  says := fun _ h => ∃ K : S.Frag, K.In h ∧ S.SaysX cks fns gts K
  of := fun _ _ e => ⟨_, He.frG_in, e⟩
  keeps := fun _ _ _ ⟨K, hK, c⟩ k => ⟨K, PySem.W.Frag.In.keeps hK k, c⟩
def ob (s : PySem.W.SharedT) : He.AlD := obR (HandSHeadRun.getT s)
theorem ob_eq (s : PySem.W.SharedT) : ob s = hk.obs s.abs := by
  have e : HandSHeadRun.getT s = s.abs.heap.get? := funext (HandSHeadRun.getT_eq s)
  unfold ob
  rw [e]
  rfl
def lo0 : List PySem.Str := ["_wall", "LETTERS", "KEPT_WORDS", "is_integer", "is_within", "is_name", "has_equal_items", "SeenError", "BadPlace", "BadProgram", "NoPlace", "MOST_TICKS", "MOST_PLACES", "Place", "places_fit", "nexts_fit", "Program", "_law_cell", "_law_take", "_law_name", "_law_rows", "_law_row", "_law_nexts", "_law_program", "_law_bad_places", "_law_bad_nexts", "_law_made", "_law_copies"]
def lo : List PySem.Str := lo0
noncomputable abbrev endS (w : World) (os : OsState) : Option PySem.W.SharedT := HandSHeadRun.endF (HandSHeadRun.stepQ (HandSHeadRun.denQ HandSHeadRun.tabQ) R.prog w) 9000 R.prog w os
theorem map4 {α β γ δ ε : Type} {x : Option α} {f : α → β} {g : α → γ} {h : α → δ × ε} {a : β} {b : γ} {c : δ × ε} (e1 : x.map f = some a) (e2 : x.map g = some b) (e3 : x.map (fun s => (h s).1) = some c.1) (e4 : x.map (fun s => (h s).2) = some c.2) : x.map (fun s => (f s, g s, h s)) = some (a, b, c) := by
  cases x with
  | none => cases e1
  | some s =>
    injection e1 with e1
    injection e2 with e2
    injection e3 with e3
    injection e4 with e4
    show some (f s, g s, h s) = _
    rw [e1, e2, show h s = c from Prod.ext e3 e4]
set_option maxHeartbeats 0 in
theorem run1 (w : World) (os : OsState) : (endS w os).map (fun s => HandSHeadRun.looksF R.prog (boot_heap w.params) s.abs) = some true := by
  kernel_rfl
set_option maxHeartbeats 0 in
theorem run2 (w : World) (os : OsState) : (endS w os).map (fun s => HandSHeadRun.seenQ (PySem.W.view R.prog [32]) lo (importedModules R.prog.main.body) (fun s => xlAt (PySem.W.view R.prog [32]) [] s && recOk R.toRowW.records s) s.abs) = some (openGood (PySem.W.view R.prog [32]) lo) := by
  kernel_rfl
set_option maxHeartbeats 0 in
theorem run3 (w : World) (os : OsState) : (endS w os).map (fun s => (ob s).1) = some true := by
  kernel_rfl
set_option maxHeartbeats 0 in
theorem run4 (w : World) (os : OsState) : (endS w os).map (fun s => (ob s).2) = some (S.valX fns gts).2 := by
  kernel_rfl
theorem run (w : World) : HandSHeadRun.RunEq R (PySem.W.view R.prog [32]) hk ob 9000 lo w := fun os => map4 (run1 w os) (run2 w os) (run3 w os) (run4 w os)
end W

namespace W
open PySem PySem.Spec PyProof.Rows L2
section
variable {P : Program} {w : World} {K : S.Frag} {mg : Str → Option Value} {base : Heap}
open S
theorem isi_true {H : Hp} {i : Int} : TyX K H (.int i) (.type "int") := .base (.int i)
def sp_isint (K : S.Frag) : Sp := Sp1 fun x H Q _ => ∃ b, IsI K H x b ∧ Q (.bl b) H
theorem ok_is_integer (T : Txt K mg) : FnOk P w K mg base (L2.CX P w) 1 (He.fAd K ("is_integer", none)) (S.fdA K ("is_integer", none)) ["value"] (sp_isint K) := by
  refine FunD.ok T.F_is_integer sc_is_integer (fun vs H Q E h => S.splen1 h) (fun cdv A outer s H vs Q E hr h => ?_)
  have hu := hu_of hr
  refine ⟨_, (pss_one (ps_ret (pe_and (pe_callB (S.isiK (K := K) rfl) rfl T.n_isinstance S.boot_isinstance (pa_cons (pv 0) (pa_cons (pe_bltn (v := .ty "int") rfl T.n_int S.boot_int rfl) pa_nil))) (pe_one (pe_not (pe_callB (S.isiK (K := K) rfl) rfl T.n_isinstance S.boot_isinstance (pa_cons (pv 0) (pa_cons (pe_bltn (v := .ty "bool") rfl T.n_bool S.boot_bool rfl) pa_nil)))))))), ?_⟩
  obtain ⟨x, rfl, b, hb, q⟩ := h
  cases hb with
  | int i => exact ⟨_, rfl, _, _, _, _, true, rfl, .ty _, isi_true, kit_ty (by decide +kernel), _, rfl, _, rfl, _, _, _, _, false, rfl, .ty _, isi_true, kit_ty (by decide +kernel), _, rfl, q⟩
  | bl b => exact ⟨_, rfl, _, _, _, _, true, rfl, .ty _, .base (.bl b), kit_ty (by decide +kernel), _, rfl, _, rfl, _, _, _, _, true, rfl, .ty _, .base (.bl b), kit_ty (by decide +kernel), _, rfl, q⟩
  | oth h e => exact ⟨_, rfl, _, _, _, _, false, rfl, .ty _, h, e, _, rfl, q⟩
/-- x is an integer from a to c, or not, as b says -/
def Win (K : S.Frag) (H : Hp) (x : V) (a c : Int) (b : Bool) : Prop := (∃ i, x = .int i ∧ b = (decide (a ≤ i) && decide (i ≤ c))) ∨ (IsI K H x false ∧ b = false)
def sp_within (K : S.Frag) : Sp := Sp3 fun x lo hi H Q _ => ∃ a c b, lo = .int a ∧ hi = .int c ∧ Win K H x a c b ∧ Q (.bl b) H
theorem ok_is_within (T : Txt K mg) : FnOk P w K mg base (L2.CX P w) 2 (He.fAd K ("is_within", none)) (S.fdA K ("is_within", none)) ["value", "low", "high"] (sp_within K) := by
  have G_is_integer := ok_is_integer (P := P) (w := w) (base := base) T
  refine FunD.ok T.F_is_within sc_is_within (fun vs H Q E h => S.splen3 h) (fun cdv A outer s H vs Q E hr h => ?_)
  have hu := hu_of hr
  refine ⟨_, (pss_one (ps_ret (pe_and (S.pe_fnS G_is_integer (hr.mono (by decide)) rfl T.g_is_integer T.F_is_integer.kp (kb_is_integer_1 T) S.pas0 (pa_cons (pv 0) pa_nil) pk_nil rfl rfl) (pe_one (pe_chain op_le op_le (pv 1) (pv 0) (pv 2)))))), ?_⟩
  obtain ⟨x, _, _, rfl, a, c, b, rfl, rfl, h, q⟩ := h
  rcases h with ⟨i, rfl, rfl⟩ | ⟨hb, rfl⟩
  · refine ⟨_, rfl, rfl, rfl, _, rfl, true, .int i, _, rfl, _, rfl, _, rfl, _, _, rfl, rfl, _, rfl, ?_⟩
    by_cases e : a ≤ i
    · rw [if_pos (decide_eq_true e)]
      refine ⟨_, rfl, _, _, rfl, rfl, ?_⟩
      simpa [e] using q
    · rw [if_neg (by simpa using e)]
      simpa [e] using q
  · exact ⟨_, rfl, rfl, rfl, _, rfl, false, hb, _, rfl, q⟩
end
end W

namespace W
open PySem PySem.Spec PyProof.Rows L2
section
variable {P : Program} {w : World} {K : S.Frag} {mg : Str → Option Value} {base : Heap}
open S
/-- the values that the law hands about -/
inductive Od (H : Hp) : V → Prop where
  | int (i : Int) : Od H (.int i)
  | non : Od H .non
  | bl (b : Bool) : Od H (.bl b)
  | str (z : Str) : Od H (.str z)
  | tup {a : Addr} {xs : List V} (h : H a = some (.tup xs)) : Od H (.ref a)
  | lst {a : Addr} {xs : List V} (h : H a = some (.lst xs)) : Od H (.ref a)
  | dK {a : Addr} {xs : List (Key × V)} (h : H a = some (.dK xs)) : Od H (.ref a)
theorem Od.mono {H H' : Hp} {x : V} (h : Od H x) (s : Same H H') : Od H' x := by
  cases h with
  | int i => exact .int i
  | non => exact .non
  | bl b => exact .bl b
  | str z => exact .str z
  | tup h => exact .tup (s _ _ h)
  | lst h => exact .lst (s _ _ h)
  | dK h => exact .dK (s _ _ h)
def isInt : V → Bool
  | .int _ => true
  | _ => false
theorem Od.isi {H : Hp} {x : V} (h : Od H x) : IsI K H x (isInt x) := by
  cases h with
  | int i => exact .int i
  | non => exact .oth (.base .non) (kit_ty (by decide +kernel))
  | bl b => exact .bl b
  | str z => exact .oth (.base (.str z)) (kit_ty (by decide +kernel))
  | tup h => exact .oth (.base (.tup h)) (kit_ty (by decide +kernel))
  | lst h => exact .oth (.base (.lst h)) (kit_ty (by decide +kernel))
  | dK h => exact .oth (.base (.dK h)) (kit_ty (by decide +kernel))
/-- an integer from a to b -/
def inR (a b : Int) : V → Bool
  | .int i => decide (a ≤ i) && decide (i ≤ b)
  | _ => false
theorem Od.within {H : Hp} {x : V} {a b : Int} (h : Od H x) : Win K H x a b (inR a b x) := by
  cases h with
  | int i => exact .inl ⟨i, rfl, rfl⟩
  | non => exact .inr ⟨Od.isi .non, rfl⟩
  | bl b => exact .inr ⟨Od.isi (.bl b), rfl⟩
  | str z => exact .inr ⟨Od.isi (.str z), rfl⟩
  | tup h => exact .inr ⟨Od.isi (.tup h), rfl⟩
  | lst h => exact .inr ⟨Od.isi (.lst h), rfl⟩
  | dK h => exact .inr ⟨Od.isi (.dK h), rfl⟩
end
end W

namespace W
open PySem PySem.Spec PyProof.Rows L2
section
variable {P : Program} {w : World} {K : S.Frag} {mg : Str → Option Value} {base : Heap}
open S
theorem ok__law_cell (T : Txt K mg) : FnOk P w K mg base (L2.CX P w) 1 (He.fAd K ("_law_cell", none)) (S.fdA K ("_law_cell", none)) ["_law_script", "_law_k"] (spCellN K) := by
  refine FunD.ok T.F__law_cell sc__law_cell (fun vs H Q E h => S.splen2 h) (fun cdv A outer s H vs Q E hr h => ?_)
  have hu := hu_of hr
  refine ⟨_, (pss_cons (ps_set (i := 2) sc__law_cell.nd rfl (by first | exact Or.inl rfl | exact Or.inr rfl) pe_int)
      (S.pss_cut (ps_if (pt_cmpR op_lt (pv 1) (pe_callB (S.lenK (K := K) rfl) rfl T.n_len S.boot_len (pa_cons (pv 0) pa_nil)) (nomark _)) (pss_one (ps_set (i := 2) sc__law_cell.nd rfl (by first | exact Or.inl rfl | exact Or.inr rfl) (pe_ix (S.ixK (K := K) rfl) (pv 0) (pv 1) (fun _ _ => rfl)))) pss_nil)
      (pss_cons (ps_if (pt_cmpR op_ge (pv 2) (pe_op op_pow pe_int pe_int) (nomark _)) (pss_one (ps_ret (pv 2))) pss_nil)
      (pss_cons (ps_set (i := 3) sc__law_cell.nd rfl (by first | exact Or.inl rfl | exact Or.inr rfl) (pe_op op_mod (pe_callTy call_int1 rfl T.n_int S.boot_int (pa_cons (pe_op op_add (pe_op op_add (pe_op S.op_mulA (pv 2) pe_int) (pe_op S.op_mulA (pv 1) pe_int)) pe_int) pa_nil)) pe_int))
      (pss_cons (ps_set (i := 4) sc__law_cell.nd rfl (by first | exact Or.inl rfl | exact Or.inr rfl) pe_int)
      (pss_cons (ps_for (S.own_of rfl) rfl (pi_range1 rfl T.n_range (pa_cons pe_int pa_nil)) (pg_name (i := 5) sc__law_cell.nd rfl (by first | exact Or.inl rfl | exact Or.inr rfl))
        (pss_cons (ps_set (i := 3) sc__law_cell.nd rfl (by first | exact Or.inl rfl | exact Or.inr rfl) (pe_op op_mod (pe_callTy call_int1 rfl T.n_int S.boot_int (pa_cons (pe_op op_add (pe_op op_add (pe_op S.op_mulA (pv 3) pe_int) (pe_op S.op_mulA (pv 5) pe_int)) pe_int) pa_nil)) pe_int))
      (pss_cons (ps_set (i := 3) sc__law_cell.nd rfl (by first | exact Or.inl rfl | exact Or.inr rfl) (pe_op op_mod (pe_callTy call_int1 rfl T.n_int S.boot_int (pa_cons (pe_op S.op_mulA (pv 3) (pe_op op_add (pe_op op_fdivW (pv 3) pe_int) pe_int)) pa_nil)) pe_int))
      (pss_one (ps_set (i := 4) sc__law_cell.nd rfl (by first | exact Or.inl rfl | exact Or.inr rfl) (pe_op op_add (pe_op S.op_mulA (pv 4) pe_int) (pv 3)))))))
      (pss_one (ps_ret (pv 4))))))))), ?_⟩
  obtain ⟨_, _, rfl, a, ns, k, rfl, rfl, hk, hS, q⟩ := h
  refine ⟨fun τ J => J = H ∧ ∃ c : Int, τ = [some (.ref a), some (.int k), some (.int c), none, none, none], ?_, ?_⟩
  · refine ⟨_, rfl, _, rfl, _, (ns.map V.int).length, rfl, .inl ⟨_, hS, rfl⟩, _, _, rfl, rfl, _, rfl, ?_⟩
    by_cases c : k < ((ns.map V.int).length : Int)
    · obtain ⟨m, rfl⟩ : ∃ m : Nat, k = (m : Int) := ⟨k.toNat, by omega⟩
      rw [List.length_map] at c
      exact iteY (by simpa using c) ⟨_, rfl, _, rfl, .inl ⟨a, _, _, _, rfl, rfl, hS, int_at (by omega), rfl, _, rfl⟩⟩
    · exact iteN (by simpa using c) ⟨rfl, _, rfl⟩
  · rintro τ J ⟨rfl, c, rfl⟩
    refine ⟨_, rfl, _, _, rfl, rfl, ⟨by decide, by decide, by decide⟩, _, _, rfl, rfl, _, rfl, ?_⟩
    refine ite2 (fun h => ⟨_, rfl, q _ ?_⟩) (fun _ => ?_)
    · have h2 : (10 : Int) ^ 18 ≤ c := by simpa using h
      omega
    refine ⟨_, rfl, _, _, rfl, rfl, mul_small (by decide), _, rfl, _, _, rfl, rfl, mul_small (by decide), _, _, rfl, rfl, _, _, rfl, rfl, .inl ⟨_, rfl, _, _, rfl, rfl, (by show (0 : Int) < 2147483647; decide), ?_⟩⟩
    refine ⟨8, rfl, by decide, by decide, for_range (n := 8) (fun i σ J2 => J2 = J ∧ ∃ (x y : Int) (st : Option V), 0 ≤ x ∧ x < 2147483647 ∧ 0 ≤ y ∧ σ = [some (.ref a), some (.int k), some (.int c), some (.int x), some (.int y), st]) ⟨rfl, _, _, none, Int.emod_nonneg _ (by decide), Int.emod_lt_of_pos _ (by decide), Int.le_refl 0, rfl⟩ ?_ ?_⟩
    · rintro i σ J2 hi ⟨rfl, x, y, st, h0, h1, hy, rfl⟩
      refine ⟨_, rfl, _, _, rfl, rfl, mul_small (by decide), _, rfl, _, _, rfl, rfl, mul_small (by decide), _, _, rfl, rfl, _, _, rfl, rfl, .inl ⟨_, rfl, _, _, rfl, rfl, (by show (0 : Int) < 2147483647; decide), ?_⟩⟩
      refine ⟨_, rfl, _, rfl, _, _, rfl, rfl, div_small (by decide) (by decide), _, _, rfl, rfl, _, _, rfl, rfl, mul_smallL (mod_small _ (by decide) (by decide)), .inl ⟨_, rfl, _, _, rfl, rfl, (by show (0 : Int) < 2147483629; decide), ?_⟩⟩
      refine ⟨_, rfl, _, _, rfl, rfl, mul_small (by decide), _, rfl, _, _, rfl, rfl, rfl, _, _, some (.int (0 + (i : Int))), mod_lo _ (by decide), Int.lt_trans (mod_hi _ (by decide)) (by decide), ?_, rfl⟩
      exact Int.add_nonneg (Int.mul_nonneg hy (by decide)) (mod_lo _ (by decide))
    · rintro σ J2 ⟨rfl, x, y, st, _, _, hy, rfl⟩
      exact ⟨_, rfl, q y hy⟩
def spTake : Sp := Sp2 fun x y H Q _ => ∃ (a : Addr) (n m : Int), x = .ref a ∧ H a = some (.lst [.int n]) ∧ y = .int m ∧ 0 < m ∧ m < 2 ^ 64 ∧ ∀ t n', 0 ≤ t → t < m → Q (.int t) (upd H a (.lst [.int n']))
theorem ok__law_take (T : Txt K mg) : FnOk P w K mg base (L2.CX P w) 1 (He.fAd K ("_law_take", none)) (S.fdA K ("_law_take", none)) ["_law_draw", "_law_size"] (spTake) := by
  refine FunD.ok T.F__law_take sc__law_take (fun vs H Q E h => S.splen2 h) (fun cdv A outer s H vs Q E hr h => ?_)
  have hu := hu_of hr
  refine ⟨_, (pss_cons (ps_set (i := 2) sc__law_take.nd rfl (by first | exact Or.inl rfl | exact Or.inr rfl) (pe_op op_mod (pe_callTy call_int1 rfl T.n_int S.boot_int (pa_cons (pe_ix (S.ixK (K := K) rfl) (pv 0) pe_int (fun _ _ => rfl)) pa_nil)) (pv 1)))
      (pss_cons (ps_asg (pe_op op_fdivW (pe_ix (S.ixK (K := K) rfl) (pv 0) pe_int (fun _ _ => rfl)) (pv 1)) (pg_sub (pv 0) pe_int set_list))
      (pss_one (ps_ret (pv 2))))), ?_⟩
  obtain ⟨_, _, rfl, a, n, m, rfl, ha, rfl, h0, h1, q⟩ := h
  refine ⟨_, rfl, .inl ⟨a, _, 0, _, rfl, rfl, .inl (.inl ha), rfl, .inl ⟨_, rfl, _, rfl, _, _, rfl, rfl, h0, ?_⟩⟩⟩
  refine ⟨_, rfl, .inl ⟨a, _, 0, _, rfl, rfl, .inl (.inl ha), rfl, _, rfl, _, _, rfl, rfl, div_small h0 h1, ?_⟩⟩
  exact ⟨_, rfl, a, _, 0, 0, rfl, rfl, ha, rfl, _, rfl, q _ _ (mod_lo _ h0) (mod_hi _ h0)⟩
end
end W

namespace W
open PySem PySem.Spec PyProof.Rows L2
section
variable {P : Program} {w : World} {K : S.Frag} {mg : Str → Option Value} {base : Heap}
open S
/-- the draws at a went on, all else stands -/
structure Dr (a : Addr) (H H' : Hp) : Prop where
  at_ : ∃ m : Int, H' a = some (.lst [.int m])
  kp : ∀ b o, b ≠ a → H b = some o → H' b = some o
theorem Dr.trans {a : Addr} {H H1 H2 : Hp} (x : Dr a H H1) (y : Dr a H1 H2) : Dr a H H2 := ⟨y.at_, fun b o n h => y.kp b o n (x.kp b o n h)⟩
theorem Dr.upd {a : Addr} {H : Hp} {n : Int} : Dr a H (upd H a (.lst [.int n])) := ⟨⟨n, upd_same⟩, fun b o nb h => by rw [upd_ne nb]; exact h⟩
theorem Dr.same {a : Addr} {H H' : Hp} {n : Int} (h : H a = some (.lst [.int n])) (s : Same H H') : Dr a H H' := ⟨⟨n, s _ _ h⟩, fun b o _ h => s b o h⟩
/-- values that do not lean on the draws -/
inductive Oa (a : Addr) (H : Hp) : V → Prop where
  | int (i : Int) : Oa a H (.int i)
  | non : Oa a H .non
  | bl (b : Bool) : Oa a H (.bl b)
  | str (z : Str) : Oa a H (.str z)
  | tup {c : Addr} {xs : List V} (n : c ≠ a) (h : H c = some (.tup xs)) : Oa a H (.ref c)
  | lst {c : Addr} {xs : List V} (n : c ≠ a) (h : H c = some (.lst xs)) : Oa a H (.ref c)
  | dK {c : Addr} {xs : List (Key × V)} (n : c ≠ a) (h : H c = some (.dK xs)) : Oa a H (.ref c)
theorem Oa.od {a : Addr} {H : Hp} {x : V} (h : Oa a H x) : Od H x := by
  cases h with
  | int i => exact .int i
  | non => exact .non
  | bl b => exact .bl b
  | str z => exact .str z
  | tup n h => exact .tup h
  | lst n h => exact .lst h
  | dK n h => exact .dK h
theorem Oa.dr {a : Addr} {H H' : Hp} {x : V} (h : Oa a H x) (d : Dr a H H') : Oa a H' x := by
  cases h with
  | int i => exact .int i
  | non => exact .non
  | bl b => exact .bl b
  | str z => exact .str z
  | tup n h => exact .tup n (d.kp _ _ n h)
  | lst n h => exact .lst n (d.kp _ _ n h)
  | dK n h => exact .dK n (d.kp _ _ n h)
theorem ix3 {H : Hp} {a : Addr} {xs : List V} {v : V} {i : Int} {Q : VK} (ha : H a = some (.lst xs)) (e : atI xs i = some v) (q : Q v H) : rIx K (.ref a) (.int i) H Q := .inl ⟨a, _, _, _, rfl, rfl, .inl (.inl ha), e, q⟩
theorem ixT {H : Hp} {a : Addr} {xs : List V} {v : V} {i : Int} {Q : VK} (ha : H a = some (.tup xs)) (e : atI xs i = some v) (q : Q v H) : rIx K (.ref a) (.int i) H Q := .inr (.inl ⟨a, _, _, _, rfl, rfl, .inl (.inl ha), e, q⟩)
theorem isInt_int {x : V} (h : isInt x = true) : ∃ i, x = .int i := by cases x <;> first | exact ⟨_, rfl⟩ | cases h
theorem inR_not {x : V} {a b : Int} (h : isInt x = false) : inR a b x = false := by cases x <;> first | rfl | cases h
/-- one new thing at r beside what stood -/
theorem dr_same {r : Addr} {H H1 H2 : Hp} (h : Same H H1) (n : H r = none) (d : Dr r H1 H2) : Same H H2 := fun b o e => d.kp b o (ne_of_none e n) (h b o e)
end
end W

namespace W
open PySem PySem.Spec PyProof.Rows L2
section
variable {P : Program} {w : World} {K : S.Frag} {mg : Str → Option Value} {base : Heap}
open S
end
end W

namespace W
open PySem PySem.Spec PyProof.Rows L2
section
variable {P : Program} {w : World} {K : S.Frag} {mg : Str → Option Value} {base : Heap}
open S
/-! names -/
abbrev abc : Str := "abcdefghijklmnopqrstuvwxyz"
abbrev keptW : List V := [.str "any", .str "closed", .str "end", .str "open", .str "to"]
def isNm (z : Str) : Bool := (decide (1 ≤ z.length) && decide (z.length ≤ 8)) && (!inV (.str z) keptW && z.cps.toList.all fun c => decide (c ∈ abc.cps.toList))
def nmV : V → Bool
  | .str z => isNm z
  | _ => false
def isStr : V → Bool
  | .str _ => true
  | _ => false
def isBl : V → Bool
  | .bl _ => true
  | _ => false
/-- a text of bounded length, or none -/
def sml : V → Prop
  | .str z => z.length ≤ 1000
  | _ => True
theorem Od.str? {H : Hp} {x : V} (h : Od H x) : ∃ t, TyX K H x t ∧ PySem.W.kitOne K t (.type "str") = some (isStr x) := by
  cases h with
  | int i => exact ⟨_, .base (.int i), kit_ty (r := false) (by decide +kernel)⟩
  | non => exact ⟨_, .base .non, kit_ty (r := false) (by decide +kernel)⟩
  | bl b => exact ⟨_, .base (.bl b), kit_ty (r := false) (by decide +kernel)⟩
  | str z => exact ⟨_, .base (.str z), kit_ty (r := true) (by decide +kernel)⟩
  | tup h => exact ⟨_, .base (.tup h), kit_ty (r := false) (by decide +kernel)⟩
  | lst h => exact ⟨_, .base (.lst h), kit_ty (r := false) (by decide +kernel)⟩
  | dK h => exact ⟨_, .base (.dK h), kit_ty (r := false) (by decide +kernel)⟩
theorem Od.bl? {H : Hp} {x : V} (h : Od H x) : ∃ t, TyX K H x t ∧ PySem.W.kitOne K t (.type "bool") = some (isBl x) := by
  cases h with
  | int i => exact ⟨_, .base (.int i), kit_ty (r := false) (by decide +kernel)⟩
  | non => exact ⟨_, .base .non, kit_ty (r := false) (by decide +kernel)⟩
  | bl b => exact ⟨_, .base (.bl b), kit_ty (r := true) (by decide +kernel)⟩
  | str z => exact ⟨_, .base (.str z), kit_ty (r := false) (by decide +kernel)⟩
  | tup h => exact ⟨_, .base (.tup h), kit_ty (r := false) (by decide +kernel)⟩
  | lst h => exact ⟨_, .base (.lst h), kit_ty (r := false) (by decide +kernel)⟩
  | dK h => exact ⟨_, .base (.dK h), kit_ty (r := false) (by decide +kernel)⟩
theorem all_take {z : Str} {i c : Nat} (h : z.cps[i]? = some c) : z.cps.toList.take (i + 1) = z.cps.toList.take i ++ [c] := by
  rw [List.take_succ, ← Array.getElem?_toList] at *
  rw [h]
  rfl
def spNm (K : S.Frag) : Sp := Sp1 fun x H Q _ => Od H x ∧ sml x ∧ Q (.bl (nmV x)) H
theorem ok_is_name (T : Txt K mg) : FnOk P w K mg base (L2.CX P w) 1 (He.fAd K ("is_name", none)) (S.fdA K ("is_name", none)) ["value"] (spNm K) := by
  refine FunD.ok T.F_is_name sc_is_name (fun vs H Q E h => S.splen1 h) (fun cdv A outer s H vs Q E hr h => ?_)
  have hu := hu_of hr
  refine ⟨_, (pss_cons (ps_if (PW.pt (pw_or (pt_not (pt_val (pe_callB (S.isiK (K := K) rfl) rfl T.n_isinstance S.boot_isinstance (pa_cons (pv 0) (pa_cons (pe_bltn (v := .ty "str") rfl T.n_str S.boot_str rfl) pa_nil))))) (pw_or (pt_not (pt_chain op_le op_le pe_int (pe_callB (S.lenK (K := K) rfl) rfl T.n_len S.boot_len (pa_cons (pv 0) pa_nil)) pe_int)) (pw_or1 (pt_cmpR (S.inK (K := K) rfl) (pv 0) (pe_glob (v := .ref _) rfl T.g_KEPT_WORDS rfl) rfl))))) (pss_one (ps_ret pe_bl)) pss_nil)
      (pss_cons (ps_for (S.own_of rfl) rfl (pi_str (pv 0)) (pg_name (i := 1) sc_is_name.nd rfl (by first | exact Or.inl rfl | exact Or.inr rfl))
        (pss_one (ps_if (pt_cmpR op_notIn_sign (pv 1) (S.pe_globS rfl T.c_LETTERS) rfl) (pss_one (ps_ret pe_bl)) pss_nil)))
      (pss_one (ps_ret pe_bl)))), ?_⟩
  obtain ⟨x, rfl, ox, sx, q⟩ := h
  obtain ⟨t, ty, kt⟩ := ox.str? (K := K)
  refine ⟨_, rfl, _, _, _, _, _, rfl, .ty _, ty, kt, _, rfl, ?_⟩
  cases c1 : isStr x with
  | false =>
    have e : nmV x = false := by cases x <;> first | rfl | cases c1
    rw [e] at q
    exact iteT (iteT q)
  | true =>
    obtain ⟨z, rfl⟩ : ∃ z, x = .str z := by cases x <;> first | exact ⟨_, rfl⟩ | cases c1
    have sz : z.length ≤ 1000 := sx
    have bad : isNm z = false → Q (.bl false) H := fun e => by
      have e2 : nmV (.str z) = false := e
      rw [e2] at q
      exact q
    have q1 : ((1 : Int) ≤ (z.length : Int)) ↔ 1 ≤ z.length := by omega
    have q2 : ((z.length : Int) ≤ 8) ↔ z.length ≤ 8 := by omega
    refine iteF ⟨_, rfl, _, z.length, rfl, ⟨Nat.le_trans sz (by decide), rfl⟩, _, _, rfl, rfl, _, rfl, ?_⟩
    by_cases d1 : 1 ≤ z.length
    · refine iteY (decide_eq_true (by omega)) ⟨_, _, rfl, rfl, _, rfl, ?_⟩
      by_cases d2 : z.length ≤ 8
      · refine iteN (by simpa [q2] using d2) ⟨_, rfl, _, _, rfl, .inr (T.t_KEPT_WORDS H), rfl, rfl, _, rfl, ?_⟩
        cases d3 : inV (.str z) keptW with
        | true => exact iteY rfl (bad (by simp [isNm, d3]))
        | false =>
          refine iteN (by decide) ?_
          refine ⟨_, rfl, z, rfl, for_str (fun i σ J => J = H ∧ (∃ t, σ = [some (.str z), t]) ∧ (z.cps.toList.take i).all (fun c => decide (c ∈ abc.cps.toList)) = true) ⟨rfl, ⟨_, rfl⟩, rfl⟩ ?_ ?_⟩
          · rintro i c σ J hc ⟨rfl, ⟨t, rfl⟩, ha⟩
            refine ⟨_, rfl, _, _, rfl, rfl, _, rfl, ?_⟩
            by_cases d4 : c ∈ abc.cps.toList
            · refine iteN (by simp [d4]) ⟨rfl, ⟨_, rfl⟩, ?_⟩
              rw [all_take hc, List.all_append, ha, List.all_cons, decide_eq_true d4]
              rfl
            · refine iteY (by simp [d4]) (bad ?_)
              have m : c ∈ z.cps.toList := by
                rw [← Array.getElem?_toList] at hc
                exact List.mem_of_getElem? hc
              have e : (z.cps.toList.all fun c => decide (c ∈ abc.cps.toList)) = false := by
                rw [List.all_eq_false]
                exact ⟨c, m, by simp [d4]⟩
              simp only [isNm, e, Bool.and_false]
          · rintro σ J ⟨rfl, ⟨t, rfl⟩, ha⟩
            have e : nmV (.str z) = true := by
              have ha2 : (z.cps.toList.all fun c => decide (c ∈ abc.cps.toList)) = true := by
                rw [show z.cps.size = z.cps.toList.length by simp, List.take_length] at ha
                exact ha
              show isNm z = true
              simp only [isNm, ha2, d3, decide_eq_true d1, decide_eq_true d2]
              rfl
            rw [e] at q
            exact q
      · exact iteY (by simpa [q2] using d2) (bad (by simp [isNm, d2]))
    · exact iteN (fun c => d1 (by have := of_decide_eq_true c; omega)) ⟨_, rfl, iteT (bad (by simp [isNm, d1]))⟩
theorem ok_BadPlace___init__ (T : Txt K mg) : FnOk P w K mg base (L2.CX P w) 1 (He.fAd K ("BadPlace", some "__init__")) (S.fdA K ("BadPlace", some "__init__")) ["self", "why"] (sp_err (He.ga K "BadPlace") "why") := by
  refine FunD.ok T.F_BadPlace___init__ sc_BadPlace___init__ (fun vs H Q E h => S.splen2 h) (fun cdv A outer s H vs Q E hr h => ?_)
  have hu := hu_of hr
  refine ⟨_, (pss_one (S.ps_ostK (K := K) rfl (pv 0) (pv 1) rfl)), ?_⟩
  obtain ⟨_, y, rfl, a, rfl, ha, k⟩ := h
  exact ⟨_, rfl, _, rfl, a, _, rfl, T.ox_BadPlace, T.xn_BadPlace_why, .inl ⟨ha, k⟩⟩
def intOf : V → Int
  | .int i => i
  | _ => 0
def mostV (l m : V) : V := if m = .non then l else m
/-- what is wrong with these four, or "" -/
def dueP (n l m t : V) : Str := if !nmV n then "name" else if !inR 1 6 l then "least" else if !inR (intOf l) 6 (mostV l m) then "most" else if !isBl t then "let" else ""
def fldP (n l m t : V) : List (Str × V) := [("name", n), ("least", l), ("most", m), ("let", t)]
theorem inR_int {a b : Int} {x : V} (h : inR a b x = true) : ∃ i, x = .int i ∧ a ≤ i ∧ i ≤ b := by
  cases x with
  | int i => simp [inR] at h; exact ⟨i, rfl, h⟩
  | _ => cases h
def spPlace (K : S.Frag) : Sp := Sp5 fun self n l m t H Q E => ∃ p dx, self = .ref p ∧ H p = some (.ins (He.ga K "Place") dx []) ∧ Od H n ∧ sml n ∧ Od H l ∧ Od H m ∧ Od H t ∧
  (dueP n l m t = "" → ∀ H', (∀ b o, H b = some o → b ≠ p → H' b = some o) → H' p = some (.ins (He.ga K "Place") dx (fldP n l (mostV l m) t)) → Q .non H') ∧
  (dueP n l m t ≠ "" → ∀ d H', H d = none → Same H H' → H' d = some (.xd [("why", .str (dueP n l m t))]) → E (.ref (He.ga K "BadPlace")) (some d) H')
theorem ok_Place___init__ (T : Txt K mg) : FnOk P w K mg base (L2.CX P w) 3 (He.fAd K ("Place", some "__init__")) (S.fdA K ("Place", some "__init__")) ["self", "name", "least", "most", "let"] (spPlace K) := by
  have G_is_name := ok_is_name (P := P) (w := w) (base := base) T
  have G_BadPlace___init__ := ok_BadPlace___init__ (P := P) (w := w) (base := base) T
  have G_is_within := ok_is_within (P := P) (w := w) (base := base) T
  refine FunD.ok T.F_Place___init__ sc_Place___init__ (fun vs H Q E h => S.splen5 h) (fun cdv A outer s H vs Q E hr h => ?_)
  have hu := hu_of hr
  refine ⟨_, (pss_cons (ps_if (pt_not (pt_val (S.pe_fnS G_is_name (hr.mono (by decide)) rfl T.g_is_name T.F_is_name.kp (kb_is_name_1 T) S.pas0 (pa_cons (pv 1) pa_nil) pk_nil rfl rfl))) (pss_one (S.ps_raiseO rfl (takes_of rfl rfl rfl rfl) T.ox_BadPlace T.xi_BadPlace T.xt_BadPlace G_BadPlace___init__ (hr.mono (by decide)) (kb_BadPlace___init___2 T) rfl T.g_BadPlace (pa_cons pe_str pa_nil))) pss_nil)
      (pss_cons (ps_if (pt_not (pt_val (S.pe_fnS G_is_within (hr.mono (by decide)) rfl T.g_is_within T.F_is_within.kp (kb_is_within_3 T) S.pas0 (pa_cons (pv 2) (pa_cons pe_int (pa_cons (S.pe_globI rfl T.c_MOST_TICKS) pa_nil))) pk_nil rfl rfl))) (pss_one (S.ps_raiseO rfl (takes_of rfl rfl rfl rfl) T.ox_BadPlace T.xi_BadPlace T.xt_BadPlace G_BadPlace___init__ (hr.mono (by decide)) (kb_BadPlace___init___2 T) rfl T.g_BadPlace (pa_cons pe_str pa_nil))) pss_nil)
      (S.pss_cut (ps_if (pt_cmpR op_isN (pv 3) pe_non (nomark _)) (pss_one (ps_set (i := 3) sc_Place___init__.nd rfl (by first | exact Or.inl rfl | exact Or.inr rfl) (pv 2))) pss_nil)
      (pss_cons (ps_if (pt_not (pt_val (S.pe_fnS G_is_within (hr.mono (by decide)) rfl T.g_is_within T.F_is_within.kp (kb_is_within_3 T) S.pas0 (pa_cons (pv 3) (pa_cons (pv 2) (pa_cons (S.pe_globI rfl T.c_MOST_TICKS) pa_nil))) pk_nil rfl rfl))) (pss_one (S.ps_raiseO rfl (takes_of rfl rfl rfl rfl) T.ox_BadPlace T.xi_BadPlace T.xt_BadPlace G_BadPlace___init__ (hr.mono (by decide)) (kb_BadPlace___init___2 T) rfl T.g_BadPlace (pa_cons pe_str pa_nil))) pss_nil)
      (pss_cons (ps_if (pt_not (pt_val (pe_callB (S.isiK (K := K) rfl) rfl T.n_isinstance S.boot_isinstance (pa_cons (pv 4) (pa_cons (pe_bltn (v := .ty "bool") rfl T.n_bool S.boot_bool rfl) pa_nil))))) (pss_one (S.ps_raiseO rfl (takes_of rfl rfl rfl rfl) T.ox_BadPlace T.xi_BadPlace T.xt_BadPlace G_BadPlace___init__ (hr.mono (by decide)) (kb_BadPlace___init___2 T) rfl T.g_BadPlace (pa_cons pe_str pa_nil))) pss_nil)
      (pss_cons (S.ps_fldK (K := K) rfl (pv 0) (pv 1) rfl)
      (pss_cons (S.ps_fldK (K := K) rfl (pv 0) (pv 2) rfl)
      (pss_cons (S.ps_fldK (K := K) rfl (pv 0) (pv 3) rfl)
      (pss_one (S.ps_fldK (K := K) rfl (pv 0) (pv 4) rfl)))))))))), ?_⟩
  obtain ⟨_, n, l, m, t, rfl, p, dx, rfl, hp, on, sn, ol, om, ot, k1, k2⟩ := h
  refine ⟨_, rfl, rfl, rfl, n, rfl, on, sn, _, rfl, ?_⟩
  cases c1 : nmV n with
  | false =>
    have e : dueP n l m t = "name" := by simp [dueP, c1]
    rw [e] at k2
    exact iteT (raise_err (.str "name") (k2 (by decide +kernel)))
  | true =>
    refine iteF ⟨_, rfl, rfl, rfl, l, _, _, rfl, 1, 6, _, rfl, rfl, ol.within, _, rfl, ?_⟩
    cases c2 : inR 1 6 l with
    | false =>
      have e : dueP n l m t = "least" := by simp [dueP, c1, c2]
      rw [e] at k2
      exact iteT (raise_err (.str "least") (k2 (by decide +kernel)))
    | true =>
      obtain ⟨i, rfl, i1, i2⟩ := inR_int c2
      refine iteF ⟨fun τ J => J = H ∧ τ = [some (.ref p), some n, some (.int i), some (mostV (.int i) m), some t], ?_, ?_⟩
      · refine ⟨_, rfl, rfl, _, rfl, ?_⟩
        by_cases hm : m = .non
        · exact iteY (by simp [hm]) ⟨_, rfl, rfl, by simp [mostV, hm]; rfl⟩
        · exact iteN (by simp [hm]) ⟨rfl, by simp [mostV, hm]; rfl⟩
      · rintro τ J ⟨rfl, rfl⟩
        have om2 : Od J (mostV (.int i) m) := by
          unfold mostV
          split
          · exact .int i
          · exact om
        refine ⟨_, rfl, _, rfl, rfl, rfl, _, _, _, rfl, i, 6, _, rfl, rfl, om2.within, _, rfl, ?_⟩
        cases c3 : inR i 6 (mostV (.int i) m) with
        | false =>
          have e : dueP n (.int i) m t = "most" := by simp [dueP, c1, c2, c3, intOf]
          rw [e] at k2
          exact iteT (raise_err (.str "most") (k2 (by decide +kernel)))
        | true =>
          obtain ⟨ty, h1, h2⟩ := ot.bl? (K := K)
          refine iteF ⟨_, rfl, _, _, _, _, _, rfl, .ty _, h1, h2, _, rfl, ?_⟩
          cases c4 : isBl t with
          | false =>
            have e : dueP n (.int i) m t = "let" := by simp [dueP, c1, c2, c3, c4, intOf]
            rw [e] at k2
            exact iteT (raise_err (.str "let") (k2 (by decide +kernel)))
          | true =>
            refine iteF ⟨_, rfl, _, rfl, p, _, dx, _, rfl, hp, T.cl_Place, T.na_Place_name, (by show 0 < 1000; decide), ?_⟩
            refine ⟨_, rfl, _, rfl, p, _, dx, _, rfl, upd_same, T.cl_Place, T.na_Place_least, (by show 1 < 1000; decide), ?_⟩
            refine ⟨_, rfl, _, rfl, p, _, dx, _, rfl, upd_same, T.cl_Place, T.na_Place_most, (by show 2 < 1000; decide), ?_⟩
            refine ⟨_, rfl, _, rfl, p, _, dx, _, rfl, upd_same, T.cl_Place, T.na_Place_let, (by show 3 < 1000; decide), ?_⟩
            exact k1 (by simp [dueP, c1, c2, c3, c4, intOf]) _ (fun b o q nb => by rw [upd_ne nb, upd_ne nb, upd_ne nb, upd_ne nb]; exact q) upd_same
section
variable (n l m t : V)
theorem lk_name : (fldP n l m t).lookup ("name" : Str) = some n := by
  unfold fldP
  rw [lookup_put, if_pos rfl]
theorem lk_least : (fldP n l m t).lookup ("least" : Str) = some l := by
  unfold fldP
  rw [lookup_put, if_neg (by decide +kernel), lookup_put, if_pos rfl]
theorem lk_most : (fldP n l m t).lookup ("most" : Str) = some m := by
  unfold fldP
  rw [lookup_put, if_neg (by decide +kernel), lookup_put, if_neg (by decide +kernel), lookup_put, if_pos rfl]
theorem lk_let : (fldP n l m t).lookup ("let" : Str) = some t := by
  unfold fldP
  rw [lookup_put, if_neg (by decide +kernel), lookup_put, if_neg (by decide +kernel), lookup_put, if_neg (by decide +kernel), lookup_put, if_pos rfl]
theorem lk_key : (fldP n l m t).lookup ("place_key" : Str) = none := by
  unfold fldP
  rw [lookup_put, if_neg (by decide +kernel), lookup_put, if_neg (by decide +kernel), lookup_put, if_neg (by decide +kernel), lookup_put, if_neg (by decide +kernel)]
  rfl
end
/-- a place stands at p -/
def PlAt (K : S.Frag) (H : Hp) (p : Addr) (n l m t : V) : Prop := ∃ dx, H p = some (.ins (He.ga K "Place") dx (fldP n l m t))
theorem PlAt.same {H H' : Hp} {p : Addr} {n l m t : V} (h : PlAt K H p n l m t) (s : Same H H') : PlAt K H' p n l m t := let ⟨dx, e⟩ := h; ⟨dx, s _ _ e⟩
def spKey (K : S.Frag) : Sp := Sp1 fun x H Q _ => ∃ p n l m t, x = .ref p ∧ PlAt K H p n l m t ∧ ∀ k, H k = none → Q (.ref k) (upd H k (.tup [n, l, m, t]))
def spPEq (K : S.Frag) : Sp := Sp2 fun x y H Q _ => ∃ p n l m t q n' l' m' t', x = .ref p ∧ y = .ref q ∧ PlAt K H p n l m t ∧ PlAt K H q n' l' m' t' ∧ [n, l, m, t].all sca = true ∧ [n', l', m', t'].all sca = true ∧
  ∀ H', Same H H' → Q (.bl (PyData.eqvAll ([n, l, m, t].map dat) ([n', l', m', t'].map dat))) H'
end
end W

namespace W
open PySem PySem.Spec PyProof.Rows L2
section
variable {P : Program} {w : World} {K : S.Frag} {mg : Str → Option Value} {base : Heap}
open S
/-! drawn names -/
theorem str_len (z : Str) : z.length = z.cps.toList.length := by simp [Str.length]
theorem app_cps (x y : Str) : (x ++ y).cps.toList = x.cps.toList ++ y.cps.toList := by
  show ((⟨x.cps ++ y.cps⟩ : Str)).cps.toList = _
  simp
theorem app_len (x y : Str) : (x ++ y).length = x.length + y.length := by rw [str_len, str_len, str_len, app_cps, List.length_append]
theorem eqV_str (a b : Str) : eqV (.str a) (.str b) = decide (a = b) := by
  show (a == b) = _
  rw [Bool.eq_iff_iff]
  simp
theorem inV_str (z : Str) (ws : List Str) : inV (.str z) (ws.map V.str) = decide (z ∈ ws) := by
  unfold inV
  rw [List.any_map, Bool.eq_iff_iff]
  simp only [List.any_eq_true, Function.comp, eqV_str, decide_eq_true_eq]
  constructor
  · rintro ⟨x, h, rfl⟩
    exact h
  · intro h
    exact ⟨z, h, rfl⟩
theorem flat_strs (ws : List Str) : (ws.map V.str).all flatV = true := by
  rw [List.all_map, List.all_eq_true]
  exact fun _ _ => rfl
/-- as many holes as pigeons -/
theorem nodup_le {α : Type} [DecidableEq α] : ∀ {l m : List α}, l.Nodup → (∀ x ∈ l, x ∈ m) → l.length ≤ m.length
  | [], m, _, _ => Nat.zero_le _
  | a :: l, m, h, s => by
    have ha : a ∈ m := s a List.mem_cons_self
    have hn := List.nodup_cons.mp h
    have e : (m.erase a).length = m.length - 1 := List.length_erase_of_mem ha
    have p : 0 < m.length := List.length_pos_of_mem ha
    have r : l.length ≤ (m.erase a).length := nodup_le hn.2 fun x hx => by
      have hx2 := s x (List.mem_cons_of_mem _ hx)
      have ne : x ≠ a := fun z => hn.1 (z ▸ hx)
      exact (List.mem_erase_of_ne ne).mpr hx2
    rw [List.length_cons]
    omega
theorem atI_lt {α : Type} {xs : List α} {i : Int} {v : α} (h0 : 0 ≤ i) (h : xs[i.toNat]? = some v) : atI xs i = some v := by
  obtain ⟨k, rfl⟩ : ∃ k : Nat, i = (k : Int) := ⟨i.toNat, by omega⟩
  exact atI_nat (by simpa using h)
def signs : List Str := abc.cps.toList.map fun c => ⟨#[c]⟩
theorem signs_nd : signs.Nodup := by decide +kernel
theorem signs_len : signs.length = 26 := by decide +kernel
theorem signs_nm : signs.all isNm = true := by decide +kernel
/-- used at u: the texts ws, fewer than the letters -/
def spName (K : S.Frag) : Sp := Sp2 fun x y H Q _ => ∃ (a u : Addr) (n : Int) (ws : List Str), x = .ref a ∧ y = .ref u ∧ a ≠ u ∧ H a = some (.lst [.int n]) ∧ H u = some (.lst (ws.map V.str)) ∧ ws.length < 26 ∧
  ∀ z H', isNm z = true → z ∉ ws → Dr a H H' → Q (.str z) H'
theorem ok__law_name (T : Txt K mg) : FnOk P w K mg base (L2.CX P w) 2 (He.fAd K ("_law_name", none)) (S.fdA K ("_law_name", none)) ["_law_draw", "_law_used"] (spName K) := by
  have G__law_take := ok__law_take (P := P) (w := w) (base := base) T
  refine FunD.ok T.F__law_name sc__law_name (fun vs H Q E h => S.splen2 h) (fun cdv A outer s H vs Q E hr h => ?_)
  have hu := hu_of hr
  refine ⟨_, (pss_cons (ps_set (i := 2) sc__law_name.nd rfl (by first | exact Or.inl rfl | exact Or.inr rfl) pe_str)
      (pss_cons (ps_set (i := 3) sc__law_name.nd rfl (by first | exact Or.inl rfl | exact Or.inr rfl) pe_str)
      (pss_cons (ps_for (S.own_of rfl) rfl (pi_range1 rfl T.n_range (pa_cons (pe_op op_add pe_int (S.pe_fnS G__law_take (hr.mono (by decide)) rfl T.g__law_take T.F__law_take.kp (kb__law_take_2 T) S.pas0 (pa_cons (pv 0) (pa_cons pe_int pa_nil)) pk_nil rfl rfl)) pa_nil)) (pg_name (i := 4) sc__law_name.nd rfl (by first | exact Or.inl rfl | exact Or.inr rfl))
        (pss_one (ps_set (i := 3) sc__law_name.nd rfl (by first | exact Or.inl rfl | exact Or.inr rfl) (pe_op op_add_str (pv 3) (pe_ix (S.ixK (K := K) rfl) (pv 2) (S.pe_fnS G__law_take (hr.mono (by decide)) rfl T.g__law_take T.F__law_take.kp (kb__law_take_2 T) S.pas0 (pa_cons (pv 0) (pa_cons pe_int pa_nil)) pk_nil rfl rfl) (fun _ _ => rfl))))))
      (S.pss_cut (ps_if (PW.pt (pw_and (pt_cmpR (S.notInK (K := K) rfl) (pv 3) (pv 1) rfl) (pw_and1 (pt_cmpR (S.notInK (K := K) rfl) (pv 3) (pe_lst (pa_cons pe_str (pa_cons pe_str (pa_cons pe_str (pa_cons pe_str (pa_cons pe_str pa_nil)))))) rfl)))) (pss_one (ps_ret (pv 3))) pss_nil)
      (pss_cons (ps_for (S.own_of rfl) rfl (pi_str (pv 2)) (pg_name (i := 5) sc__law_name.nd rfl (by first | exact Or.inl rfl | exact Or.inr rfl))
        (pss_one (ps_if (pt_cmpR (S.notInK (K := K) rfl) (pv 5) (pv 1) rfl) (pss_one (ps_ret (pv 5))) pss_nil)))
      (pss_one (ps_ret (pv 3)))))))), ?_⟩
  obtain ⟨_, _, rfl, a, u, n, ws, rfl, rfl, nau, ha, hu0, hw, q⟩ := h
  refine ⟨_, rfl, rfl, rfl, _, _, rfl, a, n, 8, rfl, ha, rfl, by decide, by decide, fun t n' t0 t1 => ⟨_, _, rfl, rfl, _, rfl, by omega, by omega, ?_⟩⟩
  refine for_range (n := (1 + t).toNat) (fun i σ J => Dr a H J ∧ ∃ z : Str, ∃ v, σ = [some (.ref a), some (.ref u), some (.str abc), some (.str z), v, none] ∧ z.length = i ∧ (z.cps.toList.all fun c => decide (c ∈ abc.cps.toList)) = true) ⟨Dr.upd, _, _, rfl, rfl, rfl⟩ ?_ ?_
  · rintro i σ J hi ⟨d, z, v, rfl, hz, hall⟩
    obtain ⟨m, em⟩ := d.at_
    refine ⟨_, rfl, _, rfl, _, rfl, rfl, rfl, _, _, rfl, a, m, 26, rfl, em, rfl, by decide, by decide, fun c n2 c0 c1 => ?_⟩
    have h26 : abc.cps.toList.length = 26 := by decide +kernel
    have hlt : c.toNat < abc.cps.toList.length := by omega
    have hmem : abc.cps.toList[c.toNat] ∈ abc.cps.toList := List.getElem_mem hlt
    refine .inr (.inr ⟨abc, c, abc.cps.toList[c.toNat], rfl, rfl, by decide +kernel, atI_lt (by omega) (List.getElem?_eq_getElem hlt), z, _, rfl, rfl, ?_, d.trans Dr.upd, _, _, rfl, ?_, ?_⟩)
    · have e1 : (⟨#[abc.cps.toList[c.toNat]]⟩ : Str).length = 1 := rfl
      rw [e1]
      exact Nat.le_trans (show z.length + 1 ≤ 1000 by omega) (by decide)
    · rw [app_len, hz]
      rfl
    · rw [app_cps, List.all_append, hall]
      show (true && List.all [abc.cps.toList[c.toNat]] _) = true
      rw [List.all_cons, decide_eq_true hmem]
      rfl
  · rintro σ J ⟨d, z, v, rfl, hz, hall⟩
    have hz1 : 1 ≤ z.length := by omega
    have hz8 : z.length ≤ 8 := by omega
    have hu1 : J u = some (.lst (ws.map V.str)) := d.kp u _ nau.symm hu0
    refine ⟨fun τ J2 => Dr a H J2 ∧ τ = [some (.ref a), some (.ref u), some (.str abc), some (.str z), v, none], ?_, ?_⟩
    · refine ⟨_, rfl, _, rfl, u, _, rfl, .inl (.inl (.inl hu1)), rfl, flat_strs ws, _, rfl, ?_⟩
      by_cases c1 : z ∈ ws
      · refine iteN (by rw [inV_str, decide_eq_true c1]; decide) (iteF ⟨d, rfl⟩)
      · refine iteY (by rw [inV_str, decide_eq_false c1]; rfl) ⟨_, rfl, by show 5 ≤ sizeLine; decide, fun p hp => ?_⟩
        have s1 := Same.new (o := .lst keptW) hp
        have d1 : Dr a H (upd J p (.lst keptW)) := d.trans (let ⟨m, e⟩ := d.at_; Dr.same e s1)
        refine ⟨p, _, rfl, .inl (.inl (.inl upd_same)), rfl, rfl, _, rfl, ?_⟩
        cases c2 : inV (.str z) keptW with
        | true => exact iteN (by decide) ⟨d1, rfl⟩
        | false =>
          refine iteY rfl ⟨_, rfl, q z _ ?_ c1 d1⟩
          simp only [isNm, hall, c2, decide_eq_true hz1, decide_eq_true hz8]
          rfl
    · rintro τ J2 ⟨d2, rfl⟩
      have hu2 : J2 u = some (.lst (ws.map V.str)) := d2.kp u _ nau.symm hu0
      refine ⟨_, rfl, abc, rfl, for_str (fun i σ J3 => J3 = J2 ∧ (∃ v6, σ = [some (.ref a), some (.ref u), some (.str abc), some (.str z), v, v6]) ∧ ∀ c ∈ abc.cps.toList.take i, (⟨#[c]⟩ : Str) ∈ ws) ⟨rfl, ⟨_, rfl⟩, fun c h => by simp at h⟩ ?_ ?_⟩
      · rintro i c σ J3 hc ⟨rfl, ⟨v6, rfl⟩, hin⟩
        have hm : c ∈ abc.cps.toList := by
          rw [← Array.getElem?_toList] at hc
          exact List.mem_of_getElem? hc
        refine ⟨_, rfl, _, rfl, u, _, rfl, .inl (.inl (.inl hu2)), rfl, flat_strs ws, _, rfl, ?_⟩
        by_cases c1 : (⟨#[c]⟩ : Str) ∈ ws
        · refine iteN (by rw [inV_str, decide_eq_true c1]; decide) ⟨rfl, ⟨_, rfl⟩, fun e he => ?_⟩
          rw [all_take hc] at he
          rcases List.mem_append.mp he with h | h
          · exact hin e h
          · rw [List.mem_singleton.mp h]
            exact c1
        · refine iteY (by rw [inV_str, decide_eq_false c1]; rfl) ⟨_, rfl, q _ _ ?_ c1 d2⟩
          exact List.all_eq_true.mp signs_nm _ (List.mem_map.mpr ⟨c, hm, rfl⟩)
      · rintro σ J3 ⟨rfl, ⟨v6, rfl⟩, hin⟩
        have full : ∀ x ∈ signs, x ∈ ws := fun x hx => by
          obtain ⟨c, hc, rfl⟩ := List.mem_map.mp hx
          refine hin c ?_
          rw [show abc.cps.size = abc.cps.toList.length by simp, List.take_length]
          exact hc
        have := nodup_le signs_nd full
        rw [signs_len] at this
        omega
end
end W

namespace W
open PySem PySem.Spec PyProof.Rows L2
section
variable {P : Program} {w : World} {K : S.Frag} {mg : Str → Option Value} {base : Heap}
open S
/-! equal items -/
def dupB (f : V → V → Bool) (xs : List V) : Bool := (List.range xs.length).any fun i => match xs[i]? with | some y => (xs.take i).any fun z => f z y | none => false
def spEqI (K : S.Frag) : Sp := Sp1 fun x H Q _ => ∃ p xs n f, x = .ref p ∧ SqX K H p xs ∧ n ≤ 60 ∧ xs.length < 1000 ∧ (∀ H', Same H H' → ∀ y ∈ xs, ∀ z ∈ xs, EqOk K H' n z y (f z y)) ∧ ∀ H', Same H H' → Q (.bl (dupB f xs)) H'
theorem ok_has_equal_items (T : Txt K mg) : FnOk P w K mg base (L2.CX P w) 1 (He.fAd K ("has_equal_items", none)) (S.fdA K ("has_equal_items", none)) ["items"] (spEqI K) := by
  refine FunD.ok T.F_has_equal_items sc_has_equal_items (fun vs H Q E h => S.splen1 h) (fun cdv A outer s H vs Q E hr h => ?_)
  have hu := hu_of hr
  refine ⟨_, (pss_cons (ps_for (S.own_of rfl) rfl (pi_range1 rfl T.n_range (pa_cons (pe_callB (S.lenK (K := K) rfl) rfl T.n_len S.boot_len (pa_cons (pv 0) pa_nil)) pa_nil)) (pg_name (i := 1) sc_has_equal_items.nd rfl (by first | exact Or.inl rfl | exact Or.inr rfl))
        (pss_one (ps_if (pt_cmpR (S.inGK (K := K) rfl (S.hu64 hr)) (pe_ix (S.ixK (K := K) rfl) (pv 0) (pv 1) (fun _ _ => rfl)) (pe_slice (S.slSeqK (K := K) rfl) (pv 0) po_none (po_some (pv 1))) rfl) (pss_one (ps_ret pe_bl)) pss_nil)))
      (pss_one (ps_ret pe_bl))), ?_⟩
  obtain ⟨_, rfl, p, xs, n, f, rfl, hS, hn, hl, he, q⟩ := h
  refine ⟨_, rfl, _, _, rfl, lenVX hS, _, rfl, by omega, by omega, ?_⟩
  refine for_range (n := xs.length) (fun i σ J => Same H J ∧ (∃ t, σ = [some (.ref p), t]) ∧ ∀ j y, j < i → xs[j]? = some y → (xs.take j).any (fun z => f z y) = false) ⟨fun _ _ h => h, ⟨_, rfl⟩, fun _ _ h => absurd h (Nat.not_lt_zero _)⟩ ?_ ?_
  · rintro i σ J hi ⟨sJ, ⟨t, rfl⟩, no⟩
    have ey := List.getElem?_eq_getElem hi
    have e0 : ((0 : Int) + (i : Int)) = (i : Int) := by omega
    rw [e0]
    refine ⟨_, rfl, _, rfl, ixX (hS.same sJ) (atI_nat ey) ⟨_, rfl, _, rfl, _, rfl, sl_takeX (hS.same sJ) hi fun p' J2 hp s2 h2 => ⟨p', _, n, fun z => f z xs[i], rfl, h2, hn, fun z hz => he J2 (sJ.trans s2) _ (List.getElem_mem hi) _ (List.mem_of_mem_take hz), _, rfl, ?_⟩⟩⟩
    cases c : (xs.take i).any fun z => f z xs[i] with
    | true =>
      refine iteY rfl ?_
      have e : dupB f xs = true := by
        unfold dupB
        rw [List.any_eq_true]
        exact ⟨i, List.mem_range.mpr hi, by rw [ey]; exact c⟩
      rw [← e]
      exact q J2 (sJ.trans s2)
    | false =>
      refine iteN (by decide) ⟨sJ.trans s2, ⟨_, rfl⟩, fun j y hj hy => ?_⟩
      rcases Nat.lt_succ_iff_lt_or_eq.mp hj with h | rfl
      · exact no j y h hy
      · rw [ey] at hy
        cases hy
        exact c
  · rintro σ J ⟨sJ, ⟨t, rfl⟩, no⟩
    have e : dupB f xs = false := by
      unfold dupB
      rw [List.any_eq_false]
      intro i hi
      rw [List.mem_range] at hi
      rw [List.getElem?_eq_getElem hi]
      simpa using no i _ (by omega) (List.getElem?_eq_getElem hi)
    rw [← e]
    exact q J sJ
end
end W

namespace W
open PySem PySem.Spec PyProof.Rows L2
section
variable {P : Program} {w : World} {K : S.Frag} {mg : Str → Option Value} {base : Heap}
open S
/-! places and rows, as data -/
structure Pl where
  n : Str
  l : Int
  m : Int
  t : Bool
  deriving DecidableEq
abbrev PlA (K : S.Frag) (H : Hp) (p : Addr) (d : Pl) : Prop := PlAt K H p (.str d.n) (.int d.l) (.int d.m) (.bl d.t)
/-- a tracked list or tuple -/
def SqH (H : Hp) (a : Addr) (xs : List V) : Prop := H a = some (.lst xs) ∨ H a = some (.tup xs)
theorem SqH.x {H : Hp} {a : Addr} {xs : List V} (h : SqH H a xs) : SqX K H a xs := by
  rcases h with h | h
  · exact .inl (.inl (.inl h))
  · exact .inr (.inl (.inl h))
theorem SqH.same {H H' : Hp} {a : Addr} {xs : List V} (h : SqH H a xs) (s : Same H H') : SqH H' a xs := by
  rcases h with h | h
  · exact .inl (s _ _ h)
  · exact .inr (s _ _ h)
theorem SqH.ty {H : Hp} {a : Addr} {xs : List V} (h : SqH H a xs) : ∃ t, TyX K H (.ref a) t ∧ PySem.W.kitAny K t [.type "list", .type "tuple"] = some true := by
  rcases h with h | h
  · exact ⟨_, .base (.lst h), kitAny_cons (kit_ty (r := true) (by decide +kernel)) (fun z => nomatch z) (fun _ => rfl)⟩
  · exact ⟨_, .base (.tup h), kitAny_cons (kit_ty (r := false) (by decide +kernel)) (fun _ => kitAny_cons (kit_ty (r := true) (by decide +kernel)) (fun z => nomatch z) (fun _ => rfl)) (fun z => nomatch z)⟩
theorem nodup_dup {ws : List Str} (h : ws.Nodup) : dupB eqV (ws.map V.str) = false := by
  unfold dupB
  rw [List.any_eq_false]
  intro i hi
  rw [List.mem_range, List.length_map] at hi
  rw [List.getElem?_map, List.getElem?_eq_getElem hi]
  simp only [Option.map_some, Bool.not_eq_true, List.any_eq_false]
  intro z hz
  rw [← List.map_take] at hz
  obtain ⟨y, hy, rfl⟩ := List.mem_map.mp hz
  rw [eqV_str, decide_eq_false_iff_not]
  intro e
  obtain ⟨j, hj, ej⟩ := List.mem_iff_getElem.mp hy
  rw [List.length_take] at hj
  rw [List.getElem_take] at ej
  have := (List.pairwise_iff_getElem.mp h) j i (by omega) hi (by omega)
  exact this (ej.trans e)
theorem eq_strs {H : Hp} {n : Nat} {ws : List Str} : ∀ y ∈ ws.map V.str, ∀ z ∈ ws.map V.str, EqOk K H n z y (eqV z y) := fun y hy z hz => by
  obtain ⟨a, _, rfl⟩ := List.mem_map.mp hy
  obtain ⟨b, _, rfl⟩ := List.mem_map.mp hz
  exact eg_flat rfl rfl
def spPF (K : S.Frag) : Sp := Sp1 fun x H Q _ => ∃ (a : Addr) (ps : List (Addr × Pl)), x = .ref a ∧ SqH H a (ps.map fun z => .ref z.1) ∧ (∀ z ∈ ps, PlA K H z.1 z.2) ∧ 1 ≤ ps.length ∧ ps.length ≤ 6 ∧ (ps.map fun z => z.2.n).Nodup ∧ ∀ H', Same H H' → Q (.bl true) H'
/-- the nexts of these names, told by a dict -/
def spNF (K : S.Frag) : Sp := Sp2 fun x y H Q _ => ∃ (a d : Addr) (ws : List Str) (kvs : List (Key × V)), x = .ref a ∧ y = .ref d ∧ SqH H a (ws.map V.str) ∧ H d = some (.dK kvs) ∧ ws.length < 100 ∧ kvs.length = ws.length ∧
  (∀ z ∈ ws, ∃ (t : Addr) (ns : List Str), valV kvs (.inr z) = some (.ref t) ∧ H t = some (.tup (ns.map V.str)) ∧ ns.length < 100 ∧ ns.Nodup ∧ ∀ u ∈ ns, u ∈ ws) ∧ ∀ H', Same H H' → Q (.bl true) H'
theorem any_str {ws : List Str} {z : Str} (h : z ∈ ws) : ((ws.map V.str).any fun y => eqV y (.str z)) = true := by
  rw [List.any_eq_true]
  exact ⟨_, List.mem_map.mpr ⟨z, h, rfl⟩, by rw [eqV_str]; simp⟩
theorem mem_any {ws : List Str} {z : Str} : ((ws.map V.str).any fun y => eqV y (.str z)) = decide (z ∈ ws) := by
  rw [List.any_map, Bool.eq_iff_iff]
  simp only [List.any_eq_true, Function.comp, eqV_str, decide_eq_true_eq]
  constructor
  · rintro ⟨x, h, rfl⟩
    exact h
  · intro h
    exact ⟨z, h, rfl⟩
end
end W

namespace W
open PySem PySem.Spec PyProof.Rows L2
section
variable {P : Program} {w : World} {K : S.Frag} {mg : Str → Option Value} {base : Heap}
open S
theorem ok_BadProgram___init__ (T : Txt K mg) : FnOk P w K mg base (L2.CX P w) 1 (He.fAd K ("BadProgram", some "__init__")) (S.fdA K ("BadProgram", some "__init__")) ["self", "why"] (sp_err (He.ga K "BadProgram") "why") := by
  refine FunD.ok T.F_BadProgram___init__ sc_BadProgram___init__ (fun vs H Q E h => S.splen2 h) (fun cdv A outer s H vs Q E hr h => ?_)
  have hu := hu_of hr
  refine ⟨_, (pss_one (S.ps_ostK (K := K) rfl (pv 0) (pv 1) rfl)), ?_⟩
  obtain ⟨_, y, rfl, a, rfl, ha, k⟩ := h
  exact ⟨_, rfl, _, rfl, a, _, rfl, T.ox_BadProgram, T.xn_BadProgram_why, .inl ⟨ha, k⟩⟩
/-- a row: where its object stands, its place, where its nexts stand, its nexts -/
structure Rw where
  a : Addr
  d : Pl
  ta : Addr
  nx : List Str
def rNames (rows : List Rw) : List Str := rows.map fun r => r.d.n
def fldG (l u k : Addr) (s : Str) : List (Str × V) := [("places", .ref l), ("names", .ref u), ("start", .str s), ("links", .ref k)]
def RwA (K : S.Frag) (H : Hp) (r : Rw) : Prop := PlA K H r.a r.d ∧ H r.ta = some (.tup (r.nx.map V.str))
/-- a program stands at p -/
structure PgF (K : S.Frag) (H : Hp) (p dx l u k : Addr) (rows : List Rw) (s : Str) : Prop where
  at_ : H p = some (.ins (He.ga K "Program") dx (fldG l u k s))
  pl : H l = some (.lst (rows.map fun r => .ref r.a))
  nm : H u = some (.tup ((rNames rows).map V.str))
  lk : H k = some (.dK (rows.map fun r => (.inr r.d.n, .ref r.ta)))
  rw_ : ∀ r ∈ rows, RwA K H r
def PgAt (K : S.Frag) (H : Hp) (p : Addr) (rows : List Rw) (s : Str) : Prop := ∃ dx l u k, PgF K H p dx l u k rows s
theorem RwA.same {H H' : Hp} {r : Rw} (h : RwA K H r) (e : Same H H') : RwA K H' r := ⟨h.1.same e, e _ _ h.2⟩
theorem PgF.same {H H' : Hp} {p dx l u k : Addr} {rows : List Rw} {s : Str} (h : PgF K H p dx l u k rows s) (e : Same H H') : PgF K H' p dx l u k rows s :=
  ⟨e _ _ h.at_, e _ _ h.pl, e _ _ h.nm, e _ _ h.lk, fun r hr => (h.rw_ r hr).same e⟩
theorem PgAt.same {H H' : Hp} {p : Addr} {rows : List Rw} {s : Str} (h : PgAt K H p rows s) (e : Same H H') : PgAt K H' p rows s := let ⟨dx, l, u, k, f⟩ := h; ⟨dx, l, u, k, f.same e⟩
/-- all but p stands -/
def Kp (p : Addr) (H H' : Hp) : Prop := ∀ b o, b ≠ p → H b = some o → H' b = some o
theorem Kp.trans {p : Addr} {H H1 H2 : Hp} (x : Kp p H H1) (y : Kp p H1 H2) : Kp p H H2 := fun b o n h => y b o n (x b o n h)
theorem Kp.of {p : Addr} {H H' : Hp} (s : Same H H') : Kp p H H' := fun b o _ h => s b o h
theorem Kp.put {p : Addr} {H : Hp} {o : HO} : Kp p H (upd H p o) := fun b u n h => by rw [upd_ne n]; exact h
/-- right rows: distinct right names, their nexts among them -/
structure okRows (rows : List Rw) : Prop where
  l1 : 1 ≤ rows.length
  l6 : rows.length ≤ 6
  nd : (rNames rows).Nodup
  pl : ∀ r ∈ rows, isNm r.d.n = true ∧ 1 ≤ r.d.l ∧ r.d.l ≤ r.d.m ∧ r.d.m ≤ 6
  nx : ∀ r ∈ rows, r.nx.Nodup ∧ ∀ z ∈ r.nx, z ∈ rNames rows
theorem okRows.nxl {rows : List Rw} (o : okRows rows) {r : Rw} (h : r ∈ rows) : r.nx.length < 100 := by
  have := nodup_le (o.nx r h).1 (o.nx r h).2
  have l6 := o.l6
  unfold rNames at this
  rw [List.length_map] at this
  omega
theorem putK_new {kvs : List (Key × V)} {k : Key} {v : V} (h : ∀ q ∈ kvs, q.1 ≠ k) : putK kvs k v = kvs ++ [(k, v)] := by
  unfold putK
  rw [if_neg]
  rw [List.any_eq_true]
  rintro ⟨q, hq, e⟩
  exact h q hq (by simpa using e)
theorem get_lt {α : Type} {l : List α} {i : Nat} {x : α} (h : l[i]? = some x) : i < l.length := (List.getElem?_eq_some_iff.mp h).1
/-- the key at a place is none of those before it -/
theorem nodup_take {ws : List Str} {i : Nat} {z : Str} (nd : ws.Nodup) (h : ws[i]? = some z) : z ∉ ws.take i := by
  intro hm
  obtain ⟨j, hj, ej⟩ := List.mem_iff_getElem.mp hm
  rw [List.length_take] at hj
  rw [List.getElem_take] at ej
  obtain ⟨hi, ei⟩ := List.getElem?_eq_some_iff.mp h
  exact (List.pairwise_iff_getElem.mp nd) j i (by omega) hi (by omega) (ej.trans ei.symm)
def spProg (K : S.Frag) : Sp := Sp4 fun self x y z H Q _ => ∃ (p dx a d : Addr) (rows : List Rw) (kvs : List (Key × V)) (s : Str), self = .ref p ∧ H p = some (.ins (He.ga K "Program") dx []) ∧ x = .ref a ∧ SqH H a (rows.map fun r => .ref r.a) ∧ y = .ref d ∧ H d = some (.dK kvs) ∧
  kvs.length = rows.length ∧ okRows rows ∧ (∀ r ∈ rows, valV kvs (.inr r.d.n) = some (.ref r.ta) ∧ RwA K H r) ∧ ((z = .non ∧ (rNames rows)[0]? = some s) ∨ (z = .str s ∧ s ∈ rNames rows)) ∧
  ∀ H', Kp p H H' → PgAt K H' p rows s → Q .non H'
def spGet (K : S.Frag) : Sp := Sp2 fun x y H Q _ => ∃ (p : Addr) (rows : List Rw) (s : Str) (r : Rw), x = .ref p ∧ PgAt K H p rows s ∧ y = .str r.d.n ∧ r ∈ rows ∧ (rNames rows).Nodup ∧ Q (.ref r.a) H
theorem lg_places (l u k : Addr) (s : Str) : (fldG l u k s).lookup ("places" : Str) = some (.ref l) := by
  unfold fldG
  rw [lookup_put, if_pos rfl]
theorem lg_names (l u k : Addr) (s : Str) : (fldG l u k s).lookup ("names" : Str) = some (.ref u) := by
  unfold fldG
  rw [lookup_put, if_neg (by decide +kernel), lookup_put, if_pos rfl]
theorem lg_start (l u k : Addr) (s : Str) : (fldG l u k s).lookup ("start" : Str) = some (.str s) := by
  unfold fldG
  rw [lookup_put, if_neg (by decide +kernel), lookup_put, if_neg (by decide +kernel), lookup_put, if_pos rfl]
theorem lg_links (l u k : Addr) (s : Str) : (fldG l u k s).lookup ("links" : Str) = some (.ref k) := by
  unfold fldG
  rw [lookup_put, if_neg (by decide +kernel), lookup_put, if_neg (by decide +kernel), lookup_put, if_neg (by decide +kernel), lookup_put, if_pos rfl]
theorem nm_one {rows : List Rw} (nd : (rNames rows).Nodup) {r r' : Rw} (h : r ∈ rows) (h' : r' ∈ rows) (e : r.d.n = r'.d.n) : r = r' := by
  unfold rNames at nd
  obtain ⟨i, hi, rfl⟩ := List.mem_iff_getElem.mp h
  obtain ⟨j, hj, rfl⟩ := List.mem_iff_getElem.mp h'
  have q := List.pairwise_iff_getElem.mp nd
  simp only [List.length_map, List.getElem_map] at q
  rcases Nat.lt_trichotomy i j with g | g | g
  · exact absurd e (q i j hi hj g)
  · subst g; rfl
  · exact absurd e.symm (q j i hj hi g)
end
end W

namespace W
open PySem PySem.Spec PyProof.Rows L2
section
variable {P : Program} {w : World} {K : S.Frag} {mg : Str → Option Value} {base : Heap}
open S
/-! equal programs -/
def vw (rows : List Rw) : List (Pl × List Str) := rows.map fun r => (r.d, r.nx)
def tupOf (H : Hp) : V → List V
  | .ref a => match H a with
    | some (.tup xs) => xs
    | _ => []
  | _ => []
def lkOf (rows : List Rw) : List (Key × V) := rows.map fun r => (.inr r.d.n, .ref r.ta)
theorem valV_rows {rows : List Rw} (nd : (rNames rows).Nodup) {r : Rw} (h : r ∈ rows) : valV (lkOf rows) (.inr r.d.n) = some (.ref r.ta) := by
  unfold valV
  cases e : (lkOf rows).find? fun kv => decide (kv.1 = Sum.inr r.d.n) with
  | none =>
    have := List.find?_eq_none.mp e (.inr r.d.n, .ref r.ta) (List.mem_map.mpr ⟨r, h, rfl⟩)
    simp at this
  | some kv =>
    have h1 := List.find?_some e
    obtain ⟨r', hr', rfl⟩ := List.mem_map.mp (List.mem_of_find?_eq_some e)
    have h2 : r'.d.n = r.d.n := by simpa using h1
    have := nm_one nd hr' h h2
    subst this
    rfl
theorem valV_out {rows : List Rw} {z : Str} {y : V} (h : valV (lkOf rows) (.inr z) = some y) : ∃ r ∈ rows, r.d.n = z ∧ y = .ref r.ta := by
  unfold valV at h
  obtain ⟨kv, e, rfl⟩ := Option.map_eq_some_iff.mp h
  have h1 := List.find?_some e
  obtain ⟨r', hr', rfl⟩ := List.mem_map.mp (List.mem_of_find?_eq_some e)
  exact ⟨r', hr', by simpa using h1, rfl⟩
def fTup (H : Hp) (x y : V) : Bool := decide (tupOf H x = tupOf H y)
theorem tupOf_at {H : Hp} {a : Addr} {xs : List V} (h : H a = some (.tup xs)) : tupOf H (.ref a) = xs := by
  simp only [tupOf, h]
theorem names_at {rows rows' : List Rw} (e : rNames rows = rNames rows') {i : Nat} {r : Rw} (h : rows[i]? = some r) : ∃ r', rows'[i]? = some r' ∧ r'.d.n = r.d.n := by
  have : (rNames rows')[i]? = some r.d.n := by
    rw [← e]
    unfold rNames
    rw [List.getElem?_map, h]
    rfl
  unfold rNames at this
  rw [List.getElem?_map] at this
  exact Option.map_eq_some_iff.mp this
theorem hits_rows {H : Hp} {rows rows' : List Rw} (nd : (rNames rows').Nodup) (e : rNames rows = rNames rows') (h : ∀ r ∈ rows, H r.ta = some (.tup (r.nx.map V.str))) (h' : ∀ r ∈ rows', H r.ta = some (.tup (r.nx.map V.str))) :
    hitsV (fTup H) (lkOf rows) (lkOf rows') = decide (rows.map (·.nx) = rows'.map (·.nx)) := by
  unfold hitsV
  rw [Bool.eq_iff_iff, List.all_eq_true, decide_eq_true_eq]
  have one : ∀ (i : Nat) (r r' : Rw), rows[i]? = some r → rows'[i]? = some r' → ((match valV (lkOf rows') (.inr r.d.n) with | some y => fTup H (.ref r.ta) y | none => false) = true ↔ r.nx = r'.nx) := fun i r r' hr hr' => by
    obtain ⟨r2, e2, n2⟩ := names_at e hr
    rw [hr'] at e2
    cases e2
    rw [← n2, valV_rows nd (List.mem_of_getElem? hr')]
    show fTup H (.ref r.ta) (.ref r'.ta) = true ↔ _
    unfold fTup
    rw [decide_eq_true_eq, tupOf_at (h r (List.mem_of_getElem? hr)), tupOf_at (h' r' (List.mem_of_getElem? hr'))]
    exact ⟨mapS_inj, fun z => by rw [z]⟩
  have ln : rows.length = rows'.length := by
    have := congrArg List.length e
    unfold rNames at this
    rwa [List.length_map, List.length_map] at this
  constructor
  · intro al
    refine List.ext_getElem? fun i => ?_
    rw [List.getElem?_map, List.getElem?_map]
    cases hr : rows[i]? with
    | none =>
      rw [List.getElem?_eq_none (by have := List.getElem?_eq_none_iff.mp hr; omega)]
    | some r =>
      obtain ⟨r', e', _⟩ := names_at e hr
      rw [e']
      have := (one i r r' hr e').mp (al (.inr r.d.n, .ref r.ta) (List.mem_map.mpr ⟨r, List.mem_of_getElem? hr, rfl⟩))
      simp [this]
  · rintro eq p hp
    obtain ⟨r, hm, rfl⟩ := List.mem_map.mp hp
    obtain ⟨i, hi⟩ := List.getElem?_of_mem hm
    obtain ⟨r', e', _⟩ := names_at e hi
    refine (one i r r' hi e').mpr ?_
    have := congrArg (fun l => l[i]?) eq
    simp only [List.getElem?_map, hi, e', Option.map_some, Option.some.injEq] at this
    exact this
theorem eg_key {H : Hp} {k k' : Addr} {d d' : Pl} (h : H k = some (.tup [.str d.n, .int d.l, .int d.m, .bl d.t])) (h' : H k' = some (.tup [.str d'.n, .int d'.l, .int d'.m, .bl d'.t])) : EqG K H 5 (.ref k) (.ref k') (decide (d = d')) := by
  have q := eg_dat (K := K) (H := H) (.tup (.inl (.inl h)) (.cons (.str _) (.cons (.int _) (.cons (.int _) (.cons (.bl _) .nil))))) (.tup (.inl (.inl h')) (.cons (.str _) (.cons (.int _) (.cons (.int _) (.cons (.bl _) .nil))))) rfl rfl
  refine (q.to ?_).up (by simp [PyData.depth, PyData.depthAll])
  obtain ⟨a, b, c, e⟩ := d
  obtain ⟨a', b', c', e'⟩ := d'
  simp only [PyData.eqv, PyData.eqvAll]
  rw [Bool.eq_iff_iff]
  simp
def spPgEq (K : S.Frag) : Sp := Sp2 fun x y H Q _ => ∃ (p p' : Addr) (rows rows' : List Rw) (s s' : Str), x = .ref p ∧ y = .ref p' ∧ PgAt K H p rows s ∧ PgAt K H p' rows' s' ∧ okRows rows ∧ okRows rows' ∧
  ∀ H', Same H H' → Q (.bl (decide (vw rows = vw rows' ∧ s = s'))) H'
theorem vw_names {rows rows' : List Rw} (h : vw rows = vw rows') : rNames rows = rNames rows' := by
  have := congrArg (List.map fun z : Pl × List Str => z.1.n) h
  unfold vw at this
  rw [List.map_map, List.map_map] at this
  exact this
theorem vw_nx {rows rows' : List Rw} (h : vw rows = vw rows') : rows.map (·.nx) = rows'.map (·.nx) := by
  have := congrArg (List.map Prod.snd) h
  unfold vw at this
  rw [List.map_map, List.map_map] at this
  exact this
theorem vw_of {rows rows' : List Rw} (hl : rows.length = rows'.length) (h1 : ∀ (i : Nat) (r r' : Rw), i < rows.length → rows[i]? = some r → rows'[i]? = some r' → r.d = r'.d) (h2 : rows.map (·.nx) = rows'.map (·.nx)) : vw rows = vw rows' := by
  unfold vw
  refine List.ext_getElem? fun i => ?_
  rw [List.getElem?_map, List.getElem?_map]
  by_cases c : i < rows.length
  · have e1 := List.getElem?_eq_getElem c
    have e2 := List.getElem?_eq_getElem (show i < rows'.length by omega)
    have n := congrArg (fun l => l[i]?) h2
    simp only [List.getElem?_map, e1, e2, Option.map_some, Option.some.injEq] at n
    rw [e1, e2]
    simp [h1 i _ _ c e1 e2, n]
  · rw [List.getElem?_eq_none (by omega), List.getElem?_eq_none (by omega)]
end
end W

namespace W
open PySem PySem.Spec PyProof.Rows L2
section
variable {P : Program} {w : World} {K : S.Frag} {mg : Str → Option Value} {base : Heap}
open S
/-! draws go on, all else stands -/
structure Dw (H H' : Hp) : Prop where
  kp : ∀ b o, (∀ n : Int, o ≠ .lst [.int n]) → H b = some o → H' b = some o
  dr : ∀ (b : Addr) (n : Int), H b = some (.lst [.int n]) → ∃ m : Int, H' b = some (.lst [.int m])
theorem Dw.refl {H : Hp} : Dw H H := ⟨fun _ _ _ h => h, fun _ n h => ⟨n, h⟩⟩
theorem Dw.trans {H H1 H2 : Hp} (x : Dw H H1) (y : Dw H1 H2) : Dw H H2 := ⟨fun b o n h => y.kp b o n (x.kp b o n h), fun b n h => let ⟨m, e⟩ := x.dr b n h; y.dr b m e⟩
theorem Dw.of {H H' : Hp} (s : Same H H') : Dw H H' := ⟨fun b o _ h => s b o h, fun b n h => ⟨n, s _ _ h⟩⟩
theorem Dw.new {H : Hp} {p : Addr} {o : HO} (h : H p = none) : Dw H (upd H p o) := Dw.of (Same.new h)
theorem Dw.take {H : Hp} {a : Addr} {n m : Int} (h : H a = some (.lst [.int n])) : Dw H (upd H a (.lst [.int m])) := by
  refine ⟨fun b o no hb => ?_, fun b n' hb => ?_⟩
  · by_cases e : b = a
    · subst e
      rw [h] at hb
      cases hb
      exact absurd rfl (no n)
    · rw [upd_ne e]; exact hb
  · by_cases e : b = a
    · subst e
      exact ⟨m, upd_same⟩
    · exact ⟨n', by rw [upd_ne e]; exact hb⟩
theorem Dw.dr_ {H H' : Hp} {a : Addr} {n : Int} (h : H a = some (.lst [.int n])) (d : Dr a H H') : Dw H H' := by
  refine ⟨fun b o no hb => ?_, fun b n' hb => ?_⟩
  · by_cases e : b = a
    · subst e
      rw [h] at hb
      cases hb
      exact absurd rfl (no n)
    · exact d.kp b o e hb
  · by_cases e : b = a
    · subst e
      exact d.at_
    · exact ⟨n', d.kp b _ e hb⟩
theorem Dw.fresh {H J : Hp} {p : Addr} {o : HO} (d : Dw H J) (h : H p = none) : Dw H (upd J p o) :=
  ⟨fun b u no hb => by rw [upd_ne (ne_of_none hb h)]; exact d.kp b u no hb, fun b n hb => by rw [upd_ne (ne_of_none hb h)]; exact d.dr b n hb⟩
theorem Dw.back {H J : Hp} {p : Addr} (d : Dw H J) (h : J p = none) : H p = none := by
  cases e : H p with
  | none => rfl
  | some o =>
    by_cases c : ∃ n : Int, o = .lst [.int n]
    · obtain ⟨n, rfl⟩ := c
      obtain ⟨m, e2⟩ := d.dr p n e
      rw [h] at e2
      cases e2
    · have := d.kp p o (fun n z => c ⟨n, z⟩) e
      rw [h] at this
      cases this
theorem Dw.tup {H J : Hp} {a : Addr} {xs : List V} (d : Dw H J) (h : H a = some (.tup xs)) : J a = some (.tup xs) := d.kp _ _ (fun _ z => by cases z) h
theorem Dw.dK {H J : Hp} {a : Addr} {xs : List (Key × V)} (d : Dw H J) (h : H a = some (.dK xs)) : J a = some (.dK xs) := d.kp _ _ (fun _ z => by cases z) h
theorem Dw.ins {H J : Hp} {a C dx : Addr} {xs : List (Str × V)} (d : Dw H J) (h : H a = some (.ins C dx xs)) : J a = some (.ins C dx xs) := d.kp _ _ (fun _ z => by cases z) h
theorem Dw.refs {H J : Hp} {a : Addr} {xs : List Addr} (d : Dw H J) (h : H a = some (.lst (xs.map V.ref))) : J a = some (.lst (xs.map V.ref)) := d.kp _ _ (fun n z => by cases xs with | nil => cases z | cons y ys => cases z) h
theorem Dw.strs {H J : Hp} {a : Addr} {xs : List Str} (d : Dw H J) (h : H a = some (.lst (xs.map V.str))) : J a = some (.lst (xs.map V.str)) := d.kp _ _ (fun n z => by cases xs with | nil => cases z | cons y ys => cases z) h
/-! the law's rows -/
def rowL (r : Rw) : List V := [.str r.d.n, .int r.d.l, .int r.d.m, .bl r.d.t, .ref r.ta]
structure RowsAt (H : Hp) (R : Addr) (rows : List Rw) : Prop where
  at_ : H R = some (.lst (rows.map fun r => .ref r.a))
  row : ∀ r ∈ rows, H r.a = some (.lst (rowL r)) ∧ H r.ta = some (.tup (r.nx.map V.str))
theorem Dw.row {H J : Hp} {a : Addr} {r : Rw} (d : Dw H J) (h : H a = some (.lst (rowL r))) : J a = some (.lst (rowL r)) := d.kp _ _ (fun n z => by unfold rowL at z; cases z) h
theorem Dw.rref {H J : Hp} {a : Addr} {rows : List Rw} (d : Dw H J) (h : H a = some (.lst (rows.map fun r => .ref r.a))) : J a = some (.lst (rows.map fun r => .ref r.a)) := by
  have e : (rows.map fun r => V.ref r.a) = (rows.map fun r => r.a).map V.ref := by rw [List.map_map]; rfl
  rw [e] at h ⊢
  exact d.refs h
theorem RowsAt.dw {H J : Hp} {R : Addr} {rows : List Rw} (h : RowsAt H R rows) (d : Dw H J) : RowsAt J R rows := ⟨d.rref h.at_, fun r hr => ⟨d.row (h.row r hr).1, d.tup (h.row r hr).2⟩⟩
theorem RowsAt.same {H J : Hp} {R : Addr} {rows : List Rw} (h : RowsAt H R rows) (d : Same H J) : RowsAt J R rows := h.dw (.of d)
/-- what _law_rows makes -/
structure okDrawn (M G : Int) (rows : List Rw) : Prop where
  ok : okRows rows
  many : (rows.length : Int) ≤ M
  long : ∀ r ∈ rows, r.d.m ≤ G
  nda : (rows.map fun r => r.a).Nodup
def spRows (K : S.Frag) : Sp := Sp4 fun x y m g H Q _ => ∃ (a u : Addr) (n1 n2 M G : Int), x = .ref a ∧ y = .ref u ∧ H a = some (.lst [.int n1]) ∧ H u = some (.lst [.int n2]) ∧ m = .int M ∧ 1 ≤ M ∧ M ≤ 6 ∧ g = .int G ∧ 1 ≤ G ∧ G ≤ 6 ∧
  ∀ R rows H', Dw H H' → H R = none → (∀ r ∈ rows, H r.a = none) → RowsAt H' R rows → okDrawn M G rows → Q (.ref R) H'
theorem mod_inj {n s w j j' : Int} (hn : 0 < n) (hw : w = 1 ∨ w = -1) (h0 : 0 ≤ j) (h1 : j < n) (h0' : 0 ≤ j') (h1' : j' < n) (e : (s + w * j) % n = (s + w * j') % n) : j = j' := by
  have h := Int.emod_emod_of_dvd
  have d : (n : Int) ∣ (s + w * j) - (s + w * j') := Int.dvd_of_emod_eq_zero (by rw [Int.sub_emod, e, Int.sub_self]; simp)
  obtain ⟨c, hc⟩ := d
  rcases hw with rfl | rfl
  · have e2 : j - j' = n * c := by rw [← hc]; omega
    have : c = 0 := by
      rcases Int.lt_trichotomy c 0 with z | z | z
      · have : n * c ≤ n * (-1) := Int.mul_le_mul_of_nonneg_left (by omega) (by omega)
        omega
      · exact z
      · have : n * 1 ≤ n * c := Int.mul_le_mul_of_nonneg_left (by omega) (by omega)
        omega
    subst this
    omega
  · have e2 : j' - j = n * c := by rw [← hc]; omega
    have : c = 0 := by
      rcases Int.lt_trichotomy c 0 with z | z | z
      · have : n * c ≤ n * (-1) := Int.mul_le_mul_of_nonneg_left (by omega) (by omega)
        omega
      · exact z
      · have : n * 1 ≤ n * c := Int.mul_le_mul_of_nonneg_left (by omega) (by omega)
        omega
    subst this
    omega
/-- rows whose nexts are not drawn yet -/
structure okRaw (G : Int) (rows : List Rw) : Prop where
  nd : (rNames rows).Nodup
  pl : ∀ r ∈ rows, isNm r.d.n = true ∧ 1 ≤ r.d.l ∧ r.d.l ≤ r.d.m ∧ r.d.m ≤ G
  nda : (rows.map fun r => r.a).Nodup
  nx : ∀ r ∈ rows, r.nx = []
theorem row_ne {H : Hp} {R : Addr} {rows : List Rw} {r : Rw} (h : H r.a = some (.lst (rowL r))) (hR : H R = some (.lst (rows.map fun r => .ref r.a))) : r.a ≠ R := ne_of h hR (by
  intro z
  injection z with z
  unfold rowL at z
  cases rows with
  | nil => cases z
  | cons y ys => cases z)
theorem nda_ne {rows : List Rw} (nd : (rows.map fun r => r.a).Nodup) {i j : Nat} {r r' : Rw} (hi : rows[i]? = some r) (hj : rows[j]? = some r') (e : r.a = r'.a) : i = j := by
  obtain ⟨h1, e1⟩ := List.getElem?_eq_some_iff.mp hi
  obtain ⟨h2, e2⟩ := List.getElem?_eq_some_iff.mp hj
  have q := List.pairwise_iff_getElem.mp nd
  simp only [List.length_map, List.getElem_map] at q
  rcases Nat.lt_trichotomy i j with g | g | g
  · exact absurd (by rw [e1, e2]; exact e) (q i j h1 h2 g)
  · exact g
  · exact absurd (by rw [e1, e2]; exact e.symm) (q j i h2 h1 g)
theorem set_same {α : Type} {l : List α} {i : Nat} {x : α} (h : l[i]? = some x) : l.set i x = l := by
  refine List.ext_getElem? fun k => ?_
  rw [List.getElem?_set]
  split
  · rename_i e
    subst e
    rw [h, if_pos (List.getElem?_eq_some_iff.mp h).1]
  · rfl
theorem getD_lt {α : Type} (l : List α) (d : α) {n : Nat} (h : n < l.length) : l.getD n d = l[n] := by
  rw [List.getD_eq_getElem?_getD, List.getElem?_eq_getElem h]
  rfl
def nmAt (rows : List Rw) (sh ww : Int) (k : Nat) : Str := (rNames rows).getD ((sh + ww * (k : Int)) % (rows.length : Int)).toNat ""
/-- one row's nexts are stored -/
theorem RowsAt.store {H : Hp} {R tt : Addr} {rows : List Rw} {i : Nat} {r : Rw} {ns : List Str} (h : RowsAt H R rows) (nd : (rows.map fun r => r.a).Nodup) (hi : rows[i]? = some r) (ht : H tt = some (.tup (ns.map V.str))) :
    RowsAt (upd H r.a (.lst (rowL { r with ta := tt, nx := ns }))) R (rows.set i { r with ta := tt, nx := ns }) := by
  have hr := h.row r (List.mem_of_getElem? hi)
  obtain ⟨hlt, ei⟩ := List.getElem?_eq_some_iff.mp hi
  refine ⟨?_, fun r' hr' => ?_⟩
  · rw [upd_ne (row_ne hr.1 h.at_).symm, h.at_, List.map_set]
    rw [set_same]
    rw [List.getElem?_map, hi]
    rfl
  · obtain ⟨j, hj, rfl⟩ := List.mem_iff_getElem.mp hr'
    rw [List.getElem_set]
    rw [List.length_set] at hj
    split
    · refine ⟨upd_same, ?_⟩
      rw [upd_ne (ne_of ht hr.1 (by intro z; cases z))]
      exact ht
    · rename_i ne
      have e2 := List.getElem?_eq_getElem hj
      have h2 := h.row _ (List.mem_of_getElem? e2)
      have n1 : (rows[j]).a ≠ r.a := fun z => ne (nda_ne nd hi e2 z.symm)
      rw [upd_ne n1, upd_ne (ne_of h2.2 hr.1 (by intro z; cases z))]
      exact h2
theorem ok__law_rows (T : Txt K mg) : FnOk P w K mg base (L2.CX P w) 3 (He.fAd K ("_law_rows", none)) (S.fdA K ("_law_rows", none)) ["_law_draw", "_law_words", "_law_many", "_law_longest"] (spRows K) := by
  have G__law_take := ok__law_take (P := P) (w := w) (base := base) T
  have G__law_name := ok__law_name (P := P) (w := w) (base := base) T
  refine FunD.ok T.F__law_rows sc__law_rows (fun vs H Q E h => S.splen4 h) (fun cdv A outer s H vs Q E hr h => ?_)
  have hu := hu_of hr
  refine ⟨_, (pss_cons (ps_set (i := 4) sc__law_rows.nd rfl (by first | exact Or.inl rfl | exact Or.inr rfl) (pe_lst pa_nil))
      (pss_cons (ps_for (S.own_of rfl) rfl (pi_range1 rfl T.n_range (pa_cons (pe_op op_add pe_int (S.pe_fnS G__law_take (hr.mono (by decide)) rfl T.g__law_take T.F__law_take.kp (kb__law_take_2 T) S.pas0 (pa_cons (pv 0) (pa_cons (pv 2) pa_nil)) pk_nil rfl rfl)) pa_nil)) (pg_name (i := 5) sc__law_rows.nd rfl (by first | exact Or.inl rfl | exact Or.inr rfl))
        (pss_cons (ps_set (i := 6) sc__law_rows.nd rfl (by first | exact Or.inl rfl | exact Or.inr rfl) (S.pe_fnS G__law_name (hr.mono (by decide)) rfl T.g__law_name T.F__law_name.kp (kb__law_name_2 T) S.pas0 (pa_cons (pv 1) (pa_cons (pe_lc (own := [("_law_row_here", 7)]) (g := gName 7) (tt := tYes) rfl sc__law_rows.nd (S.pi_seqK (K := K) rfl (pv 4)) (blkOk_by (N := ["_law_draw", "_law_words", "_law_many", "_law_longest", "_law_rows_here", "_law_k", "_law_word", "_law_row_here", "_law_low", "_law_shift", "_law_way", "_law_found", "_law_j"]) (sc := defScope s__law_rows) (by decide +kernel)) (fun _ _ _ _ _ => pg_name (i := 7) sc__law_rows.nd rfl (by first | exact Or.inl rfl | exact Or.inr rfl)) (fun _ _ _ _ _ => pts_nil) (fun _ _ _ _ _ => (pe_ix (S.ixK (K := K) rfl) (pv 7) pe_int (fun _ _ => rfl)))) pa_nil)) pk_nil rfl rfl))
      (pss_cons (ps_set (i := 8) sc__law_rows.nd rfl (by first | exact Or.inl rfl | exact Or.inr rfl) (pe_op op_add pe_int (S.pe_fnS G__law_take (hr.mono (by decide)) rfl T.g__law_take T.F__law_take.kp (kb__law_take_2 T) S.pas0 (pa_cons (pv 0) (pa_cons (pv 3) pa_nil)) pk_nil rfl rfl)))
      (pss_one (ps_expr (pe_bm PySem.F.plainAttrs_list PySem.F.slot_list_append PySem.F.type_list_append mt_append (pv 4) (pa_cons (pe_lst (pa_cons (pv 6) (pa_cons (pv 8) (pa_cons (pe_op op_add (pv 8) (S.pe_fnS G__law_take (hr.mono (by decide)) rfl T.g__law_take T.F__law_take.kp (kb__law_take_2 T) S.pas0 (pa_cons (pv 0) (pa_cons (pe_op op_sub (pe_op op_add (pv 3) pe_int) (pv 8)) pa_nil)) pk_nil rfl rfl)) (pa_cons (pe_cmpR op_gt (S.pe_fnS G__law_take (hr.mono (by decide)) rfl T.g__law_take T.F__law_take.kp (kb__law_take_2 T) S.pas0 (pa_cons (pv 0) (pa_cons pe_int pa_nil)) pk_nil rfl rfl) pe_int (nomark _)) (pa_cons (pe_tup pa_nil) pa_nil)))))) pa_nil)))))))
      (pss_cons (ps_for (S.own_of rfl) rfl (pi_range1 rfl T.n_range (pa_cons (pe_callB (S.lenK (K := K) rfl) rfl T.n_len S.boot_len (pa_cons (pv 4) pa_nil)) pa_nil)) (pg_name (i := 5) sc__law_rows.nd rfl (by first | exact Or.inl rfl | exact Or.inr rfl))
        (pss_cons (ps_set (i := 9) sc__law_rows.nd rfl (by first | exact Or.inl rfl | exact Or.inr rfl) (S.pe_fnS G__law_take (hr.mono (by decide)) rfl T.g__law_take T.F__law_take.kp (kb__law_take_2 T) S.pas0 (pa_cons (pv 0) (pa_cons (pe_callB (S.lenK (K := K) rfl) rfl T.n_len S.boot_len (pa_cons (pv 4) pa_nil)) pa_nil)) pk_nil rfl rfl))
      (pss_cons (ps_set (i := 10) sc__law_rows.nd rfl (by first | exact Or.inl rfl | exact Or.inr rfl) (pe_op op_sub pe_int (pe_op S.op_mulA pe_int (S.pe_fnS G__law_take (hr.mono (by decide)) rfl T.g__law_take T.F__law_take.kp (kb__law_take_2 T) S.pas0 (pa_cons (pv 0) (pa_cons pe_int pa_nil)) pk_nil rfl rfl))))
      (pss_cons (ps_set (i := 11) sc__law_rows.nd rfl (by first | exact Or.inl rfl | exact Or.inr rfl) (pe_lst pa_nil))
      (pss_cons (ps_for (S.own_of rfl) rfl (pi_range1 rfl T.n_range (pa_cons (pe_callB (S.lenK (K := K) rfl) rfl T.n_len S.boot_len (pa_cons (pv 4) pa_nil)) pa_nil)) (pg_name (i := 12) sc__law_rows.nd rfl (by first | exact Or.inl rfl | exact Or.inr rfl))
        (pss_one (ps_if (pt_cmpR op_gt (S.pe_fnS G__law_take (hr.mono (by decide)) rfl T.g__law_take T.F__law_take.kp (kb__law_take_2 T) S.pas0 (pa_cons (pv 0) (pa_cons pe_int pa_nil)) pk_nil rfl rfl) pe_int (nomark _)) (pss_one (ps_expr (pe_bm PySem.F.plainAttrs_list PySem.F.slot_list_append PySem.F.type_list_append mt_append (pv 11) (pa_cons (pe_ix (S.ixK (K := K) rfl) (pe_ix (S.ixK (K := K) rfl) (pv 4) (pe_op op_mod (pe_op op_add (pv 9) (pe_op S.op_mulA (pv 10) (pv 12))) (pe_callB (S.lenK (K := K) rfl) rfl T.n_len S.boot_len (pa_cons (pv 4) pa_nil))) (fun _ _ => rfl)) pe_int (fun _ _ => rfl)) pa_nil)))) pss_nil)))
      (pss_cons (ps_set (i := 7) sc__law_rows.nd rfl (by first | exact Or.inl rfl | exact Or.inr rfl) (pe_ix (S.ixK (K := K) rfl) (pv 4) (pv 5) (fun _ _ => rfl)))
      (pss_one (ps_asg (pe_callTy (S.tupOfK (K := K) rfl) rfl T.n_tuple S.boot_tuple (pa_cons (pv 11) pa_nil)) (pg_sub (pv 7) pe_int set_list)))))))))
      (pss_one (ps_ret (pv 4)))))), ?_⟩
  obtain ⟨_, _, _, _, rfl, a, u, n1, n2, M, G, rfl, rfl, ha, hu0, rfl, m1, m6, rfl, g1, g6, q⟩ := h
  have nau : ∀ {J : Hp} {D : Addr}, J u = some (.lst [.int n2]) → J D = none → u ≠ D := fun h1 h2 => ne_of_none h1 h2
  refine ⟨by decide, fun R hR => ?_⟩
  refine ⟨_, rfl, _, rfl, rfl, rfl, _, _, rfl, a, n1, M, rfl, Same.new hR _ _ ha, rfl, by omega, by omega, fun t0 n' t1 t2 => ⟨_, _, rfl, rfl, _, rfl, by omega, by omega, ?_⟩⟩
  have d0 : Dw H (upd (upd H R (.lst [])) a (.lst [.int n'])) := (Dw.new hR).trans (Dw.take (Same.new hR _ _ ha))
  have eR0 : upd (upd H R (.lst [])) a (.lst [.int n']) R = some (.lst []) := by rw [upd_ne (ne_of_none ha hR).symm]; exact upd_same
  refine for_range (n := (1 + t0).toNat) (fun i σ J => Dw H J ∧ (∃ v5 v6 v7 v8, σ = [some (.ref a), some (.ref u), some (.int M), some (.int G), some (.ref R), v5, v6, v7, v8, none, none, none, none]) ∧ ∃ rows, RowsAt J R rows ∧ rows.length = i ∧ okRaw G rows ∧ ∀ r ∈ rows, H r.a = none) ⟨d0, ⟨_, _, _, _, rfl⟩, [], ⟨eR0, fun _ h => by cases h⟩, rfl, ⟨List.nodup_nil, (fun _ h => by cases h), List.nodup_nil, fun _ h => by cases h⟩, fun _ h => by cases h⟩ ?_ ?_
  · rintro i σ J hi ⟨d, ⟨v5, v6, v7, v8, rfl⟩, rows, hr0, hl, ok, fr⟩
    obtain ⟨na, ea⟩ := d.dr _ _ ha
    obtain ⟨nu, eu⟩ := d.dr _ _ hu0
    refine ⟨_, rfl, _, rfl, R, _, rfl, .inl (.inl (.inl hr0.at_)), fun It wk D hD => lc_seq wk (fun i J' => Same J J' ∧ J' D = some (.lst (((rNames rows).take i).map V.str))) ⟨Same.new hD, upd_same⟩ (fun i J' _ h => h.1) ?_ ?_⟩
    · rintro j x J' hx ⟨sJ, eD⟩
      rw [List.getElem?_map] at hx
      obtain ⟨r, hr', rfl⟩ := Option.map_eq_some_iff.mp hx
      refine ⟨rfl, yesT ?_⟩
      refine iteT ⟨_, rfl, ix3 ((hr0.same sJ).row r (List.mem_of_getElem? hr')).1 rfl ⟨_, eD, ?_, Same.upd sJ hD, ?_⟩⟩
      · rw [List.length_map, List.length_take]
        unfold rNames
        rw [List.length_map]
        exact Nat.lt_of_le_of_lt (show min j rows.length ≤ 100 by omega) (by decide)
      · have e : (rNames rows)[j]? = some r.d.n := by unfold rNames; rw [List.getElem?_map, hr']; rfl
        rw [upd_same, List.take_add_one, e, List.map_append]
        rfl
    · rintro J1 ⟨s1, eD⟩
      have eD : J1 D = some (.lst ((rNames rows).map V.str)) := by
        have e : (rows.map fun r => V.ref r.a).length = (rNames rows).length := by unfold rNames; rw [List.length_map, List.length_map]
        rw [e, List.take_length] at eD
        exact eD
      refine ⟨rfl, rfl, _, _, rfl, u, D, nu, rNames rows, rfl, rfl, ne_of_none eu hD, s1 _ _ eu, eD, by unfold rNames; rw [List.length_map]; omega, fun z J2 hz hzn dz => ?_⟩
      have d2 : Dw H J2 := (d.trans (.of s1)).trans (.dr_ (s1 _ _ eu) dz)
      have r2 : RowsAt J2 R rows := (hr0.same s1).dw (.dr_ (s1 _ _ eu) dz)
      obtain ⟨n3, e3⟩ := d2.dr _ _ ha
      refine ⟨_, rfl, _, rfl, rfl, rfl, _, _, rfl, a, n3, G, rfl, e3, rfl, by omega, by omega, fun lo n4 lo0 lo1 => ⟨_, _, rfl, rfl, ?_⟩⟩
      have d3 := d2.trans (Dw.take (m := n4) e3)
      have r3 := r2.dw (Dw.take (m := n4) e3)
      refine ⟨_, rfl, .inl ⟨rfl, _, .inl (.inl r3.at_)⟩, ?_⟩
      refine ⟨_, rfl, _, rfl, _, rfl, _, rfl, _, rfl, _, _, rfl, rfl, _, rfl, _, _, rfl, rfl, rfl, rfl, _, _, rfl, a, n4, _, rfl, upd_same, rfl, by omega, by omega, fun hi' n5 hi0 hi1 => ⟨_, _, rfl, rfl, ?_⟩⟩
      have d4 := d3.trans (Dw.take (m := n5) upd_same)
      have r4 := r3.dw (Dw.take (m := n5) upd_same)
      refine ⟨_, rfl, rfl, rfl, _, _, rfl, a, n5, 3, rfl, upd_same, rfl, by decide, by decide, fun lt n6 lt0 lt1 => ⟨_, _, rfl, rfl, ?_⟩⟩
      have d5 := d4.trans (Dw.take (m := n6) upd_same)
      have r5 := r4.dw (Dw.take (m := n6) upd_same)
      refine ⟨by decide, fun ta hta => ⟨by show 5 ≤ sizeLine; decide, fun ra hra => ?_⟩⟩
      have d6 := (d5.trans (Dw.new (o := .tup []) hta)).trans (Dw.new (o := .lst [.str z, .int (1 + lo), .int (1 + lo + hi'), .bl (decide (0 < lt)), .ref ta]) hra)
      have r6 := (r5.dw (Dw.new (o := .tup []) hta)).dw (Dw.new (o := .lst [.str z, .int (1 + lo), .int (1 + lo + hi'), .bl (decide (0 < lt)), .ref ta]) hra)
      have rR : ra ≠ R := (ne_of_none (Same.new hta _ _ r5.at_) hra).symm
      have tR : ta ≠ R := (ne_of_none r5.at_ hta).symm
      have tr : ta ≠ ra := ne_of_none upd_same hra
      have fra : H ra = none := (d5.trans (Dw.new (o := .tup []) hta)).back hra
      refine ⟨R, _, _, rfl, rfl, r6.at_, by rw [List.length_map]; exact Nat.lt_of_le_of_lt (show rows.length ≤ 100 by omega) (by decide), d6.fresh hR, ⟨_, _, _, _, rfl⟩, rows ++ [⟨ra, ⟨z, 1 + lo, 1 + lo + hi', decide (0 < lt)⟩, ta, []⟩], ⟨by rw [upd_same, List.map_append]; rfl, fun r hr' => ?_⟩, by simp [hl], ⟨?_, fun r hr' => ?_, ?_, fun r hr' => ?_⟩, fun r hr' => ?_⟩
      · rcases List.mem_append.mp hr' with h | h
        · have h2 := r6.row r h
          rw [upd_ne (row_ne h2.1 r6.at_), upd_ne (ne_of h2.2 r6.at_ (by intro z; cases z))]
          exact h2
        · rw [List.mem_singleton.mp h]
          refine ⟨?_, ?_⟩
          · show upd _ R _ ra = _
            rw [upd_ne rR, upd_same]
            rfl
          · show upd _ R _ ta = _
            rw [upd_ne tR, upd_ne tr, upd_same]
            rfl
      · unfold rNames
        rw [List.map_append]
        refine List.nodup_append.mpr ⟨ok.nd, by simp, fun x hx y hy => ?_⟩
        rw [show y = z by simpa using hy]
        exact fun e => hzn (e ▸ hx)
      · rcases List.mem_append.mp hr' with h | h
        · exact ok.pl r h
        · rw [List.mem_singleton.mp h]
          exact ⟨hz, by show 1 ≤ 1 + lo; omega, by show 1 + lo ≤ 1 + lo + hi'; omega, by show 1 + lo + hi' ≤ G; omega⟩
      · rw [List.map_append]
        refine List.nodup_append.mpr ⟨ok.nda, by simp, fun x hx y hy => ?_⟩
        rw [show y = ra by simpa using hy]
        obtain ⟨r, hr', rfl⟩ := List.mem_map.mp hx
        exact ne_of_none ((r5.dw (Dw.new (o := .tup []) hta)).row r hr').1 hra
      · rcases List.mem_append.mp hr' with h | h
        · exact ok.nx r h
        · rw [List.mem_singleton.mp h]
      · rcases List.mem_append.mp hr' with h | h
        · exact fr r h
        · rw [List.mem_singleton.mp h]
          exact fra
  · rintro σ J ⟨d, ⟨v5, v6, v7, v8, rfl⟩, rows, hr0, hl, ok, fr⟩
    have lp : 1 ≤ rows.length := by omega
    have l6 : rows.length ≤ 6 := by omega
    have lm : (rows.map fun r => V.ref r.a).length = rows.length := List.length_map _
    refine ⟨_, rfl, _, _, rfl, lenVX (.inl (.inl (.inl hr0.at_))), _, rfl, by omega, by omega, ?_⟩
    refine for_range (n := (rows.map fun r => V.ref r.a).length) (fun i σ J => Dw H J ∧ (∃ v5 v6 v7 v8 v9 v10 v11 v12, σ = [some (.ref a), some (.ref u), some (.int M), some (.int G), some (.ref R), v5, v6, v7, v8, v9, v10, v11, v12]) ∧ ∃ rows', RowsAt J R rows' ∧ (rows'.map fun r => r.a) = (rows.map fun r => r.a) ∧ (rows'.map fun r => r.d) = (rows.map fun r => r.d) ∧ ∀ r ∈ rows', r.nx.Nodup ∧ ∀ z ∈ r.nx, z ∈ rNames rows) ⟨d, ⟨_, _, _, _, _, _, _, _, rfl⟩, rows, hr0, rfl, rfl, fun r hr' => by rw [ok.nx r hr']; exact ⟨List.nodup_nil, fun _ h => by cases h⟩⟩ ?_ ?_
    · rintro i σ J1 hi ⟨d1, ⟨v5, v6, v7, v8, v9, v10, v11, v12, rfl⟩, rw1, h1, ea1, ed1, nx1⟩
      rw [lm] at hi
      have l1 : rw1.length = rows.length := by have := congrArg List.length ea1; rwa [List.length_map, List.length_map] at this
      have lm1 : (rw1.map fun r => V.ref r.a).length = rows.length := by rw [List.length_map, l1]
      have nm1 : rNames rw1 = rNames rows := by
        have := congrArg (List.map Pl.n) ed1
        rw [List.map_map, List.map_map] at this
        exact this
      obtain ⟨n1', e1⟩ := d1.dr _ _ ha
      refine ⟨_, rfl, _, rfl, _, _, rfl, lenVX (.inl (.inl (.inl h1.at_))), rfl, rfl, _, _, rfl, a, n1', _, rfl, e1, rfl, by omega, by omega, fun sh n3 sh0 sh1 => ?_⟩
      have d2 := d1.trans (Dw.take (m := n3) e1)
      have h2 := h1.dw (Dw.take (m := n3) e1)
      refine ⟨_, rfl, rfl, rfl, _, _, rfl, a, n3, 2, rfl, upd_same, rfl, by decide, by decide, fun wy n4 wy0 wy1 => ⟨_, _, rfl, rfl, mul_smallL (by decide), _, _, rfl, rfl, ?_⟩⟩
      have d3 := d2.trans (Dw.take (m := n4) upd_same)
      have h3 := h2.dw (Dw.take (m := n4) upd_same)
      have ea3 := upd_same (H := upd J1 a (.lst [.int n3])) (a := a) (o := .lst [.int n4])
      generalize upd (upd J1 a (.lst [.int n3])) a (.lst [.int n4]) = J3 at *
      have hw : 1 - 2 * wy = 1 ∨ 1 - 2 * wy = -1 := by omega
      refine ⟨by decide, fun F hF => ?_⟩
      have fF : H F = none := d3.back hF
      have h4 := h3.dw (Dw.new (o := .lst []) hF)
      refine ⟨_, rfl, _, _, rfl, lenVX (.inl (.inl (.inl h4.at_))), _, rfl, by omega, by omega, ?_⟩
      refine for_range (n := (rw1.map fun r => V.ref r.a).length) (fun j σ J => Dw H J ∧ (∃ v12, σ = [some (.ref a), some (.ref u), some (.int M), some (.int G), some (.ref R), some (.int (0 + (i : Int))), v6, v7, v8, some (.int sh), some (.int (1 - 2 * wy)), some (.ref F), v12]) ∧ RowsAt J R rw1 ∧ ∃ js : List Nat, J F = some (.lst ((js.map (nmAt rows sh (1 - 2 * wy))).map V.str)) ∧ js.Nodup ∧ (∀ k ∈ js, k < j) ∧ js.length ≤ j)
        ⟨d3.trans (Dw.new hF), ⟨_, rfl⟩, h4, [], upd_same, List.nodup_nil, (fun _ h => by cases h), Nat.le_refl _⟩ ?_ ?_
      · rintro j σ J5 hj ⟨d5, ⟨v12, rfl⟩, h5, js, eF, jn, jl, jlen⟩
        rw [lm1] at hj
        obtain ⟨n5, e5⟩ := d5.dr _ _ ha
        refine ⟨_, rfl, rfl, rfl, _, _, rfl, a, n5, 3, rfl, e5, rfl, by decide, by decide, fun t3 n6 t30 t31 => ⟨_, _, rfl, rfl, _, rfl, ?_⟩⟩
        have aF : F ≠ a := (ne_of_none ha fF).symm
        have d6 := d5.trans (Dw.take (m := n6) e5)
        have h6 := h5.dw (Dw.take (m := n6) e5)
        have eF6 : upd J5 a (.lst [.int n6]) F = some (.lst ((js.map (nmAt rows sh (1 - 2 * wy))).map V.str)) := by rw [upd_ne aF]; exact eF
        by_cases c : 0 < t3
        · have mp : (0 : Int) < (rows.length : Int) := by omega
          have x0 := mod_lo (sh + (1 - 2 * wy) * (j : Int)) mp
          have x1 := mod_hi (sh + (1 - 2 * wy) * (j : Int)) mp
          have hlt : ((sh + (1 - 2 * wy) * (j : Int)) % (rows.length : Int)).toNat < rw1.length := by omega
          have eg := List.getElem?_eq_getElem hlt
          have nmj : nmAt rows sh (1 - 2 * wy) j = (rw1[((sh + (1 - 2 * wy) * (j : Int)) % (rows.length : Int)).toNat]'hlt).d.n := by
            unfold nmAt
            rw [← nm1]
            unfold rNames
            rw [List.getD_eq_getElem?_getD, List.getElem?_map, eg]
            rfl
          have e0 : ((0 : Int) + (j : Int)) = (j : Int) := by omega
          rw [e0]
          refine iteY (by simpa using c) ⟨_, rfl, .inl ⟨rfl, _, .inl (.inl eF6)⟩, _, rfl, _, rfl, _, rfl, _, rfl, _, _, rfl, rfl, mul_smallL (by rcases hw with h | h <;> rw [h] <;> decide), _, _, rfl, rfl, _, rfl, _, _, rfl, lenVX (.inl (.inl (.inl h6.at_))), _, _, rfl, rfl, (by rw [lm1]; exact mp), ?_⟩
          rw [lm1]
          refine ixX (.inl (.inl (.inl h6.at_))) (atI_lt x0 (by rw [List.getElem?_map, eg]; rfl)) (ix3 (h6.row _ (List.mem_of_getElem? eg)).1 rfl ?_)
          refine ⟨F, _, _, rfl, rfl, eF6, ?_, d6.fresh fF, ⟨_, rfl⟩, ?_, js ++ [j], ?_, ?_, fun k hk => ?_, by simp; omega⟩
          · rw [List.length_map, List.length_map]
            exact Nat.lt_of_le_of_lt (show js.length ≤ 100 by omega) (by decide)
          · refine ⟨?_, fun r hr' => ?_⟩
            · rw [upd_ne (ne_of_none h3.at_ hF)]
              exact h6.at_
            · have z1 := h3.row r hr'
              have z2 := h6.row r hr'
              rw [upd_ne (ne_of_none z1.1 hF), upd_ne (ne_of_none z1.2 hF)]
              exact z2
          · rw [upd_same, List.map_append, List.map_append]
            show some (HO.lst (_ ++ [V.str _])) = some (HO.lst (_ ++ [V.str (nmAt rows sh (1 - 2 * wy) j)]))
            rw [nmj]
          · refine List.nodup_append.mpr ⟨jn, by simp, fun x hx y hy => ?_⟩
            rw [show y = j by simpa using hy]
            have := jl x hx
            omega
          · rcases List.mem_append.mp hk with h | h
            · have := jl k h
              omega
            · rw [show k = j by simpa using h]
              omega
        · exact iteN (by simpa using c) ⟨d6, ⟨_, rfl⟩, h6, js, eF6, jn, fun k hk => Nat.lt_succ_of_lt (jl k hk), Nat.le_succ_of_le jlen⟩
      · rintro σ J5 ⟨d5, ⟨v12', rfl⟩, h5, js, eF, jn, jl, jlen⟩
        rw [lm1] at jl jlen
        have e0 : ((0 : Int) + (i : Int)) = (i : Int) := by omega
        rw [e0]
        have hi1 : i < rw1.length := by omega
        have er := List.getElem?_eq_getElem hi1
        refine ⟨_, rfl, _, rfl, ixX (.inl (.inl (.inl h5.at_))) (atI_nat (by rw [List.getElem?_map, er]; rfl)) ?_⟩
        refine ⟨_, rfl, F, _, rfl, .inl ⟨.inl (.inl eF), fun tt htt => ?_⟩⟩
        have h6 := h5.dw (Dw.new (o := .tup ((js.map (nmAt rows sh (1 - 2 * wy))).map V.str)) htt)
        have d6 := d5.trans (Dw.new (o := .tup ((js.map (nmAt rows sh (1 - 2 * wy))).map V.str)) htt)
        have mp : (0 : Int) < (rows.length : Int) := by omega
        have fra : H (rw1[i]).a = none := by
          have m : (rw1[i]).a ∈ rw1.map fun r => r.a := List.mem_map.mpr ⟨_, List.mem_of_getElem? er, rfl⟩
          rw [ea1] at m
          obtain ⟨r, hr', e⟩ := List.mem_map.mp m
          rw [← e]
          exact fr r hr'
        refine ⟨_, rfl, (rw1[i]).a, _, 4, 4, rfl, rfl, (h6.row _ (List.mem_of_getElem? er)).1, rfl, d6.fresh fra, ⟨_, _, _, _, _, _, _, _, rfl⟩, rw1.set i { rw1[i] with ta := tt, nx := js.map (nmAt rows sh (1 - 2 * wy)) }, h6.store (by rw [ea1]; exact ok.nda) er upd_same, ?_, ?_, fun r hr' => ?_⟩
        · rw [List.map_set, ← ea1]
          refine List.ext_getElem? fun k => ?_
          rw [List.getElem?_set]
          split
          · rename_i e
            subst e
            rw [List.getElem?_map, er, if_pos (by rw [List.length_map]; exact hi1)]
            rfl
          · rfl
        · rw [List.map_set, ← ed1]
          refine List.ext_getElem? fun k => ?_
          rw [List.getElem?_set]
          split
          · rename_i e
            subst e
            rw [List.getElem?_map, er, if_pos (by rw [List.length_map]; exact hi1)]
            rfl
          · rfl
        · rcases List.mem_or_eq_of_mem_set hr' with h | rfl
          · exact nx1 r h
          · refine ⟨?_, fun z hz => ?_⟩
            · refine List.pairwise_map.mpr (List.Pairwise.imp_of_mem (fun {k k'} hk hk' ne e => ?_) jn)
              have b1 := jl k hk
              have b2 := jl k' hk'
              have lr : (rNames rows).length = rows.length := by unfold rNames; rw [List.length_map]
              have x0 := mod_lo (sh + (1 - 2 * wy) * (k : Int)) mp
              have x1 := mod_hi (sh + (1 - 2 * wy) * (k : Int)) mp
              have y0 := mod_lo (sh + (1 - 2 * wy) * (k' : Int)) mp
              have y1 := mod_hi (sh + (1 - 2 * wy) * (k' : Int)) mp
              have ix : ((sh + (1 - 2 * wy) * (k : Int)) % (rows.length : Int)).toNat = ((sh + (1 - 2 * wy) * (k' : Int)) % (rows.length : Int)).toNat := by
                have q1 : ((sh + (1 - 2 * wy) * (k : Int)) % (rows.length : Int)).toNat < (rNames rows).length := by omega
                have q2 : ((sh + (1 - 2 * wy) * (k' : Int)) % (rows.length : Int)).toNat < (rNames rows).length := by omega
                unfold nmAt at e
                rw [getD_lt _ _ q1, getD_lt _ _ q2] at e
                have q := List.pairwise_iff_getElem.mp ok.nd
                rcases Nat.lt_trichotomy ((sh + (1 - 2 * wy) * (k : Int)) % (rows.length : Int)).toNat ((sh + (1 - 2 * wy) * (k' : Int)) % (rows.length : Int)).toNat with g | g | g
                · exact absurd e (q _ _ q1 q2 g)
                · exact g
                · exact absurd e.symm (q _ _ q2 q1 g)
              have := mod_inj mp hw (by omega) (by omega) (by omega) (by omega) (show (sh + (1 - 2 * wy) * (k : Int)) % (rows.length : Int) = (sh + (1 - 2 * wy) * (k' : Int)) % (rows.length : Int) by omega)
              omega
            · obtain ⟨k, _, rfl⟩ := List.mem_map.mp hz
              have lr : (rNames rows).length = rows.length := by unfold rNames; rw [List.length_map]
              have x0 := mod_lo (sh + (1 - 2 * wy) * (k : Int)) mp
              have x1 := mod_hi (sh + (1 - 2 * wy) * (k : Int)) mp
              unfold nmAt
              rw [getD_lt _ _ (by omega)]
              exact List.getElem_mem _
    · rintro σ J1 ⟨d1, ⟨v5, v6, v7, v8, v9, v10, v11, v12, rfl⟩, rw1, h1, ea1, ed1, nx1⟩
      have l1 : rw1.length = rows.length := by have := congrArg List.length ea1; rwa [List.length_map, List.length_map] at this
      have nm1 : rNames rw1 = rNames rows := by
        have := congrArg (List.map Pl.n) ed1
        rw [List.map_map, List.map_map] at this
        exact this
      have plr : ∀ r ∈ rw1, ∃ r' ∈ rows, r'.d = r.d := fun r hr' => by
        have m : r.d ∈ rw1.map fun r => r.d := List.mem_map.mpr ⟨r, hr', rfl⟩
        rw [ed1] at m
        exact List.mem_map.mp m
      refine ⟨_, rfl, q R rw1 J1 d1 hR (fun r hr' => ?_) h1 ⟨⟨by omega, by omega, by rw [nm1]; exact ok.nd, fun r hr' => ?_, fun r hr' => by rw [nm1]; exact nx1 r hr'⟩, by omega, fun r hr' => ?_, by rw [ea1]; exact ok.nda⟩⟩
      · have m : r.a ∈ rw1.map fun r => r.a := List.mem_map.mpr ⟨r, hr', rfl⟩
        rw [ea1] at m
        obtain ⟨r', h', e⟩ := List.mem_map.mp m
        rw [← e]
        exact fr r' h'
      · obtain ⟨r', h', e⟩ := plr r hr'
        have := ok.pl r' h'
        rw [e] at this
        exact ⟨this.1, this.2.1, this.2.2.1, by omega⟩
      · obtain ⟨r', h', e⟩ := plr r hr'
        have := ok.pl r' h'
        rw [e] at this
        exact this.2.2.2
end
end W

namespace W
open PySem PySem.Spec PyProof.Rows L2
section
variable {P : Program} {w : World} {K : S.Frag} {mg : Str → Option Value} {base : Heap}
open S
/-! the law's own making of a program -/
def spNexts (K : S.Frag) : Sp := Sp1 fun x H Q _ => ∃ (R : Addr) (rows : List Rw), x = .ref R ∧ RowsAt H R rows ∧ (rNames rows).Nodup ∧ rows.length ≤ 100 ∧ ∀ d H', H d = none → Same H H' → H' d = some (.dK (lkOf rows)) → Q (.ref d) H'
theorem lk_put {rows : List Rw} (nd : (rNames rows).Nodup) {i : Nat} {r : Rw} (h : rows[i]? = some r) : putK (lkOf (rows.take i)) (.inr r.d.n) (.ref r.ta) = lkOf (rows.take (i + 1)) := by
  rw [putK_new]
  · unfold lkOf
    rw [List.take_add_one, h, List.map_append]
    rfl
  · intro q hq e
    obtain ⟨r', hr', rfl⟩ := List.mem_map.mp hq
    have en : r'.d.n = r.d.n := by injection e
    have hz : (rNames rows)[i]? = some r.d.n := by unfold rNames; rw [List.getElem?_map, h]; rfl
    refine nodup_take nd hz ?_
    rw [← en]
    unfold rNames
    rw [← List.map_take]
    exact List.mem_map.mpr ⟨r', hr', rfl⟩
theorem lkOf_len (rows : List Rw) : (lkOf rows).length = rows.length := List.length_map _
theorem ok__law_nexts (T : Txt K mg) : FnOk P w K mg base (L2.CX P w) 1 (He.fAd K ("_law_nexts", none)) (S.fdA K ("_law_nexts", none)) ["_law_rows_here"] (spNexts K) := by
  refine FunD.ok T.F__law_nexts sc__law_nexts (fun vs H Q E h => S.splen1 h) (fun cdv A outer s H vs Q E hr h => ?_)
  have hu := hu_of hr
  refine ⟨_, (pss_cons (ps_set (i := 1) sc__law_nexts.nd rfl (by first | exact Or.inl rfl | exact Or.inr rfl) pe_dnewK)
      (pss_cons (ps_for (S.own_of rfl) rfl (S.pi_listK (K := K) rfl (pv 0)) (pg_name (i := 2) sc__law_nexts.nd rfl (by first | exact Or.inl rfl | exact Or.inr rfl))
        (pss_one (ps_dput hu (pv 1) (pe_ix (S.ixK (K := K) rfl) (pv 2) pe_int (fun _ _ => rfl)) (pe_ix (S.ixK (K := K) rfl) (pv 2) pe_int (fun _ _ => rfl)) rfl)))
      (pss_one (ps_ret (pv 1))))), ?_⟩
  obtain ⟨_, rfl, R, rows, rfl, hR, nd, ln, q⟩ := h
  refine fun d hd => ?_
  have s0 := Same.new (o := .dK []) hd
  refine ⟨_, rfl, R, rfl, ⟨_, .inl (.inl (s0 _ _ hR.at_))⟩, for_list (xs := rows.map fun r => V.ref r.a) (fun i σ J => Same H J ∧ J d = some (.dK (lkOf (rows.take i))) ∧ ∃ v, σ = [some (.ref R), some (.ref d), v]) ⟨s0, upd_same, _, rfl⟩ (fun i σ J _ h => .inl (.inl (h.1 _ _ hR.at_))) ?_ ?_⟩
  · rintro i x σ J hx ⟨sJ, ed, v, rfl⟩
    rw [List.getElem?_map] at hx
    obtain ⟨r, hr', rfl⟩ := Option.map_eq_some_iff.mp hx
    have er := ((hR.same sJ).row r (List.mem_of_getElem? hr')).1
    refine ⟨_, rfl, ix3 er rfl ⟨_, rfl, _, rfl, ix3 er rfl ⟨d, _, rfl, DPut.k (k := .inr r.d.n) ed ?_, Same.upd sJ hd, ?_, _, rfl⟩⟩⟩
    · rw [lkOf_len, List.length_take]
      exact Nat.lt_of_le_of_lt (show min i rows.length ≤ 100 by omega) (by decide)
    · rw [upd_same, lk_put nd hr']
  · rintro σ J ⟨sJ, ed, v, rfl⟩
    rw [List.length_map, List.take_length] at ed
    exact ⟨_, rfl, q d J hd sJ ed⟩
theorem mkPl {H : Hp} {Z : VK} {E : XK} {d : Pl} {p dx : Addr} (np : H p = none) (ndx : H dx = none) (ne : dx ≠ p) (ok : isNm d.n = true ∧ 1 ≤ d.l ∧ d.l ≤ d.m ∧ d.m ≤ 6) (k : ∀ H', Same H H' → PlA K H' p d → Z .non H') :
    spPlace K [.ref p, .str d.n, .int d.l, .int d.m, .bl d.t] (upd (upd H dx (.own p)) p (.ins (He.ga K "Place") dx [])) Z E := by
  obtain ⟨o1, o2, o3, o4⟩ := ok
  have s0 : Same H (upd (upd H dx (.own p)) p (.ins (He.ga K "Place") dx [])) := Same.upd (Same.new ndx) np
  have em : mostV (.int d.l) (.int d.m) = .int d.m := by simp [mostV]
  have l8 : d.n.length ≤ 8 := by
    unfold isNm at o1
    simp only [Bool.and_eq_true, decide_eq_true_eq] at o1
    exact o1.1.2
  have du : dueP (.str d.n) (.int d.l) (.int d.m) (.bl d.t) = "" := by
    unfold dueP
    rw [em]
    simp [nmV, o1, inR, isBl, intOf, o2, o3, o4]
    omega
  refine ⟨_, _, _, _, _, rfl, p, dx, rfl, upd_same, .str _, (show d.n.length ≤ 1000 by omega), .int _, .int _, .bl _, fun _ H' kp hp => k H' (fun c o hc => kp c o (s0 c o hc) (ne_of_none hc np)) ⟨dx, ?_⟩, fun e => absurd du e⟩
  rw [em] at hp
  exact hp
def okD (d : Pl) : Prop := isNm d.n = true ∧ 1 ≤ d.l ∧ d.l ≤ d.m ∧ d.m ≤ 6
theorem vw_rNames (rows : List Rw) : rNames rows = (vw rows).map fun z => z.1.n := by
  unfold rNames vw
  rw [List.map_map]
  rfl
theorem okRows.vw {rows rows' : List Rw} (o : okRows rows) (e : vw rows' = vw rows) : okRows rows' := by
  have ln : rows'.length = rows.length := by have := congrArg List.length e; unfold W.vw at this; rwa [List.length_map, List.length_map] at this
  have mem : ∀ r ∈ rows', ∃ r' ∈ rows, (r'.d, r'.nx) = (r.d, r.nx) := fun r hr => by
    have m : (r.d, r.nx) ∈ W.vw rows' := List.mem_map.mpr ⟨r, hr, rfl⟩
    rw [e] at m
    exact List.mem_map.mp m
  have nm : rNames rows' = rNames rows := by rw [vw_rNames, vw_rNames, e]
  refine ⟨by rw [ln]; exact o.l1, by rw [ln]; exact o.l6, by rw [nm]; exact o.nd, fun r hr => ?_, fun r hr => ?_⟩
  · obtain ⟨r', h', e'⟩ := mem r hr
    have := o.pl r' h'
    simp only [Prod.mk.injEq] at e'
    rw [e'.1] at this
    exact this
  · obtain ⟨r', h', e'⟩ := mem r hr
    have := o.nx r' h'
    simp only [Prod.mk.injEq] at e'
    rw [e'.2] at this
    rw [nm]
    exact this
def spMkProg (K : S.Frag) : Sp := Sp2 fun x y H Q _ => ∃ (R : Addr) (rows : List Rw) (b : Str), x = .ref R ∧ y = .str b ∧ RowsAt H R rows ∧ okRows rows ∧ b ∈ rNames rows ∧
  ∀ p prow H', H p = none → Same H H' → PgAt K H' p prow b → vw prow = vw rows → okRows prow → Q (.ref p) H'
theorem atRow {r : Rw} : atI (rowL r) 0 = some (.str r.d.n) ∧ atI (rowL r) 1 = some (.int r.d.l) ∧ atI (rowL r) 2 = some (.int r.d.m) ∧ atI (rowL r) 3 = some (.bl r.d.t) ∧ atI (rowL r) 4 = some (.ref r.ta) := ⟨rfl, rfl, rfl, rfl, rfl⟩
/-- the rows with the places' addresses -/
def reA (rows : List Rw) (as : List Addr) : List Rw := (rows.zip as).map fun z => { z.1 with a := z.2 }
theorem reA_vw {rows : List Rw} {as : List Addr} (h : rows.length = as.length) : vw (reA rows as) = vw rows := by
  unfold vw reA
  rw [List.map_map]
  have : ((fun r : Rw => (r.d, r.nx)) ∘ fun z : Rw × Addr => { z.1 with a := z.2 }) = (fun r : Rw => (r.d, r.nx)) ∘ Prod.fst := rfl
  rw [this, ← List.map_map, List.map_fst_zip (by omega)]
theorem reA_a {rows : List Rw} {as : List Addr} (h : rows.length = as.length) : (reA rows as).map (fun r => V.ref r.a) = as.map V.ref := by
  unfold reA
  rw [List.map_map]
  have : ((fun r : Rw => V.ref r.a) ∘ fun z : Rw × Addr => { z.1 with a := z.2 }) = V.ref ∘ Prod.snd := rfl
  rw [this, ← List.map_map, List.map_snd_zip (by omega)]
theorem reA_lk {rows : List Rw} {as : List Addr} (h : rows.length = as.length) : lkOf (reA rows as) = lkOf rows := by
  unfold lkOf reA
  rw [List.map_map]
  have : ((fun r : Rw => ((Sum.inr r.d.n : Key), V.ref r.ta)) ∘ fun z : Rw × Addr => { z.1 with a := z.2 }) = (fun r : Rw => ((Sum.inr r.d.n : Key), V.ref r.ta)) ∘ Prod.fst := rfl
  rw [this, ← List.map_map, List.map_fst_zip (by omega)]
theorem reA_mem {rows : List Rw} {as : List Addr} {r : Rw} (h : r ∈ reA rows as) : ∃ (i : Nat) (r0 : Rw), rows[i]? = some r0 ∧ as[i]? = some r.a ∧ r = { r0 with a := r.a } := by
  obtain ⟨⟨r0, a⟩, hz, rfl⟩ := List.mem_map.mp h
  obtain ⟨i, hi⟩ := List.getElem?_of_mem hz
  rw [List.getElem?_zip_eq_some] at hi
  exact ⟨i, r0, hi.1, hi.2, rfl⟩
end
end W

namespace W
open PySem PySem.Spec PyProof.Rows L2
section
variable {P : Program} {w : World} {K : S.Frag} {mg : Str → Option Value} {base : Heap}
open S
/-! with_let -/
def badAt (K : S.Frag) (C f : Str) (v : V) (H : Hp) (E : XK) : Prop := ∀ d H', H d = none → Same H H' → H' d = some (.xd [(f, v)]) → E (.ref (He.ga K C)) (some d) H'
theorem badAt.same {C f : Str} {v : V} {H H1 : Hp} {E : XK} (b : badAt K C f v H E) (s : Same H H1) : badAt K C f v H1 E := fun d H' hd s2 e => b d H' (s.free hd) (s.trans s2) e
/-- an item that is no name of the program -/
def oddB (rows : List Rw) (g : V → PyData) (y : V) : Bool := !(rNames rows).any fun n => mixEq (.str n) (g y)
def letD (ws : List Str) (r : Rw) : Rw := { r with d := { r.d with t := decide (r.d.n ∈ ws) } }
def spWith (K : S.Frag) : Sp := Sp2 fun self x H Q E => ∃ (p : Addr) (rows : List Rw) (s : Str), self = .ref p ∧ PgAt K H p rows s ∧ okRows rows ∧ s ∈ rNames rows ∧
  ((∃ t, TyX K H x t ∧ PySem.W.kitOne K t (.type "tuple") = some false ∧ badAt K "BadProgram" "why" (.str "let") H E) ∨
   (∃ (a : Addr) (xs : List V) (g : V → PyData), x = .ref a ∧ H a = some (.tup xs) ∧ xs.length < 100 ∧ (∀ z ∈ xs, Mx K H z (g z)) ∧
      (dupB (fun z y => mixEq (g z) (g y)) xs = true → badAt K "BadProgram" "why" (.str "let") H E) ∧
      (dupB (fun z y => mixEq (g z) (g y)) xs = false → ∃ y, xs.find? (oddB rows g) = some y ∧ badAt K "NoPlace" "name" y H E)) ∨
   (∃ (a : Addr) (ws : List Str), x = .ref a ∧ H a = some (.tup (ws.map V.str)) ∧ ws.Nodup ∧ (∀ z ∈ ws, z ∈ rNames rows) ∧
      ∀ q rows' H', H q = none → Same H H' → PgAt K H' q rows' s → okRows rows' → vw rows' = vw (rows.map (letD ws)) → Q (.ref q) H'))
theorem find_first {α : Type} {p : α → Bool} {xs : List α} {i : Nat} {x : α} (h : xs[i]? = some x) (no : ∀ z ∈ xs.take i, p z = false) (y : p x = true) : xs.find? p = some x := by
  have e : xs = xs.take i ++ x :: xs.drop (i + 1) := by
    obtain ⟨hl, rfl⟩ := List.getElem?_eq_some_iff.mp h
    rw [List.getElem_cons_drop, List.take_append_drop]
  rw [e, List.find?_append, List.find?_eq_none.mpr (by simpa using no)]
  simp [y]
theorem letD_names (ws : List Str) (rows : List Rw) : rNames (rows.map (letD ws)) = rNames rows := by
  unfold rNames
  rw [List.map_map]
  rfl
theorem letD_ok {ws : List Str} {rows : List Rw} (o : okRows rows) : okRows (rows.map (letD ws)) := by
  refine ⟨by rw [List.length_map]; exact o.l1, by rw [List.length_map]; exact o.l6, by rw [letD_names]; exact o.nd, fun r hr => ?_, fun r hr => ?_⟩
  · obtain ⟨r0, h0, rfl⟩ := List.mem_map.mp hr
    exact o.pl r0 h0
  · obtain ⟨r0, h0, rfl⟩ := List.mem_map.mp hr
    rw [letD_names]
    exact o.nx r0 h0
theorem letD_lk (ws : List Str) (rows : List Rw) : lkOf (rows.map (letD ws)) = lkOf rows := by
  unfold lkOf
  rw [List.map_map]
  rfl
theorem mkPg {J : Hp} {Z : VK} {E : XK} {p dx D d : Addr} {rows : List Rw} {as : List Addr} {b : Str} (np : J p = none) (ndx : J dx = none) (ne : dx ≠ p) (eD : J D = some (.lst (as.map V.ref))) (ed : J d = some (.dK (lkOf rows))) (la : as.length = rows.length) (ok : okRows rows)
    (hp : ∀ (j : Nat) (r : Rw) (q : Addr), rows[j]? = some r → as[j]? = some q → PlA K J q r.d) (ht : ∀ r ∈ rows, J r.ta = some (.tup (r.nx.map V.str))) (hb : b ∈ rNames rows)
    (k : ∀ J3, Same J J3 → PgAt K J3 p (reA rows as) b → okRows (reA rows as) → vw (reA rows as) = vw rows → Z .non J3) :
    spProg K [.ref p, .ref D, .ref d, .str b] (upd (upd J dx (.own p)) p (.ins (He.ga K "Program") dx [])) Z E := by
  have s3 : Same J (upd (upd J dx (.own p)) p (.ins (He.ga K "Program") dx [])) := Same.upd (Same.new ndx) np
  have okr := ok.vw (reA_vw la.symm)
  refine ⟨_, _, _, _, rfl, p, dx, D, d, reA rows as, lkOf rows, b, rfl, upd_same, rfl, .inl ?_, rfl, s3 _ _ ed, ?_, okr, fun r hr' => ?_, .inr ⟨rfl, ?_⟩, fun J3 kp pg => ?_⟩
  · rw [reA_a la.symm]
    exact s3 _ _ eD
  · rw [lkOf_len]
    have := congrArg List.length (reA_vw la.symm)
    unfold vw at this
    rw [List.length_map, List.length_map] at this
    exact this.symm
  · refine ⟨?_, ?_, ?_⟩
    · rw [← reA_lk la.symm]
      exact valV_rows okr.nd hr'
    · obtain ⟨i, r0, h1, h2, e⟩ := reA_mem hr'
      have := ((hp i r0 r.a h1 h2).same s3)
      rw [e]
      exact this
    · obtain ⟨i, r0, h1, h2, e⟩ := reA_mem hr'
      have := s3 _ _ (ht r0 (List.mem_of_getElem? h1))
      rw [e]
      exact this
  · rw [vw_rNames, reA_vw la.symm, ← vw_rNames]
    exact hb
  · exact k J3 (fun c o hc => kp c o (ne_of_none hc np) (s3 _ _ hc)) pg okr (reA_vw la.symm)
end
end W

namespace W
open PySem PySem.Spec PyProof.Rows L2
section
variable {P : Program} {w : World} {K : S.Frag} {mg : Str → Option Value} {base : Heap}
open S
/-! lemmas of whole laws over programs -/
theorem sq_dwL {H J : Hp} {a : Addr} {ns : List Int} (h : SqL K H a (ns.map V.int)) (d : Dw H J) : ∃ ns' : List Int, SqL K J a (ns'.map V.int) ∧ ns'.length = ns.length := by
  rcases h with (h | ⟨o, h⟩) | h
  · by_cases c : ∃ n : Int, ns = [n]
    · obtain ⟨n, rfl⟩ := c
      obtain ⟨m, e⟩ := d.dr a n h
      exact ⟨[m], .inl (.inl e), rfl⟩
    · refine ⟨ns, .inl (.inl (d.kp _ _ (fun n z => c ⟨n, ?_⟩) h)), rfl⟩
      injection z with z
      cases ns with
      | nil => cases z
      | cons x xs =>
        cases xs with
        | nil => injection z with z1 _; injection z1 with z1; rw [z1]
        | cons y ys => cases z
  · exact ⟨ns, .inl (.inr ⟨o, d.kp _ _ (fun n z => by cases z) h⟩), rfl⟩
  · exact ⟨ns, .inr h, rfl⟩
theorem sq_dw {H J : Hp} {a : Addr} {ns : List Int} (h : SqL K H a (ns.map V.int)) (d : Dw H J) : ∃ ns' : List Int, SqL K J a (ns'.map V.int) := let ⟨ns', h', _⟩ := sq_dwL h d; ⟨ns', h'⟩
theorem nat_of {t : Int} {n : Nat} (h0 : 0 ≤ t) (h1 : t < (n : Int)) : ∃ k : Nat, t = (k : Int) ∧ k < n := ⟨t.toNat, by omega, by omega⟩
theorem notFirst_self {C : Addr} : PySem.W.notFirst K C (.ref C) = true := by simp [PySem.W.notFirst]
theorem nm_mem {rows : List Rw} {i : Nat} {r : Rw} (h : rows[i]? = some r) : r.d.n ∈ rNames rows := List.mem_map.mpr ⟨r, List.mem_of_getElem? h, rfl⟩
theorem rNames_len (rows : List Rw) : (rNames rows).length = rows.length := by unfold rNames; rw [List.length_map]
theorem pairs_of {α : Type} [DecidableEq α] {l l' : List α} {xs ys : List V} (hx : xs.length = l.length) (hy : ys.length = l'.length) : pairs (fun i => decide (l[i]? = l'[i]?)) xs ys = decide (l = l') := by
  unfold pairs
  rw [hx, hy, Bool.eq_iff_iff]
  simp only [Bool.and_eq_true, decide_eq_true_eq, List.all_eq_true, List.mem_range]
  constructor
  · rintro ⟨hl, h⟩
    refine List.ext_getElem? fun i => ?_
    by_cases c : i < l.length
    · exact h i c
    · rw [List.getElem?_eq_none (by omega), List.getElem?_eq_none (by omega)]
  · rintro rfl
    exact ⟨rfl, fun _ _ => rfl⟩
theorem PgAt.dw {H J : Hp} {p : Addr} {rows : List Rw} {s : Str} (h : PgAt K H p rows s) (d : Dw H J) : PgAt K J p rows s := by
  obtain ⟨dx, l, u, k, F⟩ := h
  refine ⟨dx, l, u, k, d.ins F.at_, d.rref F.pl, d.tup F.nm, d.dK F.lk, fun r hr => ?_⟩
  obtain ⟨⟨dr, e1⟩, e2⟩ := F.rw_ r hr
  exact ⟨⟨dr, d.ins e1⟩, d.tup e2⟩
theorem pgEqI {H : Hp} {p p' : Addr} {rows rows' : List Rw} {s s' : Str} {Q : VK} (h1 : PgAt K H p rows s) (h2 : PgAt K H p' rows' s') (o1 : okRows rows) (o2 : okRows rows') (k : ∀ H', Same H H' → Q (.bl (decide (vw rows = vw rows' ∧ s = s'))) H') : rOwnI K (He.ga K "Program") (spPgEq K) (.ref p) (.ref p') H Q := by
  obtain ⟨_, _, _, _, F1⟩ := id h1
  obtain ⟨_, _, _, _, F2⟩ := id h2
  exact ⟨p, _, _, p', _, _, _, rfl, rfl, F1.at_, F2.at_, notFirst_self, _, _, rfl, p, p', rows, rows', s, s', rfl, rfl, h1, h2, o1, o2, k⟩
theorem names_map (rows : List Rw) (H : Hp) : (rNames rows).map V.str = rows.map fun r => V.str r.d.n := by
  unfold rNames
  rw [List.map_map]
  rfl
/-- the row of the program at the place of the law's own -/
theorem vw_at {rows rows' : List Rw} (e : vw rows' = vw rows) {i : Nat} {r : Rw} (h : rows[i]? = some r) : ∃ r', rows'[i]? = some r' ∧ r'.d = r.d := by
  have := congrArg (fun l => l[i]?) e
  unfold vw at this
  simp only [List.getElem?_map, h, Option.map_some] at this
  obtain ⟨r', e', e2⟩ := Option.map_eq_some_iff.mp this
  simp only [Prod.mk.injEq] at e2
  exact ⟨r', e', e2.1⟩
/-- rows of the same name in two lists of the same view -/
theorem vw_one {rows rows' : List Rw} (e : vw rows' = vw rows) (nd : (rNames rows).Nodup) {r r' : Rw} (h' : r' ∈ rows') (h : r ∈ rows) (en : r'.d.n = r.d.n) : (r'.d, r'.nx) = (r.d, r.nx) := by
  have m1 : (r'.d, r'.nx) ∈ vw rows := by
    rw [← e]
    exact List.mem_map.mpr ⟨r', h', rfl⟩
  obtain ⟨r2, h2, e2⟩ := List.mem_map.mp m1
  simp only [Prod.mk.injEq] at e2
  have : r2 = r := nm_one nd h2 h (by rw [e2.1, en])
  subst this
  simp [e2.1, e2.2]
def spLaw (K : S.Frag) : Sp := Sp1 fun x H Q _ => ∃ (a : Addr) (ns : List Int), x = .ref a ∧ SqL K H a (ns.map V.int) ∧ ns.length ≤ 63 ∧ ∀ H', Q (.bl true) H'
end
end W

namespace W
open PySem PySem.Spec PyProof.Rows L2
section
variable {P : Program} {w : World} {K : S.Frag} {mg : Str → Option Value} {base : Heap}
open S
/-! programs of any parts -/
/-- no list and no tuple -/
inductive NoLT (H : Hp) : V → Prop where
  | non : NoLT H .non
  | str (z : Str) : NoLT H (.str z)
  | int (i : Int) : NoLT H (.int i)
  | bl (b : Bool) : NoLT H (.bl b)
  | dK {a : Addr} {xs : List (Key × V)} (h : H a = some (.dK xs)) : NoLT H (.ref a)
theorem NoLT.same {H H' : Hp} {x : V} (h : NoLT H x) (s : Same H H') : NoLT H' x := by
  cases h with
  | non => exact .non
  | str z => exact .str z
  | int i => exact .int i
  | bl b => exact .bl b
  | dK h => exact .dK (s _ _ h)
theorem NoLT.ty {H : Hp} {x : V} (h : NoLT H x) : ∃ t, TyX K H x t ∧ PySem.W.kitAny K t [.type "list", .type "tuple"] = some false := by
  have k : ∀ T : String, PySem.W.kitOne K (.type T) (.type "list") = some false → PySem.W.kitOne K (.type T) (.type "tuple") = some false → PySem.W.kitAny K (.type T) [.type "list", .type "tuple"] = some false := fun T h1 h2 =>
    kitAny_cons h1 (fun _ => kitAny_cons h2 (fun _ => rfl) (fun z => nomatch z)) (fun z => nomatch z)
  cases h with
  | non => exact ⟨_, .base .non, k _ (kit_ty (r := false) (by decide +kernel)) (kit_ty (r := false) (by decide +kernel))⟩
  | str z => exact ⟨_, .base (.str z), k _ (kit_ty (r := false) (by decide +kernel)) (kit_ty (r := false) (by decide +kernel))⟩
  | int i => exact ⟨_, .base (.int i), k _ (kit_ty (r := false) (by decide +kernel)) (kit_ty (r := false) (by decide +kernel))⟩
  | bl b => exact ⟨_, .base (.bl b), k _ (kit_ty (r := false) (by decide +kernel)) (kit_ty (r := false) (by decide +kernel))⟩
  | dK h => exact ⟨_, .base (.dK h), k _ (kit_ty (r := false) (by decide +kernel)) (kit_ty (r := false) (by decide +kernel))⟩
/-- no dict -/
inductive NoDk (H : Hp) : V → Prop where
  | non : NoDk H .non
  | str (z : Str) : NoDk H (.str z)
  | int (i : Int) : NoDk H (.int i)
  | bl (b : Bool) : NoDk H (.bl b)
  | lst {a : Addr} {xs : List V} (h : H a = some (.lst xs)) : NoDk H (.ref a)
  | tup {a : Addr} {xs : List V} (h : H a = some (.tup xs)) : NoDk H (.ref a)
theorem NoDk.same {H H' : Hp} {x : V} (h : NoDk H x) (s : Same H H') : NoDk H' x := by
  cases h with
  | non => exact .non
  | str z => exact .str z
  | int i => exact .int i
  | bl b => exact .bl b
  | lst h => exact .lst (s _ _ h)
  | tup h => exact .tup (s _ _ h)
theorem NoDk.ty {H : Hp} {x : V} (h : NoDk H x) : ∃ t, TyX K H x t ∧ PySem.W.kitOne K t (.type "dict") = some false := by
  cases h with
  | non => exact ⟨_, .base .non, kit_ty (r := false) (by decide +kernel)⟩
  | str z => exact ⟨_, .base (.str z), kit_ty (r := false) (by decide +kernel)⟩
  | int i => exact ⟨_, .base (.int i), kit_ty (r := false) (by decide +kernel)⟩
  | bl b => exact ⟨_, .base (.bl b), kit_ty (r := false) (by decide +kernel)⟩
  | lst h => exact ⟨_, .base (.lst h), kit_ty (r := false) (by decide +kernel)⟩
  | tup h => exact ⟨_, .base (.tup h), kit_ty (r := false) (by decide +kernel)⟩
/-- no tuple -/
inductive NoTu (H : Hp) : V → Prop where
  | non : NoTu H .non
  | str (z : Str) : NoTu H (.str z)
  | int (i : Int) : NoTu H (.int i)
  | bl (b : Bool) : NoTu H (.bl b)
  | lst {a : Addr} {xs : List V} (h : H a = some (.lst xs)) : NoTu H (.ref a)
  | dK {a : Addr} {xs : List (Key × V)} (h : H a = some (.dK xs)) : NoTu H (.ref a)
theorem NoTu.same {H H' : Hp} {x : V} (h : NoTu H x) (s : Same H H') : NoTu H' x := by
  cases h with
  | non => exact .non
  | str z => exact .str z
  | int i => exact .int i
  | bl b => exact .bl b
  | lst h => exact .lst (s _ _ h)
  | dK h => exact .dK (s _ _ h)
theorem NoTu.ty {H : Hp} {x : V} (h : NoTu H x) : ∃ t, TyX K H x t ∧ PySem.W.kitOne K t (.type "tuple") = some false := by
  cases h with
  | non => exact ⟨_, .base .non, kit_ty (r := false) (by decide +kernel)⟩
  | str z => exact ⟨_, .base (.str z), kit_ty (r := false) (by decide +kernel)⟩
  | int i => exact ⟨_, .base (.int i), kit_ty (r := false) (by decide +kernel)⟩
  | bl b => exact ⟨_, .base (.bl b), kit_ty (r := false) (by decide +kernel)⟩
  | lst h => exact ⟨_, .base (.lst h), kit_ty (r := false) (by decide +kernel)⟩
  | dK h => exact ⟨_, .base (.dK h), kit_ty (r := false) (by decide +kernel)⟩
/-- an item that is a place, or none -/
inductive PIt (K : S.Frag) (H : Hp) : V × Option Pl → Prop where
  | pl {a : Addr} {d : Pl} (h : PlA K H a d) : PIt K H (.ref a, some d)
  | no {x : V} (h : Od H x) : PIt K H (x, none)
theorem PIt.same {H H' : Hp} {z : V × Option Pl} (h : PIt K H z) (s : Same H H') : PIt K H' z := by
  cases h with
  | pl h => exact .pl (h.same s)
  | no h => exact .no (h.mono s)
theorem Od.noPl {H : Hp} {x : V} (T : Txt K mg) (h : Od H x) : ∃ t, TyX K H x t ∧ PySem.W.kitOne K t (.ref (He.ga K "Place")) = some false := by
  cases h with
  | int i => exact ⟨_, .base (.int i), T.kb_Place_int⟩
  | non => exact ⟨_, .base .non, T.kb_Place_NoneType⟩
  | bl b => exact ⟨_, .base (.bl b), T.kb_Place_bool⟩
  | str z => exact ⟨_, .base (.str z), T.kb_Place_str⟩
  | tup h => exact ⟨_, .base (.tup h), T.kb_Place_tuple⟩
  | lst h => exact ⟨_, .base (.lst h), T.kb_Place_list⟩
  | dK h => exact ⟨_, .base (.dK h), T.kb_Place_dict⟩
/-- what places_fit answers -/
def plB (its : List (V × Option Pl)) : Bool := decide (1 ≤ its.length) && (decide (its.length ≤ 6) && (its.all (fun z => z.2.isSome) && decide ((its.filterMap Prod.snd).map Pl.n).Nodup))
theorem all_pl {H : Hp} : ∀ {its : List (V × Option Pl)}, (∀ z ∈ its, PIt K H z) → its.all (fun z => z.2.isSome) = true → ∃ ps : List (Addr × Pl), its = ps.map (fun z => (V.ref z.1, some z.2)) ∧ ∀ z ∈ ps, PlA K H z.1 z.2
  | [], _, _ => ⟨[], rfl, fun _ h => by cases h⟩
  | z :: its, h, a => by
    rw [List.all_cons, Bool.and_eq_true] at a
    obtain ⟨ps, e, hp⟩ := all_pl (its := its) (fun y hy => h y (List.mem_cons_of_mem _ hy)) a.2
    have hz := h z List.mem_cons_self
    cases hz with
    | @pl p d hpl =>
      refine ⟨(p, d) :: ps, by rw [e]; rfl, fun y hy => ?_⟩
      rcases List.mem_cons.mp hy with rfl | hy
      · exact hpl
      · exact hp y hy
    | no hx => cases a.1
theorem fm_pl (ps : List (Addr × Pl)) : (ps.map (fun z => (V.ref z.1, some z.2))).filterMap Prod.snd = ps.map Prod.snd := by
  rw [List.filterMap_map]
  induction ps with
  | nil => rfl
  | cons p ps ih => rw [List.filterMap_cons, List.map_cons, ih]; rfl
theorem dup_nodup {ws : List Str} : dupB eqV (ws.map V.str) = !decide ws.Nodup := by
  by_cases h : ws.Nodup
  · rw [nodup_dup h, decide_eq_true h]; rfl
  · rw [decide_eq_false h]
    cases e : dupB eqV (ws.map V.str) with
    | true => rfl
    | false =>
      exfalso
      refine h (List.pairwise_iff_getElem.mpr fun i j hi hj lt en => ?_)
      unfold dupB at e
      rw [List.any_eq_false] at e
      have := e j (List.mem_range.mpr (by rw [List.length_map]; exact hj))
      rw [List.getElem?_map, List.getElem?_eq_getElem hj] at this
      refine this (List.any_eq_true.mpr ⟨V.str ws[i], ?_, by rw [eqV_str, en]; simp⟩)
      rw [← List.map_take]
      refine List.mem_map.mpr ⟨ws[i], ?_, rfl⟩
      exact List.mem_iff_getElem.mpr ⟨i, by rw [List.length_take]; omega, by rw [List.getElem_take]⟩
def spPFG (K : S.Frag) : Sp := Sp1 fun x H Q _ => (NoLT H x ∧ ∀ H', Same H H' → Q (.bl false) H') ∨ ∃ (a : Addr) (its : List (V × Option Pl)), x = .ref a ∧ SqH H a (its.map Prod.fst) ∧ (∀ z ∈ its, PIt K H z) ∧ its.length < 900 ∧ ∀ H', Same H H' → Q (.bl (plB its)) H'
theorem ok_places_fit (T : Txt K mg) : FnOk P w K mg base (L2.CX P w) 2 (He.fAd K ("places_fit", none)) (S.fdA K ("places_fit", none)) ["places"] (spPFG K) := by
  have G_has_equal_items := ok_has_equal_items (P := P) (w := w) (base := base) T
  refine FunD.ok T.F_places_fit sc_places_fit (fun vs H Q E h => S.splen1 h) (fun cdv A outer s H vs Q E hr h => ?_)
  have hu := hu_of hr
  refine ⟨_, (pss_cons (ps_if (PW.pt (pw_or (pt_not (pt_val (pe_callB (S.isiTK (K := K) rfl) rfl T.n_isinstance S.boot_isinstance (pa_cons (pv 0) (pa_cons (pe_tup (pa_cons (pe_bltn (v := .ty "list") rfl T.n_list S.boot_list rfl) (pa_cons (pe_bltn (v := .ty "tuple") rfl T.n_tuple S.boot_tuple rfl) pa_nil))) pa_nil))))) (pw_or1 (pt_not (pt_chain op_le op_le pe_int (pe_callB (S.lenK (K := K) rfl) rfl T.n_len S.boot_len (pa_cons (pv 0) pa_nil)) (S.pe_globI rfl T.c_MOST_PLACES)))))) (pss_one (ps_ret pe_bl)) pss_nil)
      (pss_cons (ps_for (S.own_of rfl) rfl (S.pi_seqK (K := K) rfl (pv 0)) (pg_name (i := 1) sc_places_fit.nd rfl (by first | exact Or.inl rfl | exact Or.inr rfl))
        (pss_one (ps_if (pt_not (pt_val (pe_callB (S.isiK (K := K) rfl) rfl T.n_isinstance S.boot_isinstance (pa_cons (pv 1) (pa_cons (pe_glob (v := .ref _) rfl T.g_Place rfl) pa_nil))))) (pss_one (ps_ret pe_bl)) pss_nil)))
      (pss_one (ps_ret (pe_not (S.pe_fnS G_has_equal_items (hr.mono (by decide)) rfl T.g_has_equal_items T.F_has_equal_items.kp (kb_has_equal_items_1 T) S.pas0 (pa_cons (pe_lc (own := [("place", 1)]) (g := gName 1) (tt := tYes) rfl sc_places_fit.nd (S.pi_seqK (K := K) rfl (pv 0)) (blkOk_by (N := ["places", "place"]) (sc := defScope s_places_fit) (by decide +kernel)) (fun _ _ _ _ _ => pg_name (i := 1) sc_places_fit.nd rfl (by first | exact Or.inl rfl | exact Or.inr rfl)) (fun _ _ _ _ _ => pts_nil) (fun _ _ _ _ _ => (S.pe_fldK (K := K) rfl (pv 1) rfl))) pa_nil) pk_nil rfl rfl)))))), ?_⟩
  obtain ⟨_, rfl, h⟩ := h
  rcases h with ⟨nl, q⟩ | ⟨a, its, rfl, hS, hp, l9, q⟩
  · refine ⟨_, rfl, by show 2 ≤ sizeLine; decide, fun tp htp => ?_⟩
    have s1 := Same.new (o := .tup [.ty "list", .ty "tuple"]) htp
    obtain ⟨t, ty, kt⟩ := (nl.same s1).ty (K := K)
    exact ⟨_, tp, _, _, _, false, rfl, upd_same, .cons (.ty _) (.cons (.ty _) .nil), ty, kt, _, rfl, iteT (iteT (q _ s1))⟩
  refine ⟨_, rfl, by show 2 ≤ sizeLine; decide, fun tp htp => ?_⟩
  have s1 := Same.new (o := .tup [.ty "list", .ty "tuple"]) htp
  obtain ⟨t, ty, kt⟩ := (hS.same s1).ty (K := K)
  refine ⟨_, tp, _, _, _, true, rfl, upd_same, .cons (.ty _) (.cons (.ty _) .nil), ty, kt, _, rfl, iteF ?_⟩
  refine ⟨_, rfl, _, _, rfl, lenVX (hS.same s1).x, _, _, rfl, rfl, _, rfl, ?_⟩
  rw [List.length_map]
  unfold plB at q
  by_cases c1 : ¬ 1 ≤ its.length
  · rw [decide_eq_false c1, Bool.false_and] at q
    exact iteN (by simp; omega) ⟨_, rfl, iteT (q _ s1)⟩
  have c1 := Classical.not_not.mp c1
  rw [decide_eq_true c1, Bool.true_and] at q
  refine iteY (decide_eq_true (by omega)) ⟨_, _, rfl, rfl, _, rfl, ?_⟩
  by_cases c2 : ¬ its.length ≤ 6
  · rw [decide_eq_false c2, Bool.false_and] at q
    exact iteY (by simp; omega) (q _ s1)
  have c2 := Classical.not_not.mp c2
  rw [decide_eq_true c2, Bool.true_and] at q
  refine iteN (by simp; omega) ?_
  refine ⟨_, rfl, a, _, rfl, (hS.same s1).x, fun J w => for_seq w (fun i σ J => Same (upd H tp (.tup [.ty "list", .ty "tuple"])) J ∧ (its.take i).all (fun z => z.2.isSome) = true ∧ ∃ v, σ = [some (.ref a), v]) ⟨fun _ _ h => h, rfl, _, rfl⟩ (fun i σ J _ h => h.1) ?_ ?_⟩
  · rintro i x σ J hx ⟨sJ, al, v, rfl⟩
    rw [List.getElem?_map] at hx
    obtain ⟨z, hz, rfl⟩ := Option.map_eq_some_iff.mp hx
    have mz := List.mem_of_getElem? hz
    have hz' := (hp z mz).same (s1.trans sJ)
    cases hz' with
    | @pl p d hpl =>
      obtain ⟨dx, ez⟩ := hpl
      refine ⟨_, rfl, _, _, _, _, true, rfl, .own _, T.is_Place.ty T.cl_Place ez, T.ko_Place_Place, _, rfl, iteF ⟨sJ, ?_, _, rfl⟩⟩
      rw [List.take_add_one, hz, List.all_append, al]
      rfl
    | no hod =>
      obtain ⟨t2, ty2, kt2⟩ := Od.noPl T hod
      refine ⟨_, rfl, _, _, _, _, false, rfl, .own _, ty2, kt2, _, rfl, iteT ?_⟩
      have e : its.all (fun z => z.2.isSome) = false := List.all_eq_false.mpr ⟨_, mz, by simp⟩
      rw [e, Bool.false_and] at q
      exact q J (s1.trans sJ)
  · rintro σ J ⟨sJ, al, v, rfl⟩
    rw [List.length_map, List.take_length] at al
    have s2 := s1.trans sJ
    obtain ⟨ps, rfl, hp2⟩ := all_pl hp al
    rw [al, Bool.true_and, fm_pl, List.map_map] at q
    rw [List.length_map] at c1 c2
    have hS2 : SqH J a (ps.map fun z => .ref z.1) := by
      have := hS.same s2
      rw [List.map_map] at this
      exact this
    refine ⟨_, rfl, a, _, rfl, hS2.x, fun It wk D hD => lc_seq wk (fun i J' => Same J J' ∧ J' D = some (.lst (((ps.take i).map fun z => z.2.n).map V.str))) ⟨Same.new hD, upd_same⟩ (fun i J' _ h => h.1) ?_ ?_⟩
    · rintro i x J' hx ⟨sJ', eD⟩
      rw [List.getElem?_map] at hx
      obtain ⟨z, hz, rfl⟩ := Option.map_eq_some_iff.mp hx
      obtain ⟨dx, ez⟩ := ((hp2 z (List.mem_of_getElem? hz)).same s2).same sJ'
      refine ⟨rfl, yesT ?_⟩
      refine iteT ⟨_, rfl, z.1, _, dx, _, _, rfl, ez, T.cl_Place, T.na_Place_name, lk_name _ _ _ _, _, eD, ?_, ?_⟩
      · rw [List.length_map, List.length_map, List.length_take]
        exact Nat.lt_of_le_of_lt (show min i ps.length ≤ 100 by omega) (by decide)
      · refine ⟨Same.upd sJ' hD, ?_⟩
        rw [upd_same, List.take_add_one, hz, List.map_append, List.map_append]
        rfl
    · rintro J' ⟨sJ', eD⟩
      rw [List.length_map, List.take_length] at eD
      refine ⟨rfl, rfl, _, rfl, D, _, 0, eqV, rfl, .inl (.inl (.inl eD)), by decide, ?_, fun J2 _ => eq_strs, fun J2 s3 => ⟨_, rfl, ?_⟩⟩
      · rw [List.length_map, List.length_map]; omega
      · rw [dup_nodup, Bool.not_not]
        exact q J2 ((s2.trans sJ').trans s3)
/-- the row of a name, as nexts_fit finds it -/
def RwSp (K : S.Frag) (H : Hp) (kvs : List (Key × V)) (ws : List Str) (z : Str) (b : Bool) : Prop :=
  (valV kvs (.inr z) = none ∧ b = false) ∨ (∃ v, valV kvs (.inr z) = some v ∧ NoTu H v ∧ b = false) ∨
  (∃ (t : Addr) (xs : List V) (g : V → PyData), valV kvs (.inr z) = some (.ref t) ∧ H t = some (.tup xs) ∧ xs.length < 100 ∧ (∀ u ∈ xs, Mx K H u (g u)) ∧ b = (!dupB (fun z y => mixEq (g z) (g y)) xs && xs.all fun u => ws.any fun n => mixEq (.str n) (g u)))
theorem RwSp.same {H H' : Hp} {kvs : List (Key × V)} {ws : List Str} {z : Str} {b : Bool} (h : RwSp K H kvs ws z b) (s : Same H H') : RwSp K H' kvs ws z b := by
  rcases h with h | ⟨v, e, n, hb⟩ | ⟨t, xs, g, e, et, lx, mx, hb⟩
  · exact .inl h
  · exact .inr (.inl ⟨v, e, n.same s, hb⟩)
  · exact .inr (.inr ⟨t, xs, g, e, s _ _ et, lx, fun u hu => (mx u hu).same s, hb⟩)
def spNFG (K : S.Frag) : Sp := Sp2 fun x y H Q _ => ∃ (a : Addr) (ws : List Str), x = .ref a ∧ SqH H a (ws.map V.str) ∧ ws.length < 100 ∧
  ((NoDk H y ∧ ∀ H', Same H H' → Q (.bl false) H') ∨ ∃ (d : Addr) (kvs : List (Key × V)) (rB : Str → Bool), y = .ref d ∧ H d = some (.dK kvs) ∧ (kvs.length = ws.length → ∀ z ∈ ws, RwSp K H kvs ws z (rB z)) ∧ ∀ H', Same H H' → Q (.bl (decide (kvs.length = ws.length) && ws.all rB)) H')
theorem ok_nexts_fit (T : Txt K mg) : FnOk P w K mg base (L2.CX P w) 2 (He.fAd K ("nexts_fit", none)) (S.fdA K ("nexts_fit", none)) ["names", "nexts"] (spNFG K) := by
  have G_has_equal_items := ok_has_equal_items (P := P) (w := w) (base := base) T
  refine FunD.ok T.F_nexts_fit sc_nexts_fit (fun vs H Q E h => S.splen2 h) (fun cdv A outer s H vs Q E hr h => ?_)
  have hu := hu_of hr
  refine ⟨_, (pss_cons (ps_if (PW.pt (pw_or (pt_not (pt_val (pe_callB (S.isiK (K := K) rfl) rfl T.n_isinstance S.boot_isinstance (pa_cons (pv 1) (pa_cons (pe_bltn (v := .ty "dict") rfl T.n_dict S.boot_dict rfl) pa_nil))))) (pw_or1 (pt_cmpR op_ne (pe_callB call_lenD rfl T.n_len S.boot_len (pa_cons (pv 1) pa_nil)) (pe_callB (S.lenK (K := K) rfl) rfl T.n_len S.boot_len (pa_cons (pv 0) pa_nil)) (nomark _))))) (pss_one (ps_ret pe_bl)) pss_nil)
      (pss_cons (ps_for (S.own_of rfl) rfl (S.pi_seqK (K := K) rfl (pv 0)) (pg_name (i := 2) sc_nexts_fit.nd rfl (by first | exact Or.inl rfl | exact Or.inr rfl))
        (pss_cons (ps_if (pt_cmp (pc_dnotin hu (pv 2) (pv 1))) (pss_one (ps_ret pe_bl)) pss_nil)
      (pss_cons (ps_set (i := 3) sc_nexts_fit.nd rfl (by first | exact Or.inl rfl | exact Or.inr rfl) (pe_dget hu (pv 1) (pv 2) (fun _ _ => rfl)))
      (pss_cons (ps_if (PW.pt (pw_or (pt_not (pt_val (pe_callB (S.isiK (K := K) rfl) rfl T.n_isinstance S.boot_isinstance (pa_cons (pv 3) (pa_cons (pe_bltn (v := .ty "tuple") rfl T.n_tuple S.boot_tuple rfl) pa_nil))))) (pw_or1 (pt_val (S.pe_fnS G_has_equal_items (hr.mono (by decide)) rfl T.g_has_equal_items T.F_has_equal_items.kp (kb_has_equal_items_1 T) S.pas0 (pa_cons (pv 3) pa_nil) pk_nil rfl rfl))))) (pss_one (ps_ret pe_bl)) pss_nil)
      (pss_one (ps_for (S.own_of rfl) rfl (S.pi_seqK (K := K) rfl (pv 3)) (pg_name (i := 4) sc_nexts_fit.nd rfl (by first | exact Or.inl rfl | exact Or.inr rfl))
        (pss_one (ps_if (pt_cmpR (S.notInGK (K := K) rfl (S.hu64 hr)) (pv 4) (pv 0) rfl) (pss_one (ps_ret pe_bl)) pss_nil))))))))
      (pss_one (ps_ret pe_bl)))), ?_⟩
  obtain ⟨_, y, rfl, a, ws, rfl, hS, lw, h⟩ := h
  rcases h with ⟨nd, q⟩ | ⟨d, kvs, rB, rfl, hd, hr', q⟩
  · obtain ⟨t, ty, kt⟩ := nd.ty (K := K)
    exact ⟨_, rfl, _, _, _, _, false, rfl, .ty _, ty, kt, _, rfl, iteT (iteT (q _ fun _ _ h => h))⟩
  refine ⟨_, rfl, _, _, _, _, true, rfl, .ty _, .base (.dK hd), kit_ty (by decide +kernel), _, rfl, iteF ?_⟩
  refine ⟨_, rfl, d, kvs, rfl, hd, _, rfl, _, _, rfl, lenVX hS.x, rfl, _, rfl, ?_⟩
  rw [List.length_map]
  by_cases lk : ¬ kvs.length = ws.length
  · rw [decide_eq_false lk, Bool.false_and] at q
    exact iteY (by simp; omega) (q _ fun _ _ h => h)
  have lk := Classical.not_not.mp lk
  have hr' := hr' lk
  rw [decide_eq_true lk, Bool.true_and] at q
  refine iteN (by simp [lk]) ?_
  refine ⟨_, rfl, a, _, rfl, hS.x, fun J w => for_seq w (fun i σ J => Same H J ∧ (ws.take i).all rB = true ∧ ∃ v1 v2 v3, σ = [some (.ref a), some (.ref d), v1, v2, v3]) ⟨fun _ _ h => h, rfl, _, _, _, rfl⟩ (fun i σ J _ h => h.1) ?_ ?_⟩
  · rintro i x σ J hx ⟨sJ, al, v1, v2, v3, rfl⟩
    rw [List.getElem?_map] at hx
    obtain ⟨z, hz, rfl⟩ := Option.map_eq_some_iff.mp hx
    have mz := List.mem_of_getElem? hz
    have edJ := sJ _ _ hd
    have bad : rB z = false → ∀ J2, Same J J2 → Q (.bl false) J2 := fun e J2 s2 => by
      have e2 : ws.all rB = false := List.all_eq_false.mpr ⟨z, mz, by rw [e]; decide⟩
      rw [e2] at q
      exact q J2 (sJ.trans s2)
    have good : rB z = true → (ws.take (i + 1)).all rB = true := fun e => by
      rw [List.take_add_one, hz, List.all_append, al]
      simp [e]
    rcases (hr' z mz).same sJ with ⟨e, eb⟩ | ⟨v, e, nt, eb⟩ | ⟨t, xs, g, e, et, lx, mx, eb⟩
    · have g : DGet J d (.str z) none := by
        have := DGet.k (k := .inr z) edJ
        rw [e] at this
        exact this
      exact ⟨_, rfl, _, rfl, d, _, rfl, g, _, rfl, iteT (bad eb _ fun _ _ h => h)⟩
    · have g : DGet J d (.str z) (some v) := by
        have := DGet.k (k := .inr z) edJ
        rw [e] at this
        exact this
      refine ⟨_, rfl, _, rfl, d, _, rfl, g, _, rfl, iteF ?_⟩
      obtain ⟨t, ty, kt⟩ := nt.ty (K := K)
      exact ⟨_, rfl, _, rfl, d, _, rfl, g, _, rfl, _, _, _, _, false, rfl, .ty _, ty, kt, _, rfl, iteT (iteT (bad eb _ fun _ _ h => h))⟩
    have g1 : DGet J d (.str z) (some (.ref t)) := by
      have := DGet.k (k := .inr z) edJ
      rw [e] at this
      exact this
    refine ⟨_, rfl, _, rfl, d, _, rfl, g1, _, rfl, iteF ?_⟩
    refine ⟨_, rfl, _, rfl, d, _, rfl, g1, ?_⟩
    refine ⟨_, rfl, _, _, _, _, true, rfl, .ty _, .base (.tup et), kit_ty (by decide +kernel), _, rfl, iteF ?_⟩
    refine ⟨_, rfl, rfl, rfl, _, rfl, t, _, 30, fun z y => mixEq (g z) (g y), rfl, .inr (.inl (.inl et)), by decide, by omega, fun J2 s2 u hu v hv => Mx.eq ((mx v hv).same s2) ((mx u hu).same s2), fun J2 s2 => ⟨_, rfl, ?_⟩⟩
    cases hdp : dupB (fun z y => mixEq (g z) (g y)) xs with
    | true =>
      rw [hdp] at eb
      exact iteT (bad (by rw [eb]; rfl) _ s2)
    | false =>
      rw [hdp] at eb
      have eb : rB z = xs.all fun u => ws.any fun n => mixEq (.str n) (g u) := by rw [eb]; rfl
      refine iteF ⟨_, rfl, t, _, rfl, .inr (.inl (.inl (s2 _ _ et))), fun It wk => for_seq wk (fun i σ J' => Same J2 J' ∧ (xs.take i).all (fun u => ws.any fun n => mixEq (.str n) (g u)) = true ∧ ∃ v3, σ = [some (.ref a), some (.ref d), some (.str z), some (.ref t), v3]) ⟨fun _ _ h => h, rfl, _, rfl⟩ (fun i σ J' _ h => h.1) ?_ ?_⟩
      · rintro j y σ J' hy ⟨sJ', al2, v3, rfl⟩
        have my := List.mem_of_getElem? hy
        refine ⟨_, rfl, _, rfl, a, _, 30, fun n => mixEq (dat n) (g y), rfl, (hS.same ((sJ.trans s2).trans sJ')).x, by decide, fun n hn => ?_, _, rfl, ?_⟩
        · obtain ⟨b, _, rfl⟩ := List.mem_map.mp hn
          exact Mx.eq (.dat (.str b) rfl (Nat.zero_le _)) (((mx y my).same s2).same sJ')
        have e2 : ((ws.map V.str).any fun n => mixEq (dat n) (g y)) = ws.any fun n => mixEq (.str n) (g y) := by rw [List.any_map]; rfl
        rw [e2]
        cases c : ws.any fun n => mixEq (.str n) (g y) with
        | true =>
          refine iteN (by decide) ⟨sJ', ?_, _, rfl⟩
          rw [List.take_add_one, hy, List.all_append, al2]
          simp [c]
        | false =>
          refine iteY (by decide) (bad ?_ _ (s2.trans sJ'))
          rw [eb]
          exact List.all_eq_false.mpr ⟨y, my, by rw [c]; decide⟩
      · rintro σ J' ⟨sJ', al2, v3, rfl⟩
        rw [List.take_length] at al2
        exact ⟨(sJ.trans s2).trans sJ', good (by rw [eb]; exact al2), _, _, _, rfl⟩
  · rintro σ J ⟨sJ, al, v1, v2, v3, rfl⟩
    rw [List.length_map, List.take_length] at al
    rw [al] at q
    exact q J sJ
/-! what is wrong with the parts -/
structure GdPl (K : S.Frag) (H : Hp) (x : V) (ws : List Str) : Prop where
  ex : ∃ (a : Addr) (ps : List (Addr × Pl)), x = .ref a ∧ SqH H a (ps.map fun z => .ref z.1) ∧ (∀ z ∈ ps, PlA K H z.1 z.2) ∧ ps.map (fun z => z.2.n) = ws
  l1 : 1 ≤ ws.length
  l6 : ws.length ≤ 6
  nd : ws.Nodup
def BdPl (K : S.Frag) (H : Hp) (x : V) : Prop := NoLT H x ∨ ∃ (a : Addr) (its : List (V × Option Pl)), x = .ref a ∧ SqH H a (its.map Prod.fst) ∧ (∀ z ∈ its, PIt K H z) ∧ its.length < 900 ∧ plB its = false
def GdNx (H : Hp) (y : V) (ws : List Str) : Prop := ∃ (d : Addr) (kvs : List (Key × V)), y = .ref d ∧ H d = some (.dK kvs) ∧ kvs.length = ws.length ∧ ∀ z ∈ ws, ∃ (t : Addr) (ns : List Str), valV kvs (.inr z) = some (.ref t) ∧ H t = some (.tup (ns.map V.str)) ∧ ns.length < 100 ∧ ns.Nodup ∧ ∀ u ∈ ns, u ∈ ws
def BdNx (K : S.Frag) (H : Hp) (y : V) (ws : List Str) : Prop := NoDk H y ∨ ∃ (d : Addr) (kvs : List (Key × V)) (rB : Str → Bool), y = .ref d ∧ H d = some (.dK kvs) ∧ (kvs.length = ws.length → ∀ z ∈ ws, RwSp K H kvs ws z (rB z)) ∧ (decide (kvs.length = ws.length) && ws.all rB) = false
def GdSt (z : V) (ws : List Str) : Prop := z = .non ∨ ∃ s, z = .str s ∧ s ∈ ws
def BdSt (K : S.Frag) (H : Hp) (z : V) (ws : List Str) : Prop := z ≠ .non ∧ ∃ e, Mx K H z e ∧ (ws.any fun n => mixEq (.str n) e) = false
theorem GdPl.same {H H' : Hp} {x : V} {ws : List Str} (h : GdPl K H x ws) (s : Same H H') : GdPl K H' x ws := by
  obtain ⟨⟨a, ps, e, hS, hp, en⟩, l1, l6, nd⟩ := h
  exact ⟨⟨a, ps, e, hS.same s, fun z hz => (hp z hz).same s, en⟩, l1, l6, nd⟩
theorem BdPl.same {H H' : Hp} {x : V} (h : BdPl K H x) (s : Same H H') : BdPl K H' x := by
  rcases h with h | ⟨a, its, e, hS, hp, l9, b⟩
  · exact .inl (h.same s)
  · exact .inr ⟨a, its, e, hS.same s, fun z hz => (hp z hz).same s, l9, b⟩
theorem GdNx.same {H H' : Hp} {y : V} {ws : List Str} (h : GdNx H y ws) (s : Same H H') : GdNx H' y ws := by
  obtain ⟨d, kvs, e, hd, l, r⟩ := h
  exact ⟨d, kvs, e, s _ _ hd, l, fun z hz => let ⟨t, ns, e1, e2, r⟩ := r z hz; ⟨t, ns, e1, s _ _ e2, r⟩⟩
theorem BdNx.same {H H' : Hp} {y : V} {ws : List Str} (h : BdNx K H y ws) (s : Same H H') : BdNx K H' y ws := by
  rcases h with h | ⟨d, kvs, rB, e, hd, r, b⟩
  · exact .inl (h.same s)
  · exact .inr ⟨d, kvs, rB, e, s _ _ hd, fun l z hz => (r l z hz).same s, b⟩
theorem BdSt.same {H H' : Hp} {z : V} {ws : List Str} (h : BdSt K H z ws) (s : Same H H') : BdSt K H' z ws := let ⟨n, e, m, b⟩ := h; ⟨n, e, m.same s, b⟩
/-- the first part that is wrong -/
inductive PgV (K : S.Frag) (H : Hp) (x y z : V) (ws : List Str) : Str → Prop where
  | pl (h : BdPl K H x) : PgV K H x y z ws "places"
  | nx (g : GdPl K H x ws) (h : BdNx K H y ws) : PgV K H x y z ws "nexts"
  | st (g : GdPl K H x ws) (n : GdNx H y ws) (h : BdSt K H z ws) : PgV K H x y z ws "start"
  | ok (g : GdPl K H x ws) (n : GdNx H y ws) (h : GdSt z ws) : PgV K H x y z ws ""
theorem PgV.same {H H' : Hp} {x y z : V} {ws : List Str} {due : Str} (h : PgV K H x y z ws due) (s : Same H H') : PgV K H' x y z ws due := by
  cases h with
  | pl h => exact .pl (h.same s)
  | nx g h => exact .nx (g.same s) (h.same s)
  | st g n h => exact .st (g.same s) (n.same s) (h.same s)
  | ok g n h => exact .ok (g.same s) (n.same s) h
theorem gd_plB {ps : List (Addr × Pl)} {ws : List Str} (en : ps.map (fun z => z.2.n) = ws) (l1 : 1 ≤ ws.length) (l6 : ws.length ≤ 6) (nd : ws.Nodup) : plB (ps.map fun z => (V.ref z.1, some z.2)) = true := by
  have ln : ps.length = ws.length := by rw [← en, List.length_map]
  unfold plB
  rw [List.length_map, ln, decide_eq_true l1, decide_eq_true l6, fm_pl, List.map_map]
  have e1 : (ps.map fun z => (V.ref z.1, some z.2)).all (fun z => z.2.isSome) = true := by
    rw [List.all_map, List.all_eq_true]
    intro z _
    rfl
  rw [e1]
  have e2 : List.map (Pl.n ∘ Prod.snd) ps = ws := en
  rw [e2, decide_eq_true nd]
  rfl
theorem gd_rw {H : Hp} {kvs : List (Key × V)} {ws : List Str} {z : Str} (h : ∃ (t : Addr) (ns : List Str), valV kvs (.inr z) = some (.ref t) ∧ H t = some (.tup (ns.map V.str)) ∧ ns.length < 100 ∧ ns.Nodup ∧ ∀ u ∈ ns, u ∈ ws) : RwSp K H kvs ws z true := by
  obtain ⟨t, ns, e1, e2, l, nd, sub⟩ := h
  refine .inr (.inr ⟨t, ns.map V.str, dat, e1, e2, by rw [List.length_map]; exact l, fun u hu => ?_, ?_⟩)
  · obtain ⟨b, _, rfl⟩ := List.mem_map.mp hu
    exact .dat (.str b) rfl (Nat.zero_le _)
  · have e3 : dupB (fun z y => mixEq (dat z) (dat y)) (ns.map V.str) = false := by
      have := nodup_dup nd
      unfold dupB at this ⊢
      rw [List.any_eq_false] at this ⊢
      intro i hi
      have h2 := this i hi
      rw [List.getElem?_map] at h2 ⊢
      cases hx : ns[i]? with
      | none => simp
      | some x =>
        rw [hx] at h2
        simp only [Option.map_some, List.any_eq_true, not_exists, not_and] at h2 ⊢
        intro y hy
        rw [← List.map_take] at hy
        obtain ⟨b, hb, rfl⟩ := List.mem_map.mp hy
        have h3 := h2 (V.str b) (by rw [← List.map_take]; exact hy)
        simpa [dat, mixEq, PyData.eqv, eqV_str] using h3
    rw [e3]
    symm
    simp only [Bool.not_false, Bool.true_and]
    rw [List.all_map, List.all_eq_true]
    intro u hu
    exact List.any_eq_true.mpr ⟨u, sub u hu, by simp [Function.comp, dat, mixEq, PyData.eqv]⟩
def spProgG (K : S.Frag) : Sp := Sp4 fun self x y z H Q E => ∃ (p dx : Addr) (ws : List Str) (due : Str), self = .ref p ∧ H p = some (.ins (He.ga K "Program") dx []) ∧ PgV K H x y z ws due ∧ (due ≠ "" → badAt K "BadProgram" "why" (.str due) H E) ∧
  (due = "" → ∀ H' fs u, Kp p H H' → H' p = some (.ins (He.ga K "Program") dx fs) → fs.lookup ("names" : Str) = some (.ref u) → H' u = some (.tup (ws.map V.str)) → fs.lookup ("with_let" : Str) = none → Q .non H')
theorem ok_Program___init__ (T : Txt K mg) : FnOk P w K mg base (L2.CX P w) 3 (He.fAd K ("Program", some "__init__")) (S.fdA K ("Program", some "__init__")) ["self", "places", "nexts", "start"] (spProgG K) := by
  have G_places_fit := ok_places_fit (P := P) (w := w) (base := base) T
  have G_BadProgram___init__ := ok_BadProgram___init__ (P := P) (w := w) (base := base) T
  have G_nexts_fit := ok_nexts_fit (P := P) (w := w) (base := base) T
  refine FunD.ok T.F_Program___init__ sc_Program___init__ (fun vs H Q E h => S.splen4 h) (fun cdv A outer s H vs Q E hr h => ?_)
  have hu := hu_of hr
  refine ⟨_, (pss_cons (ps_if (pt_not (pt_val (S.pe_fnS G_places_fit (hr.mono (by decide)) rfl T.g_places_fit T.F_places_fit.kp (kb_places_fit_1 T) S.pas0 (pa_cons (pv 1) pa_nil) pk_nil rfl rfl))) (pss_one (S.ps_raiseO rfl (takes_of rfl rfl rfl rfl) T.ox_BadProgram T.xi_BadProgram T.xt_BadProgram G_BadProgram___init__ (hr.mono (by decide)) (kb_BadProgram___init___2 T) rfl T.g_BadProgram (pa_cons pe_str pa_nil))) pss_nil)
      (pss_cons (ps_setLc (i := 4) (own := [("place", 5)]) (g := gName 5) (tt := tYes) rfl sc_Program___init__.nd rfl rfl (sw_true rfl rfl rfl (by decide +kernel)) (S.pi_seqK (K := K) rfl (pv 1)) (blkOk_by (N := ["self", "places", "nexts", "start", "names", "place", "name"]) (sc := defScope s_Program___init__) (by decide +kernel)) (fun _ _ _ _ _ => pg_name (i := 5) sc_Program___init__.nd rfl (by first | exact Or.inl rfl | exact Or.inr rfl)) (fun _ _ _ _ _ => pts_nil) (fun _ _ _ _ _ => (S.pe_fldK (K := K) rfl (pv 5) rfl)))
      (pss_cons (ps_if (pt_not (pt_val (S.pe_fnS G_nexts_fit (hr.mono (by decide)) rfl T.g_nexts_fit T.F_nexts_fit.kp (kb_nexts_fit_2 T) S.pas0 (pa_cons (pv 4) (pa_cons (pv 2) pa_nil)) pk_nil rfl rfl))) (pss_one (S.ps_raiseO rfl (takes_of rfl rfl rfl rfl) T.ox_BadProgram T.xi_BadProgram T.xt_BadProgram G_BadProgram___init__ (hr.mono (by decide)) (kb_BadProgram___init___2 T) rfl T.g_BadProgram (pa_cons pe_str pa_nil))) pss_nil)
      (S.pss_cut (ps_if (pt_cmpR op_isN (pv 3) pe_non (nomark _)) (pss_one (ps_set (i := 3) sc_Program___init__.nd rfl (by first | exact Or.inl rfl | exact Or.inr rfl) (pe_ix (S.ixK (K := K) rfl) (pv 4) pe_int (fun _ _ => rfl)))) pss_nil)
      (pss_cons (ps_if (pt_cmpR (S.notInGK (K := K) rfl (S.hu64 hr)) (pv 3) (pv 4) rfl) (pss_one (S.ps_raiseO rfl (takes_of rfl rfl rfl rfl) T.ox_BadProgram T.xi_BadProgram T.xt_BadProgram G_BadProgram___init__ (hr.mono (by decide)) (kb_BadProgram___init___2 T) rfl T.g_BadProgram (pa_cons pe_str pa_nil))) pss_nil)
      (pss_cons (S.ps_fldK (K := K) rfl (pv 0) (pe_callTy (S.listOfK (K := K) rfl) rfl T.n_list S.boot_list (pa_cons (pv 1) pa_nil)) rfl)
      (pss_cons (S.ps_fldK (K := K) rfl (pv 0) (pe_callTy (S.tupOfK (K := K) rfl) rfl T.n_tuple S.boot_tuple (pa_cons (pv 4) pa_nil)) rfl)
      (pss_cons (S.ps_fldK (K := K) rfl (pv 0) (pv 3) rfl)
      (pss_one (S.ps_fldK (K := K) rfl (pv 0) (pe_dc (own := [("name", 6)]) (g := gName 6) (tt := tYes) rfl sc_Program___init__.nd (S.pi_seqK (K := K) rfl (pv 4)) (blkOk_by (N := ["self", "places", "nexts", "start", "names", "place", "name"]) (sc := defScope s_Program___init__) (by decide +kernel)) (fun _ _ _ _ _ => pg_name (i := 6) sc_Program___init__.nd rfl (by first | exact Or.inl rfl | exact Or.inr rfl)) (fun _ _ _ _ _ => pts_nil) (fun _ _ _ _ _ => (pv 6)) (fun _ _ _ _ _ => (pe_dget hu (pv 2) (pv 6) (fun _ _ => rfl)))) rfl)))))))))), ?_⟩
  obtain ⟨_, x, y, z, rfl, p, dx, ws, due, rfl, hp, hv, bad, q⟩ := h
  have rs : ∀ (due' : Str), due = due' → due' ≠ "" → badAt K "BadProgram" "why" (.str due') H E := fun d e n => by
    subst e
    exact bad n
  have pf : (BdPl K H x → ∀ (Z : VK), (∀ J, Same H J → Z (.bl false) J) → spPFG K [x] H Z E0) := fun h Z k => by
    rcases h with h | ⟨a, its, e, hS, hi, l9, b⟩
    · exact ⟨_, rfl, .inl ⟨h, k⟩⟩
    · exact ⟨_, rfl, .inr ⟨a, its, e, hS, hi, l9, by rw [b]; exact k⟩⟩
  have pg : (GdPl K H x ws → ∀ (Z : VK), (∀ J, Same H J → Z (.bl true) J) → spPFG K [x] H Z E0) := fun h Z k => by
    obtain ⟨⟨a, ps, e, hS, hi, en⟩, l1, l6, nd⟩ := h
    refine ⟨_, rfl, .inr ⟨a, ps.map fun z => (V.ref z.1, some z.2), e, by rw [List.map_map]; exact hS, fun z hz => ?_, ?_, by rw [gd_plB en l1 l6 nd]; exact k⟩⟩
    · obtain ⟨y, hy, rfl⟩ := List.mem_map.mp hz
      exact .pl (hi y hy)
    · rw [List.length_map, ← List.length_map (f := fun z : Addr × Pl => z.2.n), en]
      omega
  by_cases hb : BdPl K H x ∧ due = "places"
  · obtain ⟨hb, rfl⟩ := hb
    exact ⟨_, rfl, rfl, rfl, pf hb _ fun J sJ => ⟨_, rfl, iteT (raise_err (.str "places") ((rs _ rfl (by decide)).same sJ))⟩⟩
  have hg : GdPl K H x ws := by
    cases hv with
    | pl h => exact absurd ⟨h, rfl⟩ hb
    | nx g _ => exact g
    | st g _ _ => exact g
    | ok g _ _ => exact g
  refine ⟨_, rfl, rfl, rfl, pg hg _ fun J0 s0 => ⟨_, rfl, iteF ?_⟩⟩
  obtain ⟨⟨a, ps, rfl, hS, hi, en⟩, l1, l6, nd⟩ := id hg
  have lps : ps.length = ws.length := by rw [← en, List.length_map]
  -- the names
  refine ⟨_, rfl, a, _, rfl, (hS.same s0).x, fun It wk D hD => lc_seq wk (fun i J => Same J0 J ∧ J D = some (.lst ((ws.take i).map V.str))) ⟨Same.new hD, upd_same⟩ (fun i J _ h => h.1) ?_ ?_⟩
  · rintro i v J hv' ⟨sJ, eD⟩
    rw [List.getElem?_map] at hv'
    obtain ⟨r, hr', rfl⟩ := Option.map_eq_some_iff.mp hv'
    obtain ⟨dr, er⟩ := (hi r (List.mem_of_getElem? hr')).same (s0.trans sJ)
    refine ⟨rfl, yesT ?_⟩
    refine iteT ⟨_, rfl, r.1, _, dr, _, _, rfl, er, T.cl_Place, T.na_Place_name, lk_name _ _ _ _, _, eD, ?_, Same.upd sJ hD, ?_⟩
    · rw [List.length_map, List.length_take]
      exact Nat.lt_of_le_of_lt (show min i ws.length ≤ 100 by omega) (by decide)
    · have e : ws[i]? = some r.2.n := by rw [← en, List.getElem?_map, hr']; rfl
      rw [upd_same, List.take_add_one, e, List.map_append]
      rfl
  rintro J1 ⟨s1, eD⟩
  have eD : J1 D = some (.lst (ws.map V.str)) := by
    rw [List.length_map, lps, List.take_length] at eD
    exact eD
  have s01 := s0.trans s1
  by_cases hb2 : BdNx K H y ws ∧ due = "nexts"
  · obtain ⟨hb2, rfl⟩ := hb2
    refine ⟨_, rfl, _, rfl, rfl, rfl, _, _, rfl, D, ws, rfl, .inl eD, by omega, ?_⟩
    have fin : ∀ J, Same J1 J → badAt K "BadProgram" "why" (.str "nexts") J E := fun J sJ => (rs _ rfl (by decide)).same (s01.trans sJ)
    rcases hb2.same s01 with h | ⟨d, kvs, rB, e, hd, hr', b⟩
    · exact .inl ⟨h, fun J sJ => ⟨_, rfl, iteT (raise_err (.str "nexts") (fin J sJ))⟩⟩
    · refine .inr ⟨d, kvs, rB, e, hd, hr', ?_⟩
      rw [b]
      exact fun J sJ => ⟨_, rfl, iteT (raise_err (.str "nexts") (fin J sJ))⟩
  have hn : GdNx H y ws := by
    cases hv with
    | pl h => exact absurd ⟨h, rfl⟩ hb
    | nx _ h => exact absurd ⟨h, rfl⟩ hb2
    | st _ n _ => exact n
    | ok _ n _ => exact n
  obtain ⟨d, kvs, rfl, hd, lk, hrow⟩ := id hn
  have hn1 := hn.same s01
  obtain ⟨d', kvs', e', hd', lk', hrow'⟩ := hn1
  injection e' with e'
  subst e'
  rw [s01 _ _ hd] at hd'
  injection hd' with hd'
  injection hd' with hd'
  subst hd'
  refine ⟨_, rfl, _, rfl, rfl, rfl, _, _, rfl, D, ws, rfl, .inl eD, by omega, .inr ⟨d, kvs, fun _ => true, rfl, s01 _ _ hd, fun _ z hz => gd_rw (hrow' z hz), fun J2 s2 => ⟨_, rfl, ?_⟩⟩⟩
  have e9 : (decide (kvs.length = ws.length) && ws.all fun _ => true) = true := by
    rw [decide_eq_true lk]
    simp
  rw [e9]
  refine iteF ?_
  have s02 := s01.trans s2
  have eD2 := s2 _ _ eD
  obtain ⟨n0, hn0⟩ : ∃ n0, ws[0]? = some n0 := ⟨_, List.getElem?_eq_getElem (by omega)⟩
  -- the start
  refine ⟨fun τ J => J = J2 ∧ ∃ z', (z = .non → z' = .str n0) ∧ (z ≠ .non → z' = z) ∧ τ = [some (.ref p), some (.ref a), some (.ref d), some z', some (.ref D), none, none], ?_, ?_⟩
  · refine ⟨_, rfl, rfl, _, rfl, ?_⟩
    by_cases cz : z = .non
    · refine iteY (by simp [cz]) ⟨_, rfl, .inl ⟨D, _, _, _, rfl, rfl, .inl (.inl eD2), atI_lt (by decide) (show (ws.map V.str)[0]? = some (.str n0) by rw [List.getElem?_map, hn0]; rfl), rfl, _, (fun _ => rfl), (fun h => absurd cz h), rfl⟩⟩
    · exact iteN (by simpa using cz) ⟨rfl, _, (fun h => absurd h cz), (fun _ => rfl), rfl⟩
  rintro τ J ⟨rfl, z', hz0, hz1, rfl⟩
  have mz : ∃ e, Mx K J z' e ∧ (due = "start" → (ws.any fun n => mixEq (.str n) e) = false) ∧ (due = "" → ∃ s, z' = .str s ∧ e = .str s ∧ s ∈ ws) := by
    cases hv with
    | pl h => exact absurd ⟨h, rfl⟩ hb
    | nx _ h => exact absurd ⟨h, rfl⟩ hb2
    | st _ _ h =>
      obtain ⟨ne, e, m, b⟩ := h
      rw [hz1 ne]
      exact ⟨e, m.same s02, fun _ => b, fun h => absurd h (by decide)⟩
    | ok _ _ h =>
      rcases h with e | ⟨s, e, hs⟩
      · exact ⟨.str n0, by rw [hz0 e]; exact .dat (.str _) rfl (Nat.zero_le _), fun h => absurd h (by decide), fun _ => ⟨n0, hz0 e, rfl, List.mem_of_getElem? hn0⟩⟩
      · have := hz1 (by rw [e]; intro h; cases h)
        rw [e] at this
        exact ⟨.str s, by rw [this]; exact .dat (.str _) rfl (Nat.zero_le _), fun h => absurd h (by decide), fun _ => ⟨s, this, rfl, hs⟩⟩
  obtain ⟨e, me, hbad, hok⟩ := mz
  refine ⟨_, rfl, _, rfl, D, _, 30, fun n => mixEq (dat n) e, rfl, .inl (.inl (.inl eD2)), by decide, fun n hn => ?_, _, rfl, ?_⟩
  · obtain ⟨b, _, rfl⟩ := List.mem_map.mp hn
    exact Mx.eq (.dat (.str b) rfl (Nat.zero_le _)) me
  have e2 : ((ws.map V.str).any fun n => mixEq (dat n) e) = ws.any fun n => mixEq (.str n) e := by rw [List.any_map]; rfl
  rw [e2]
  by_cases hb3 : due = "start"
  · rw [hbad hb3]
    subst hb3
    exact iteY (by decide) (raise_err (.str "start") ((rs _ rfl (by decide)).same s02))
  have hdue : due = "" := by
    cases hv with
    | pl h => exact absurd ⟨h, rfl⟩ hb
    | nx _ h => exact absurd ⟨h, rfl⟩ hb2
    | st _ _ _ => exact absurd rfl hb3
    | ok _ _ _ => rfl
  obtain ⟨st, rfl, rfl, hsm⟩ := hok hdue
  have e3 : (ws.any fun n => mixEq (.str n) (.str st)) = true := List.any_eq_true.mpr ⟨st, hsm, by simp [mixEq, PyData.eqv]⟩
  rw [e3]
  refine iteN (by decide) ?_
  have q := q hdue
  have hp2 := s02 _ _ hp
  -- the fields
  refine ⟨_, rfl, a, _, rfl, (hS.same s02).x, fun l hl => ⟨_, rfl, p, _, dx, _, rfl, Same.new hl _ _ hp2, T.cl_Program, T.na_Program_places, (by show 0 < 1000; decide), ?_⟩⟩
  have npl : l ≠ p := (ne_of_none hp2 hl).symm
  have k1 : Kp p J (upd (upd J l (.lst (ps.map fun z => .ref z.1))) p (.ins (He.ga K "Program") dx (putF "places" (.ref l) []))) := (Kp.of (Same.new hl)).trans Kp.put
  have npD : D ≠ p := (ne_of_none (s0 _ _ hp) hD).symm
  refine ⟨_, rfl, D, _, rfl, .inl ⟨.inl (.inl (k1 _ _ npD eD2)), fun u hu' => ⟨_, rfl, p, _, dx, _, rfl, Same.new hu' _ _ upd_same, T.cl_Program, T.na_Program_names, (by show 1 < 1000; decide), ?_⟩⟩⟩
  have npu : u ≠ p := (ne_of_none upd_same hu').symm
  refine ⟨_, rfl, _, rfl, p, _, dx, _, rfl, upd_same, T.cl_Program, T.na_Program_start, (by show 2 < 1000; decide), ?_⟩
  generalize hJ3 : upd (upd (upd (upd (upd J l (.lst (ps.map fun z => .ref z.1))) p (.ins (He.ga K "Program") dx (putF "places" (.ref l) []))) u (.tup (ws.map V.str))) p (.ins (He.ga K "Program") dx (putF "names" (.ref u) (putF "places" (.ref l) [])))) p (.ins (He.ga K "Program") dx (putF "start" (.str st) (putF "names" (.ref u) (putF "places" (.ref l) [])))) = J3
  have e3p : J3 p = some (.ins (He.ga K "Program") dx (putF "start" (.str st) (putF "names" (.ref u) (putF "places" (.ref l) [])))) := by rw [← hJ3]; exact upd_same
  have k3 : Kp p J J3 := by rw [← hJ3]; exact (((k1.trans (Kp.of (Same.new hu'))).trans Kp.put).trans Kp.put)
  have e3u : J3 u = some (.tup (ws.map V.str)) := by rw [← hJ3, upd_ne npu, upd_ne npu, upd_same]
  have npd : d ≠ p := ne_of hd hp (by intro z; cases z)
  have e3D := k3 _ _ npD eD2
  have e3d := k3 _ _ npd (s02 _ _ hd)
  clear hJ3
  refine ⟨_, rfl, D, _, rfl, .inl (.inl (.inl e3D)), fun It wk k hk => dc_it wk (fun i J' => Same J3 J' ∧ ∃ ks : List (Key × V), J' k = some (.dK ks) ∧ ks.length ≤ i) ⟨Same.new hk, [], upd_same, Nat.le_refl _⟩ (fun i J' _ h => h.1) ?_ ?_⟩
  · rintro i v J' J'' hi' ⟨sJ, ks, ek, lks⟩ ⟨rfl, hv'⟩
    rw [List.getElem?_map] at hv'
    obtain ⟨z, hz, rfl⟩ := Option.map_eq_some_iff.mp hv'
    obtain ⟨t, ns, g1, _⟩ := hrow z (List.mem_of_getElem? hz)
    have g : DGet J'' d (.str z) (some (.ref t)) := by
      have := DGet.k (k := .inr z) (sJ _ _ e3d)
      rw [g1] at this
      exact this
    have il : i < ws.length := get_lt hz
    refine ⟨rfl, yesT ?_⟩
    refine iteT ⟨_, rfl, _, rfl, _, rfl, d, _, rfl, g, _, .inr z, rfl, ek, ?_, Same.upd sJ hk, _, upd_same, ?_⟩
    · exact Nat.lt_of_le_of_lt (show ks.length ≤ 100 by omega) (by decide)
    · unfold putK
      split
      · rw [List.length_map]; omega
      · rw [List.length_append]; simp; omega
  · rintro J4 ⟨s4, ks, ek, lks⟩
    refine ⟨_, rfl, p, _, dx, _, rfl, s4 _ _ e3p, T.cl_Program, T.na_Program_links, (by show 3 < 1000; decide), q _ _ u ((Kp.of s02).trans (k3.trans ((Kp.of s4).trans Kp.put))) upd_same (lg_names l u k st) ?_ ?_⟩
    · rw [upd_ne npu]; exact s4 _ _ e3u
    · show (fldG l u k st).lookup ("with_let" : Str) = none
      unfold fldG
      rw [lookup_put, if_neg (by decide +kernel), lookup_put, if_neg (by decide +kernel), lookup_put, if_neg (by decide +kernel), lookup_put, if_neg (by decide +kernel)]
      rfl
end
end W

namespace W
open PySem PySem.Spec PyProof.Rows L2
section
variable {P : Program} {w : World} {K : S.Frag} {mg : Str → Option Value} {base : Heap}
open S
/-! what the law spoils, copies, asks -/
/-- equal to itself wherever it stands -/
def SE (v : V) : Prop := (∃ a, v = .ref a) ∨ v = .non ∨ (∃ b, v = .bl b) ∨ (∃ i, v = .int i) ∨ ∃ z, v = .str z
theorem SE.eq {H : Hp} {v : V} (h : SE v) : EqOk K H 5 v v true := by
  have flat : ∀ {x : V} {d : PyData}, Dp K H x d → d.plain = true → d.depth ≤ 5 → PyData.eqv d d = true → EqOk K H 5 x x true := fun {x d} hd hp hl he => (((eg_dat hd hd hp hp).up (m := 5) (by omega)).to he).at_
  rcases h with ⟨a, rfl⟩ | rfl | ⟨b, rfl⟩ | ⟨i, rfl⟩ | ⟨z, rfl⟩
  · exact eg_same
  · exact flat .non rfl (by simp [PyData.depth]) (by simp [PyData.eqv])
  · exact flat (.bl b) rfl (by simp [PyData.depth]) (by simp [PyData.eqv])
  · exact flat (.int i) rfl (by simp [PyData.depth]) (by simp [PyData.eqv])
  · exact flat (.str z) rfl (by simp [PyData.depth]) (by simp [PyData.eqv])
theorem Od.se {H : Hp} {v : V} (h : Od H v) : SE v := by
  cases h with
  | int i => exact .inr (.inr (.inr (.inl ⟨_, rfl⟩)))
  | non => exact .inr (.inl rfl)
  | bl b => exact .inr (.inr (.inl ⟨_, rfl⟩))
  | str z => exact .inr (.inr (.inr (.inr ⟨_, rfl⟩)))
  | tup h => exact .inl ⟨_, rfl⟩
  | lst h => exact .inl ⟨_, rfl⟩
  | dK h => exact .inl ⟨_, rfl⟩
/-- what the law copies -/
inductive Cp (H : Hp) : V → Prop where
  | lst {a : Addr} {xs : List V} (h : H a = some (.lst xs)) (se : ∀ v ∈ xs, SE v) : Cp H (.ref a)
  | dK {a : Addr} {xs : List (Key × V)} (h : H a = some (.dK xs)) (se : ∀ v ∈ xs, SE v.2) (nd : (xs.map Prod.fst).Nodup) : Cp H (.ref a)
  | tup {a : Addr} (h : H a = some (.tup [])) : Cp H (.ref a)
  | non : Cp H .non
  | str (z : Str) : Cp H (.str z)
  | int (i : Int) : Cp H (.int i)
  | bl (b : Bool) : Cp H (.bl b)
theorem Cp.same {H H' : Hp} {x : V} (h : Cp H x) (s : Same H H') : Cp H' x := by
  cases h with
  | lst h se => exact .lst (s _ _ h) se
  | dK h se nd => exact .dK (s _ _ h) se nd
  | tup h => exact .tup (s _ _ h)
  | non => exact .non
  | str z => exact .str z
  | int i => exact .int i
  | bl b => exact .bl b
theorem hits_self {ks : List (Key × V)} (nd : (ks.map Prod.fst).Nodup) : (decide (ks.length = ks.length) && hitsV (fun _ _ => true) ks ks) = true := by
  rw [decide_eq_true rfl, Bool.true_and]
  unfold hitsV
  rw [List.all_eq_true]
  intro p hp
  cases e : valV ks p.1 with
  | none =>
    exfalso
    unfold valV at e
    rw [Option.map_eq_none_iff] at e
    have := List.find?_eq_none.mp e p hp
    simp at this
  | some y => rfl
theorem val_self {ks : List (Key × V)} (nd : (ks.map Prod.fst).Nodup) {p : Key × V} (hp : p ∈ ks) {y : V} (h : valV ks p.1 = some y) : y = p.2 := by
  unfold valV at h
  obtain ⟨kv, e, rfl⟩ := Option.map_eq_some_iff.mp h
  have h1 : kv.1 = p.1 := by simpa using List.find?_some e
  have m := List.mem_of_find?_eq_some e
  obtain ⟨i, hi, rfl⟩ := List.mem_iff_getElem.mp m
  obtain ⟨j, hj, rfl⟩ := List.mem_iff_getElem.mp hp
  have q := List.pairwise_iff_getElem.mp nd
  simp only [List.length_map, List.getElem_map] at q
  rcases Nat.lt_trichotomy i j with g | g | g
  · exact absurd h1 (q i j hi hj g)
  · subst g; rfl
  · exact absurd h1.symm (q j i hj hi g)
/-- a thing and its copy: not unequal -/
def CpEq (K : S.Frag) (H : Hp) (x y : V) : Prop := ∀ H', Same H H' → NeOk K H' 30 x y true
def spCopies (K : S.Frag) : Sp := Sp1 fun x H Q _ => Cp H x ∧ ∀ y H', Same H H' → CpEq K H' x y → Q y H'
theorem NeOk.up {H : Hp} {n m : Nat} {x y : V} {b : Bool} (h : NeOk K H n x y b) (l : n ≤ m) : NeOk K H m x y b := fun X pins σ s A v u k I hu => h X pins σ s A v u k I (Nat.lt_of_le_of_lt (Nat.add_le_add_left l _) hu)
theorem ne_dat {H : Hp} {x : V} {d : PyData} (h : Dp K H x d) (p : d.plain = true) (l : d.depth ≤ 20) : NeOk K H 30 x x true := NeOk.up ((eg_dat h h p p).to (SeqAt.eqv_refl_plain d p)).ne (by omega)
theorem ok__law_copies (T : Txt K mg) : FnOk P w K mg base (L2.CX P w) 1 (He.fAd K ("_law_copies", none)) (S.fdA K ("_law_copies", none)) ["_law_value"] (spCopies K) := by
  refine FunD.ok T.F__law_copies sc__law_copies (fun vs H Q E h => S.splen1 h) (fun cdv A outer s H vs Q E hr h => ?_)
  have hu := hu_of hr
  refine ⟨_, (pss_cons (ps_if (pt_val (pe_callB (S.isiK (K := K) rfl) rfl T.n_isinstance S.boot_isinstance (pa_cons (pv 0) (pa_cons (pe_bltn (v := .ty "list") rfl T.n_list S.boot_list rfl) pa_nil)))) (pss_one (ps_ret (pe_callTy (S.listOfK (K := K) rfl) rfl T.n_list S.boot_list (pa_cons (pv 0) pa_nil)))) pss_nil)
      (pss_cons (ps_if (pt_val (pe_callB (S.isiK (K := K) rfl) rfl T.n_isinstance S.boot_isinstance (pa_cons (pv 0) (pa_cons (pe_bltn (v := .ty "dict") rfl T.n_dict S.boot_dict rfl) pa_nil)))) (pss_one (ps_ret (pe_bm0 PySem.F.plainAttrs_dict PySem.F.slot_dict_copy PySem.F.type_dict_copy S.mt_dcopy (pv 0) ))) pss_nil)
      (pss_one (ps_ret (pv 0))))), ?_⟩
  obtain ⟨x, rfl, hc, q⟩ := h
  have flat : ∀ {d : PyData}, Dp K H x d → d.plain = true → d.depth ≤ 20 → Q x H := fun hd p l => q x H (fun _ _ h => h) fun H' s => ne_dat (dp_same s hd) p l
  cases hc with
  | @lst a xs h se =>
    refine ⟨_, rfl, _, _, _, _, true, rfl, .ty _, .base (.lst h), kit_ty (by decide +kernel), _, rfl, iteT ⟨_, rfl, a, _, rfl, .inl (.inl (.inl h)), fun c hc => q _ _ (Same.new hc) fun H' s => ?_⟩⟩
    have h1 := s _ _ (Same.new (o := .lst xs) hc _ _ h)
    have h2 := s _ _ (upd_same (H := H) (a := c) (o := .lst xs))
    have pt : pairs (fun _ => true) xs xs = true := by unfold pairs; simp
    have eg : EqG K H' 6 (.ref a) (.ref c) true := (eg_list (n := 5) (e := fun _ => true) (.inl (.inl h1)) (.inl (.inl h2)) (fun i p q hp hq => by
      rw [hp] at hq
      injection hq with hq
      subst hq
      exact (se p (List.mem_of_getElem? hp)).eq) (fun _ => pt)).to pt
    exact NeOk.up eg.ne (by decide)
  | @dK a ks h se nd =>
    refine ⟨_, rfl, _, _, _, _, false, rfl, .ty _, .base (.dK h), kit_ty (by decide +kernel), _, rfl, iteF ?_⟩
    refine ⟨_, rfl, _, _, _, _, true, rfl, .ty _, .base (.dK h), kit_ty (by decide +kernel), _, rfl, iteT ⟨_, rfl, .inr (.inr (.inl ⟨rfl, .inl ⟨_, h⟩⟩)), a, ks, rfl, rfl, h, fun c hc => q _ _ (Same.new hc) fun H' s => ?_⟩⟩
    have h1 := s _ _ (Same.new (o := .dK ks) hc _ _ h)
    have h2 := s _ _ (upd_same (H := H) (a := c) (o := .dK ks))
    have := (eg_dict (K := K) (n := 5) (f := fun _ _ => true) h1 h2 (fun p hp z hz => by
      rw [val_self nd hp hz]
      exact (se p hp).eq)).2
    rw [hits_self nd] at this
    exact NeOk.up this (by decide)
  | @tup a h =>
    refine ⟨_, rfl, _, _, _, _, false, rfl, .ty _, .base (.tup h), kit_ty (by decide +kernel), _, rfl, iteF ?_⟩
    exact ⟨_, rfl, _, _, _, _, false, rfl, .ty _, .base (.tup h), kit_ty (by decide +kernel), _, rfl, iteF ⟨_, rfl, flat (.tup (.inl (.inl h)) .nil) rfl (by simp [PyData.depth, PyData.depthAll])⟩⟩
  | non => exact ⟨_, rfl, _, _, _, _, false, rfl, .ty _, .base .non, kit_ty (by decide +kernel), _, rfl, iteF ⟨_, rfl, _, _, _, _, false, rfl, .ty _, .base .non, kit_ty (by decide +kernel), _, rfl, iteF ⟨_, rfl, flat .non rfl (by simp [PyData.depth])⟩⟩⟩
  | str z => exact ⟨_, rfl, _, _, _, _, false, rfl, .ty _, .base (.str z), kit_ty (by decide +kernel), _, rfl, iteF ⟨_, rfl, _, _, _, _, false, rfl, .ty _, .base (.str z), kit_ty (by decide +kernel), _, rfl, iteF ⟨_, rfl, flat (.str z) rfl (by simp [PyData.depth])⟩⟩⟩
  | int i => exact ⟨_, rfl, _, _, _, _, false, rfl, .ty _, .base (.int i), kit_ty (by decide +kernel), _, rfl, iteF ⟨_, rfl, _, _, _, _, false, rfl, .ty _, .base (.int i), kit_ty (by decide +kernel), _, rfl, iteF ⟨_, rfl, flat (.int i) rfl (by simp [PyData.depth])⟩⟩⟩
  | bl b => exact ⟨_, rfl, _, _, _, _, false, rfl, .ty _, .base (.bl b), kit_ty (by decide +kernel), _, rfl, iteF ⟨_, rfl, _, _, _, _, false, rfl, .ty _, .base (.bl b), kit_ty (by decide +kernel), _, rfl, iteF ⟨_, rfl, flat (.bl b) rfl (by simp [PyData.depth])⟩⟩⟩
def tellsO (xs : List V) (H : Hp) (Q : VK) : Prop := ∀ o H', Same H H' → H' o = some (.tup xs) → Q (.ref o) H'
def spMadeP (K : S.Frag) : Sp := Sp3 fun x y z H Q _ => ∃ (ws : List Str) (due : Str), PgV K H x y z ws due ∧ (due ≠ "" → tellsO [.str "refused", .str due, .bl true, .bl false] H Q) ∧
  (due = "" → ∀ o A H', Same H H' → H' o = some (.tup [.str "made", .ref A]) → H' A = some (.lst (ws.map V.str)) → Q (.ref o) H')
theorem ok__law_made (T : Txt K mg) : FnOk P w K mg base (L2.CX P w) 5 (He.fAd K ("_law_made", none)) (S.fdA K ("_law_made", none)) ["_law_places", "_law_table", "_law_begin"] (spMadeP K) := by
  have G_Program___init__ := ok_Program___init__ (P := P) (w := w) (base := base) T
  refine FunD.ok T.F__law_made sc__law_made (fun vs H Q E h => S.splen3 h) (fun cdv A outer s H vs Q E hr h => ?_)
  have hu := hu_of hr
  refine ⟨_, (pss_cons (ps_try_as (i := 5) rfl rfl sc__law_made.nd rfl rfl ⟨rfl, by decide, .inl T.g_BadProgram⟩ takes0
        (fun W pn xe tk ow => (pss_cons (ps_set (i := 3) sc__law_made.nd rfl (by first | exact Or.inl rfl | exact Or.inr rfl) (S.pe_mkS T.mk_Program G_Program___init__ (hr.mono (by decide)) rfl T.g_Program (kb_Program___init___3_start T).choose_spec (fun σ => passAt tk σ) (pa_cons (pv 0) (pa_cons (pv 1) pa_nil)) (pk_cons (pv 2) pk_nil) rfl rfl))
      (pss_one (ps_set (i := 4) sc__law_made.nd rfl (by first | exact Or.inl rfl | exact Or.inr rfl) (pe_tup (pa_cons pe_str (pa_cons (pe_callTy (S.listOfK (K := K) rfl) rfl T.n_list S.boot_list (pa_cons (S.pe_fldK (K := K) rfl (pv 3) rfl) pa_nil)) pa_nil)))))))
        (fun a oe cls d pn hz hf => (pss_one (ps_set (i := 4) sc__law_made.nd rfl (by first | exact Or.inl rfl | exact Or.inr rfl) (pe_tup (pa_cons pe_str (pa_cons (pe_xf T.xf_BadProgram T.xn_BadProgram_why hz hf (pv 5) rfl) (pa_cons (pe_callB (S.call_isX T.xc_BadProgram hz hf) rfl T.n_isinstance S.boot_isinstance (pa_cons (pv 5) (pa_cons (pe_glob (v := .ref _) rfl T.g_SeenError rfl) pa_nil))) (pa_cons (pe_callB (S.call_isX T.xc_BadProgram hz hf) rfl T.n_isinstance S.boot_isinstance (pa_cons (pv 5) (pa_cons (pe_glob (v := .ref _) rfl T.g_BadPlace rfl) pa_nil))) pa_nil)))))))))
      (pss_one (ps_ret (pv 4)))), ?_⟩
  obtain ⟨_, _, _, rfl, ws, due, hv, bad, q⟩ := h
  refine ⟨_, rfl, _, rfl, _, rfl, rfl, rfl, fun p dx np ndx ne => ?_⟩
  have s1 : Same H (upd (upd H dx (.own p)) p (.ins (He.ga K "Program") dx [])) := Same.upd (Same.new ndx) np
  refine ⟨_, _, _, _, rfl, p, dx, ws, due, rfl, upd_same, hv.same s1, fun c d H' nd sm hd => ?_, fun c H' fs u kp ep eu eN _ => ⟨rfl, ?_⟩⟩
  · have sd := s1.trans sm
    refine ⟨true, T.xm_BadProgram_BadProgram, fun _ a0 ha0 => ?_, fun z => Bool.noConfusion z⟩
    refine ⟨_, rfl, rfl, rfl, d, _, _, rfl, hd, (by rw [lookup_put, if_pos rfl]), ?_⟩
    refine ⟨_, rfl, rfl, .inr ⟨d, _, rfl, hd⟩, _, _, _, rfl, .own _, T.xk_BadProgram_SeenError, ?_⟩
    refine ⟨_, rfl, rfl, .inr ⟨d, _, rfl, hd⟩, _, _, _, rfl, .own _, T.xk_BadProgram_BadPlace, ?_⟩
    exact ⟨by show 4 ≤ sizeLine; decide, fun k hk => ⟨_, rfl, bad c k _ (Same.upd sd (sd.free hk)) upd_same⟩⟩
  · have sJ : Same H H' := fun b o hb => kp b o (ne_of_none hb np) (s1 _ _ hb)
    refine ⟨_, rfl, p, _, dx, _, _, rfl, ep, T.cl_Program, T.na_Program_names, eu, u, _, rfl, .inr (.inl (.inl eN)), fun A hA => ⟨by show 2 ≤ sizeLine; decide, fun k hk => ⟨_, rfl, q c k A _ ((sJ.trans (Same.new hA)).trans (Same.new hk)) upd_same (Same.new hk _ _ upd_same)⟩⟩⟩
/-- a place made with its name alone, or with two numbers -/
theorem mkPlN {H : Hp} {Z : VK} {E : XK} {n : Str} {p dx : Addr} (np : H p = none) (ndx : H dx = none) (ne : dx ≠ p) (o1 : isNm n = true) (k : ∀ H', Same H H' → PlA K H' p ⟨n, 1, 1, true⟩ → Z .non H') :
    spPlace K [.ref p, .str n, .int 1, .non, .bl true] (upd (upd H dx (.own p)) p (.ins (He.ga K "Place") dx [])) Z E := by
  have s0 : Same H (upd (upd H dx (.own p)) p (.ins (He.ga K "Place") dx [])) := Same.upd (Same.new ndx) np
  have l8 : n.length ≤ 8 := by
    have := o1
    unfold isNm at this
    simp only [Bool.and_eq_true, decide_eq_true_eq] at this
    exact this.1.2
  have du : dueP (.str n) (.int 1) .non (.bl true) = "" := by
    unfold dueP
    simp [nmV, o1, inR, isBl, intOf, mostV]
  refine ⟨_, _, _, _, _, rfl, p, dx, rfl, upd_same, .str _, (show n.length ≤ 1000 by omega), .int _, .non, .bl _, fun _ H' kp hp => k H' (fun c o hc => kp c o (s0 c o hc) (ne_of_none hc np)) ⟨dx, ?_⟩, fun e => absurd du e⟩
  exact hp
theorem q7 : ∀ z ∈ (["q", "r", "s", "t", "u", "v", "w"] : List Str), isNm (repS z 8) = true ∧ z.length = 1 := by decide +kernel
def spBadPl (K : S.Frag) : Sp := Sp2 fun x y H Q _ => ∃ (a L : Addr) (n : Int) (ps : List (Addr × Pl)), x = .ref a ∧ H a = some (.lst [.int n]) ∧ y = .ref L ∧ H L = some (.lst (ps.map fun z => .ref z.1)) ∧ (∀ z ∈ ps, PlA K H z.1 z.2 ∧ isNm z.2.n = true) ∧ 1 ≤ ps.length ∧ ps.length ≤ 6 ∧ a ≠ L ∧
  ∀ v H', (∀ b o, b ≠ a → H b = some o → H' b = some o) → (∃ m, H' a = some (.lst [.int m])) → BdPl K H' v → Cp H' v → Q v H'
theorem ok__law_bad_places (T : Txt K mg) : FnOk P w K mg base (L2.CX P w) 5 (He.fAd K ("_law_bad_places", none)) (S.fdA K ("_law_bad_places", none)) ["_law_draw", "_law_places"] (spBadPl K) := by
  have G__law_take := ok__law_take (P := P) (w := w) (base := base) T
  have G_Place___init__ := ok_Place___init__ (P := P) (w := w) (base := base) T
  refine FunD.ok T.F__law_bad_places sc__law_bad_places (fun vs H Q E h => S.splen2 h) (fun cdv A outer s H vs Q E hr h => ?_)
  have hu := hu_of hr
  refine ⟨_, (pss_cons (ps_set (i := 2) sc__law_bad_places.nd rfl (by first | exact Or.inl rfl | exact Or.inr rfl) (S.pe_fnS G__law_take (hr.mono (by decide)) rfl T.g__law_take T.F__law_take.kp (kb__law_take_2 T) S.pas0 (pa_cons (pv 0) (pa_cons pe_int pa_nil)) pk_nil rfl rfl))
      (pss_cons (ps_set (i := 3) sc__law_bad_places.nd rfl (by first | exact Or.inl rfl | exact Or.inr rfl) (S.pe_fnS G__law_take (hr.mono (by decide)) rfl T.g__law_take T.F__law_take.kp (kb__law_take_2 T) S.pas0 (pa_cons (pv 0) (pa_cons (pe_callB (S.lenK (K := K) rfl) rfl T.n_len S.boot_len (pa_cons (pv 1) pa_nil)) pa_nil)) pk_nil rfl rfl))
      (pss_cons (ps_if (pt_cmpR op_eq (pv 2) pe_int (nomark _)) (pss_one (ps_ret (pe_ix (S.ixK (K := K) rfl) (pe_lst (pa_cons pe_non (pa_cons pe_dnewK (pa_cons pe_str (pa_cons pe_int (pa_cons pe_bl (pa_cons (pe_lst pa_nil) (pa_cons (pe_tup pa_nil) pa_nil)))))))) (S.pe_fnS G__law_take (hr.mono (by decide)) rfl T.g__law_take T.F__law_take.kp (kb__law_take_2 T) S.pas0 (pa_cons (pv 0) (pa_cons pe_int pa_nil)) pk_nil rfl rfl) (fun _ _ => rfl)))) pss_nil)
      (pss_cons (ps_if (pt_cmpR op_eq (pv 2) pe_int (nomark _)) (pss_cons (ps_set (i := 4) sc__law_bad_places.nd rfl (by first | exact Or.inl rfl | exact Or.inr rfl) (pe_lst (pa_cons pe_str (pa_cons pe_str (pa_cons pe_str (pa_cons pe_str (pa_cons pe_str (pa_cons pe_str (pa_cons pe_str pa_nil)))))))))
      (pss_one (ps_ret (pe_lc (own := [("_law_word", 5)]) (g := gName 5) (tt := tYes) rfl sc__law_bad_places.nd (S.pi_seqK (K := K) rfl (pv 4)) (blkOk_by (N := ["_law_draw", "_law_places", "_law_kind", "_law_at", "_law_more", "_law_word", "_law_bad"]) (sc := defScope s__law_bad_places) (by decide +kernel)) (fun _ _ _ _ _ => pg_name (i := 5) sc__law_bad_places.nd rfl (by first | exact Or.inl rfl | exact Or.inr rfl)) (fun _ _ _ _ _ => pts_nil) (fun _ _ _ _ _ => (S.pe_mkS T.mk_Place G_Place___init__ (hr.mono (by decide)) rfl T.g_Place (kb_Place___init___2 T).choose_spec S.pas0 (pa_cons (pe_op S.op_rep_str (pv 5) pe_int) pa_nil) pk_nil rfl rfl)))))) pss_nil)
      (pss_cons (ps_if (pt_cmpR op_lt (pv 2) pe_int (nomark _)) (pss_cons (ps_set (i := 6) sc__law_bad_places.nd rfl (by first | exact Or.inl rfl | exact Or.inr rfl) (pe_ix (S.ixK (K := K) rfl) (pe_lst (pa_cons pe_non (pa_cons (S.pe_fldK (K := K) rfl (pe_ix (S.ixK (K := K) rfl) (pv 1) (pv 3) (fun _ _ => rfl)) rfl) (pa_cons pe_int (pa_cons (pe_tup pa_nil) (pa_cons (pv 1) pa_nil)))))) (S.pe_fnS G__law_take (hr.mono (by decide)) rfl T.g__law_take T.F__law_take.kp (kb__law_take_2 T) S.pas0 (pa_cons (pv 0) (pa_cons pe_int pa_nil)) pk_nil rfl rfl) (fun _ _ => rfl)))
      (pss_one (ps_ret (pe_op op_cat (pe_op op_cat (pe_slice (S.slLK (K := K) rfl) (pv 1) po_none (po_some (pv 3))) (pe_lst (pa_cons (pv 6) pa_nil))) (pe_slice (S.slLK (K := K) rfl) (pv 1) (po_some (pe_op op_add (pv 3) pe_int)) po_none))))) pss_nil)
      (pss_one (ps_ret (pe_op op_cat (pe_op op_cat (pe_slice (S.slLK (K := K) rfl) (pv 1) po_none (po_some (pv 3))) (pe_lst (pa_cons (S.pe_mkS T.mk_Place G_Place___init__ (hr.mono (by decide)) rfl T.g_Place (kb_Place___init___4 T).choose_spec (S.pasE (takes_of rfl rfl rfl rfl)) (pa_cons (S.pe_fldK (K := K) rfl (pe_ix (S.ixK (K := K) rfl) (pv 1) (S.pe_fnS G__law_take (hr.mono (by decide)) rfl T.g__law_take T.F__law_take.kp (kb__law_take_2 T) S.pas0 (pa_cons (pv 0) (pa_cons (pe_callB (S.lenK (K := K) rfl) rfl T.n_len S.boot_len (pa_cons (pv 1) pa_nil)) pa_nil)) pk_nil rfl rfl) (fun _ _ => rfl)) rfl) (pa_cons pe_int (pa_cons pe_int pa_nil))) pk_nil rfl rfl) pa_nil))) (pe_slice (S.slLK (K := K) rfl) (pv 1) (po_some (pv 3)) po_none))))))))), ?_⟩
  obtain ⟨_, _, rfl, a, L, n, ps, rfl, ha, rfl, hL, hp, l1, l6, naL, q⟩ := h
  have kU : ∀ {J : Hp} {k : Int}, (∀ b o, b ≠ a → H b = some o → J b = some o) → (∀ b o, b ≠ a → H b = some o → upd J a (.lst [.int k]) b = some o) := fun h b o nb hb => by rw [upd_ne nb]; exact h b o nb hb
  have kS : ∀ {J J' : Hp}, (∀ b o, b ≠ a → H b = some o → J b = some o) → Same J J' → (∀ b o, b ≠ a → H b = some o → J' b = some o) := fun h s b o nb hb => s b o (h b o nb hb)
  have lm : (ps.map fun z => V.ref z.1).length = ps.length := List.length_map _
  have plK : ∀ {J : Hp}, (∀ b o, b ≠ a → H b = some o → J b = some o) → ∀ z ∈ ps, PlA K J z.1 z.2 := fun k z hz => by
    obtain ⟨dx, e⟩ := (hp z hz).1
    exact ⟨dx, k _ _ (ne_of e ha (by intro e; cases e)) e⟩
  have seP : ∀ v ∈ (ps.map fun z => V.ref z.1), SE v := fun v hv => by
    obtain ⟨z, _, rfl⟩ := List.mem_map.mp hv
    exact .inl ⟨_, rfl⟩
  refine ⟨_, rfl, rfl, rfl, _, _, rfl, a, n, 7, rfl, ha, rfl, by decide, by decide, fun kd n1 kd0 kd1 => ?_⟩
  have k1 := kU (k := n1) (fun b o _ h => h)
  have ea1 : upd H a (.lst [.int n1]) a = some (.lst [.int n1]) := upd_same
  generalize upd H a (.lst [.int n1]) = J1 at k1 ea1
  have hL1 := k1 _ _ naL.symm hL
  refine ⟨_, rfl, _, rfl, _, _, rfl, lenVX (.inl (.inl (.inl hL1))), rfl, rfl, _, _, rfl, a, n1, _, rfl, ea1, rfl, by omega, by omega, fun at_ n2 at0 at1 => ?_⟩
  have k2 := kU (k := n2) k1
  have ea2 : upd J1 a (.lst [.int n2]) a = some (.lst [.int n2]) := upd_same
  generalize upd J1 a (.lst [.int n2]) = J2 at k2 ea2
  have hL2 := k2 _ _ naL.symm hL
  rw [lm] at at1
  obtain ⟨ia, rfl, hia⟩ := nat_of at0 at1
  have eia := List.getElem?_eq_getElem hia
  refine ⟨_, rfl, rfl, _, rfl, ?_⟩
  by_cases c0 : kd = 0
  · refine iteY (by simp [c0]) ?_
    refine fun o1 ho1 => ⟨by show 0 ≤ sizeLine; decide, fun o2 ho2 => ⟨by show 0 ≤ sizeLine; decide, fun o3 ho3 => ⟨by show 7 ≤ sizeLine; decide, fun o4 ho4 => ?_⟩⟩⟩
    have u1 := Same.new (o := .dK []) ho1
    have u2 := Same.new (o := .lst []) ho2
    have u3 := Same.new (o := .tup []) ho3
    have u4 := Same.new (o := .lst [.non, .ref o1, .str "a", .int 3, .bl true, .ref o2, .ref o3]) ho4
    have u14 := ((u1.trans u2).trans u3).trans u4
    have b1 := u4 _ _ (u3 _ _ (u2 _ _ (upd_same (H := J2) (a := o1) (o := .dK []))))
    have b2 := u4 _ _ (u3 _ _ (upd_same (H := upd J2 o1 (.dK [])) (a := o2) (o := .lst [])))
    have b3 := u4 _ _ (upd_same (H := upd (upd J2 o1 (.dK [])) o2 (.lst [])) (a := o3) (o := .tup []))
    have b4 := upd_same (H := upd (upd (upd J2 o1 (.dK [])) o2 (.lst [])) o3 (.tup [])) (a := o4) (o := .lst [.non, .ref o1, .str "a", .int 3, .bl true, .ref o2, .ref o3])
    have n1' : o1 ≠ a := (ne_of_none ea2 ho1).symm
    have n2' : o2 ≠ a := (ne_of_none (u1 _ _ ea2) ho2).symm
    have n3' : o3 ≠ a := (ne_of_none (u2 _ _ (u1 _ _ ea2)) ho3).symm
    have n4' : o4 ≠ a := (ne_of_none (u3 _ _ (u2 _ _ (u1 _ _ ea2))) ho4).symm
    generalize upd (upd (upd (upd J2 o1 (.dK [])) o2 (.lst [])) o3 (.tup [])) o4 (.lst [.non, .ref o1, .str "a", .int 3, .bl true, .ref o2, .ref o3]) = J3 at u14 b1 b2 b3 b4
    refine ⟨_, rfl, rfl, rfl, _, _, rfl, a, n2, 7, rfl, u14 _ _ ea2, rfl, by decide, by decide, fun i n3 i0 i1 => ?_⟩
    have k3 := kU (k := n3) (kS k2 u14)
    have d1 : upd J3 a (.lst [.int n3]) o1 = some (.dK []) := by rw [upd_ne n1']; exact b1
    have d2 : upd J3 a (.lst [.int n3]) o2 = some (.lst []) := by rw [upd_ne n2']; exact b2
    have d3 : upd J3 a (.lst [.int n3]) o3 = some (.tup []) := by rw [upd_ne n3']; exact b3
    have d4 : upd J3 a (.lst [.int n3]) o4 = some (.lst [.non, .ref o1, .str "a", .int 3, .bl true, .ref o2, .ref o3]) := by rw [upd_ne n4']; exact b4
    have e0 : ∀ (o : Addr) (J : Hp), SqH J o [] → BdPl K J (.ref o) := fun o J h => .inr ⟨o, [], rfl, h, (fun _ h => by cases h), by decide, rfl⟩
    obtain ⟨it, rfl, hit⟩ := nat_of (n := 7) i0 i1
    match it, hit with
    | 0, _ => exact ix3 d4 rfl (q _ _ k3 ⟨_, upd_same⟩ (.inl .non) .non)
    | 1, _ => exact ix3 d4 rfl (q _ _ k3 ⟨_, upd_same⟩ (.inl (.dK d1)) (.dK d1 (fun _ h => by cases h) List.nodup_nil))
    | 2, _ => exact ix3 d4 rfl (q _ _ k3 ⟨_, upd_same⟩ (.inl (.str _)) (.str _))
    | 3, _ => exact ix3 d4 rfl (q _ _ k3 ⟨_, upd_same⟩ (.inl (.int _)) (.int _))
    | 4, _ => exact ix3 d4 rfl (q _ _ k3 ⟨_, upd_same⟩ (.inl (.bl _)) (.bl _))
    | 5, _ => exact ix3 d4 rfl (q _ _ k3 ⟨_, upd_same⟩ (e0 _ _ (.inl d2)) (.lst d2 (fun _ h => by cases h)))
    | 6, _ => exact ix3 d4 rfl (q _ _ k3 ⟨_, upd_same⟩ (e0 _ _ (.inr d3)) (.tup d3))
  refine iteN (by simpa using c0) ⟨_, rfl, rfl, _, rfl, ?_⟩
  by_cases c1 : kd = 1
  · refine iteY (by simp [c1]) ⟨by show 7 ≤ sizeLine; decide, fun M hM => ?_⟩
    have uM := Same.new (o := .lst [.str "q", .str "r", .str "s", .str "t", .str "u", .str "v", .str "w"]) hM
    have eM : upd J2 M (.lst [.str "q", .str "r", .str "s", .str "t", .str "u", .str "v", .str "w"]) M = some (.lst ((["q", "r", "s", "t", "u", "v", "w"] : List Str).map V.str)) := upd_same
    generalize upd J2 M (.lst [.str "q", .str "r", .str "s", .str "t", .str "u", .str "v", .str "w"]) = J3 at uM eM
    have h7 := q7
    have l7 : (["q", "r", "s", "t", "u", "v", "w"] : List Str).length = 7 := rfl
    generalize (["q", "r", "s", "t", "u", "v", "w"] : List Str) = qs at eM h7 l7
    refine ⟨_, rfl, M, _, rfl, .inl (.inl (.inl eM)), fun It wk D hD => lc_seq wk (fun i J => Same J3 J ∧ ∃ as : List (Addr × Pl), J D = some (.lst (as.map fun z => V.ref z.1)) ∧ as.length = i ∧ ∀ z ∈ as, PlA K J z.1 z.2) ⟨Same.new hD, [], upd_same, rfl, fun _ h => by cases h⟩ (fun i J _ h => h.1) ?_ ?_⟩
    · rintro i x J hx ⟨sJ, as, eD, la, hpl⟩
      rw [List.getElem?_map] at hx
      obtain ⟨z, hz, rfl⟩ := Option.map_eq_some_iff.mp hx
      obtain ⟨nmz, lz⟩ := h7 z (List.mem_of_getElem? hz)
      have il := get_lt hz
      refine ⟨rfl, yesT ?_⟩
      refine iteT ⟨_, rfl, z, 8, rfl, rfl, by decide, by omega, by rw [lz]; decide, rfl, rfl, fun p dx np ndx ne => mkPlN np ndx ne nmz fun J4 s4 hpp => ⟨rfl, _, s4 _ _ eD, ?_, Same.upd (sJ.trans s4) hD, as ++ [(p, ⟨repS z 8, 1, 1, true⟩)], ?_, by simp [la], fun y hy => ?_⟩⟩
      · rw [List.length_map]
        exact Nat.lt_of_le_of_lt (show as.length ≤ 100 by omega) (by decide)
      · rw [upd_same, List.map_append]
        rfl
      · have pD : ∀ {q2 : Addr} {d2 : Pl}, PlA K J4 q2 d2 → PlA K (upd J4 D (.lst ((as.map fun z => V.ref z.1) ++ [.ref p]))) q2 d2 := fun {q2 d2} h => by
          obtain ⟨dx2, e2⟩ := h
          refine ⟨dx2, ?_⟩
          rw [upd_ne (ne_of e2 (s4 _ _ eD) (by intro z; cases z))]
          exact e2
        rcases List.mem_append.mp hy with hy | hy
        · exact pD ((hpl y hy).same s4)
        · rw [List.mem_singleton.mp hy]
          exact pD hpp
    · rintro J ⟨sJ, as, eD, la, hpl⟩
      rw [List.length_map, l7] at la
      refine q _ J (kS (kS k2 uM) sJ) ⟨_, sJ _ _ (uM _ _ ea2)⟩ (.inr ⟨D, as.map fun z => (V.ref z.1, some z.2), rfl, .inl (by rw [List.map_map]; exact eD), fun y hy => ?_, by rw [List.length_map, la]; decide, ?_⟩) (.lst eD fun v hv => ?_)
      · obtain ⟨z, hz, rfl⟩ := List.mem_map.mp hy
        exact .pl (hpl z hz)
      · unfold plB
        rw [List.length_map, la]
        rfl
      · obtain ⟨z, _, rfl⟩ := List.mem_map.mp hv
        exact .inl ⟨_, rfl⟩
  refine iteN (by simpa using c1) ⟨_, rfl, _, _, rfl, rfl, _, rfl, ?_⟩
  by_cases c5 : kd < 5
  · refine iteY (by simpa using c5) ?_
    obtain ⟨dia, edia⟩ := plK k2 _ (List.mem_of_getElem? eia)
    have aL : atI (ps.map fun z => V.ref z.1) (ia : Int) = some (.ref (ps[ia]).1) := atI_nat (by rw [List.getElem?_map, eia]; rfl)
    refine ⟨_, rfl, _, rfl, ixX (.inl (.inl (.inl hL2))) aL ⟨(ps[ia]).1, _, dia, _, _, rfl, edia, T.cl_Place, T.na_Place_name, lk_name _ _ _ _, by show 0 ≤ sizeLine; decide, fun o1 ho1 => ⟨_, rfl, by show 5 ≤ sizeLine; decide, fun o2 ho2 => ?_⟩⟩⟩
    have u1 := Same.new (o := .tup []) ho1
    have u2 := Same.new (o := .lst [.non, .str (ps[ia]).2.n, .int 1, .ref o1, .ref L]) ho2
    have u12 := u1.trans u2
    have b1 := u2 _ _ (upd_same (H := J2) (a := o1) (o := .tup []))
    have b2 := upd_same (H := upd J2 o1 (.tup [])) (a := o2) (o := .lst [.non, .str (ps[ia]).2.n, .int 1, .ref o1, .ref L])
    have n1' : o1 ≠ a := (ne_of_none ea2 ho1).symm
    have n2' : o2 ≠ a := (ne_of_none (u1 _ _ ea2) ho2).symm
    generalize upd (upd J2 o1 (.tup [])) o2 (.lst [.non, .str (ps[ia]).2.n, .int 1, .ref o1, .ref L]) = J3 at u12 b1 b2
    refine ⟨_, rfl, rfl, rfl, _, _, rfl, a, n2, 5, rfl, u12 _ _ ea2, rfl, by decide, by decide, fun i n3 i0 i1 => ?_⟩
    have k3 := kU (k := n3) (kS k2 u12)
    have d1 : upd J3 a (.lst [.int n3]) o1 = some (.tup []) := by rw [upd_ne n1']; exact b1
    have d2 : upd J3 a (.lst [.int n3]) o2 = some (.lst [.non, .str (ps[ia]).2.n, .int 1, .ref o1, .ref L]) := by rw [upd_ne n2']; exact b2
    have hL3 := k3 _ _ naL.symm hL
    have ea4 : upd J3 a (.lst [.int n3]) a = some (.lst [.int n3]) := upd_same
    generalize upd J3 a (.lst [.int n3]) = J4 at k3 d1 d2 hL3 ea4
    obtain ⟨bv, ebv, obv⟩ : ∃ v, atI [V.non, .str (ps[ia]).2.n, .int 1, .ref o1, .ref L] i = some v ∧ Od J4 v := by
      obtain ⟨it, rfl, hit⟩ := nat_of (n := 5) i0 i1
      match it, hit with
      | 0, _ => exact ⟨_, rfl, .non⟩
      | 1, _ => exact ⟨_, rfl, .str _⟩
      | 2, _ => exact ⟨_, rfl, .int _⟩
      | 3, _ => exact ⟨_, rfl, .tup d1⟩
      | 4, _ => exact ⟨_, rfl, .lst hL3⟩
    refine ixX (.inl (.inl (.inl d2))) ebv ?_
    refine ⟨_, rfl, _, rfl, _, rfl, L, _, rfl, .inl (.inl hL3), fun A1 hA1 => ?_⟩
    rw [cut_take _ (by rw [lm]; omega)]
    have w1 := Same.new (o := .lst ((ps.map fun z => V.ref z.1).take ia)) hA1
    refine ⟨_, rfl, by show 1 ≤ sizeLine; decide, fun A2 hA2 => ?_⟩
    have w2 := Same.new (o := .lst [bv]) hA2
    have t1 : ((ps.map fun z => V.ref z.1).take ia).length ≤ 6 := by rw [List.length_take, lm]; omega
    refine ⟨A1, A2, _, _, rfl, rfl, w2 _ _ upd_same, upd_same, Nat.le_trans (show _ ≤ 100 by simp; omega) (by decide), fun A3 hA3 => ?_⟩
    have w3 := Same.new (o := .lst ((ps.map fun z => V.ref z.1).take ia ++ [bv])) hA3
    have w13 := (w1.trans w2).trans w3
    refine ⟨_, rfl, _, rfl, _, _, rfl, rfl, _, rfl, L, _, rfl, .inl (.inl (w13 _ _ hL3)), fun A4 hA4 => ?_⟩
    rw [show ((ia : Int) + 1) = ((ia + 1 : Nat) : Int) by omega, cut_drop _ (by rw [lm]; omega)]
    have w4 := Same.new (o := .lst ((ps.map fun z => V.ref z.1).drop (ia + 1))) hA4
    have t2 : ((ps.map fun z => V.ref z.1).drop (ia + 1)).length ≤ 6 := by rw [List.length_drop, lm]; omega
    refine ⟨A3, A4, _, _, rfl, rfl, w4 _ _ upd_same, upd_same, Nat.le_trans (show _ ≤ 100 by rw [List.length_append]; simp only [List.length_append, List.length_cons, List.length_nil]; omega) (by decide), fun A5 hA5 => ?_⟩
    have w5 := Same.new (o := .lst ((ps.map fun z => V.ref z.1).take ia ++ [bv] ++ (ps.map fun z => V.ref z.1).drop (ia + 1))) hA5
    have w15 := (w13.trans w4).trans w5
    have k5 := kS k3 w15
    refine q _ _ k5 ⟨_, w15 _ _ ea4⟩ (.inr ⟨A5, ((ps.take ia).map fun z => (V.ref z.1, some z.2)) ++ [(bv, none)] ++ ((ps.drop (ia + 1)).map fun z => (V.ref z.1, some z.2)), rfl, .inl ?_, fun y hy => ?_, ?_, ?_⟩) (.lst upd_same fun v hv => ?_)
    · rw [upd_same]
      simp only [List.map_append, List.map_map, List.map_cons, List.map_nil, List.map_take, List.map_drop]
      rfl
    · rcases List.mem_append.mp hy with hy | hy
      · rcases List.mem_append.mp hy with hy | hy
        · obtain ⟨z, hz, rfl⟩ := List.mem_map.mp hy
          exact .pl (plK k5 z (List.mem_of_mem_take hz))
        · rw [List.mem_singleton.mp hy]
          exact .no (obv.mono w15)
      · obtain ⟨z, hz, rfl⟩ := List.mem_map.mp hy
        exact .pl (plK k5 z (List.mem_of_mem_drop hz))
    · simp only [List.length_append, List.length_map, List.length_take, List.length_drop, List.length_cons, List.length_nil]
      omega
    · unfold plB
      simp
    · rcases List.mem_append.mp hv with hv | hv
      · rcases List.mem_append.mp hv with hv | hv
        · exact seP v (List.mem_of_mem_take hv)
        · rw [List.mem_singleton.mp hv]
          exact obv.se
      · exact seP v (List.mem_of_mem_drop hv)
  refine iteN (by simpa using c5) ?_
  refine ⟨_, rfl, _, rfl, _, rfl, L, _, rfl, .inl (.inl hL2), fun A1 hA1 => ?_⟩
  rw [cut_take _ (by rw [lm]; omega)]
  have w1 := Same.new (o := .lst ((ps.map fun z => V.ref z.1).take ia)) hA1
  have eA1 : upd J2 A1 (.lst ((ps.map fun z => V.ref z.1).take ia)) A1 = some (.lst ((ps.map fun z => V.ref z.1).take ia)) := upd_same
  have nA1 : A1 ≠ a := (ne_of_none ea2 hA1).symm
  have ea3 := w1 _ _ ea2
  have k3 := kS k2 w1
  generalize upd J2 A1 (.lst ((ps.map fun z => V.ref z.1).take ia)) = J3 at w1 eA1 ea3 k3
  have hL3 := k3 _ _ naL.symm hL
  refine ⟨_, rfl, _, rfl, _, rfl, _, _, rfl, lenVX (.inl (.inl (.inl hL3))), rfl, rfl, _, _, rfl, a, n2, _, rfl, ea3, rfl, by omega, by omega, fun jt n3 j0 j1 => ?_⟩
  rw [lm] at j1
  obtain ⟨ij, rfl, hij⟩ := nat_of j0 j1
  have eij := List.getElem?_eq_getElem hij
  have k4 := kU (k := n3) k3
  have eA14 : upd J3 a (.lst [.int n3]) A1 = some (.lst ((ps.map fun z => V.ref z.1).take ia)) := by rw [upd_ne nA1]; exact eA1
  have ea4 : upd J3 a (.lst [.int n3]) a = some (.lst [.int n3]) := upd_same
  generalize upd J3 a (.lst [.int n3]) = J4 at k4 eA14 ea4
  have hL4 := k4 _ _ naL.symm hL
  obtain ⟨dij, edij⟩ := plK k4 _ (List.mem_of_getElem? eij)
  have aL : atI (ps.map fun z => V.ref z.1) (ij : Int) = some (.ref (ps[ij]).1) := atI_nat (by rw [List.getElem?_map, eij]; rfl)
  have mij := List.mem_of_getElem? eij
  have nmj := (hp _ mij).2
  refine ixX (.inl (.inl (.inl hL4))) aL ⟨(ps[ij]).1, _, dij, _, _, rfl, edij, T.cl_Place, T.na_Place_name, lk_name _ _ _ _, rfl, rfl, fun p dx np ndx ne => ?_⟩
  refine mkPl (d := ⟨(ps[ij]).2.n, 1, 6, true⟩) np ndx ne ⟨nmj, by show (1 : Int) ≤ 1; decide, by show (1 : Int) ≤ 6; decide, by show (6 : Int) ≤ 6; decide⟩ fun J5 s5 hpp => ⟨rfl, by show 1 ≤ sizeLine; decide, fun A2 hA2 => ?_⟩
  have w2 := Same.new (o := .lst [.ref p]) hA2
  have t1 : ((ps.map fun z => V.ref z.1).take ia).length ≤ 6 := by rw [List.length_take, lm]; omega
  refine ⟨A1, A2, _, _, rfl, rfl, w2 _ _ (s5 _ _ eA14), upd_same, Nat.le_trans (show _ ≤ 100 by simp; omega) (by decide), fun A3 hA3 => ?_⟩
  have w3 := Same.new (o := .lst ((ps.map fun z => V.ref z.1).take ia ++ [.ref p])) hA3
  have w13 := (s5.trans w2).trans w3
  refine ⟨_, rfl, _, rfl, _, rfl, L, _, rfl, .inl (.inl (w13 _ _ hL4)), fun A4 hA4 => ?_⟩
  rw [cut_drop _ (by rw [lm]; omega)]
  have w4 := Same.new (o := .lst ((ps.map fun z => V.ref z.1).drop ia)) hA4
  have t2 : ((ps.map fun z => V.ref z.1).drop ia).length ≤ 6 := by rw [List.length_drop, lm]; omega
  refine ⟨A3, A4, _, _, rfl, rfl, w4 _ _ upd_same, upd_same, Nat.le_trans (show _ ≤ 100 by rw [List.length_append]; simp only [List.length_append, List.length_cons, List.length_nil]; omega) (by decide), fun A5 hA5 => ?_⟩
  have w5 := Same.new (o := .lst ((ps.map fun z => V.ref z.1).take ia ++ [.ref p] ++ (ps.map fun z => V.ref z.1).drop ia)) hA5
  have w15 := (w13.trans w4).trans w5
  have k5 := kS k4 w15
  refine q _ _ k5 ⟨_, w15 _ _ ea4⟩ (.inr ⟨A5, ((ps.take ia).map fun z => (V.ref z.1, some z.2)) ++ [(.ref p, some ⟨(ps[ij]).2.n, 1, 6, true⟩)] ++ ((ps.drop ia).map fun z => (V.ref z.1, some z.2)), rfl, .inl ?_, fun y hy => ?_, ?_, ?_⟩) (.lst upd_same fun v hv => ?_)
  · rw [upd_same]
    simp only [List.map_append, List.map_map, List.map_cons, List.map_nil, List.map_take, List.map_drop]
    rfl
  · rcases List.mem_append.mp hy with hy | hy
    · rcases List.mem_append.mp hy with hy | hy
      · obtain ⟨z, hz, rfl⟩ := List.mem_map.mp hy
        exact .pl (plK k5 z (List.mem_of_mem_take hz))
      · rw [List.mem_singleton.mp hy]
        exact .pl (hpp.same ((w2.trans w3).trans (w4.trans w5)))
    · obtain ⟨z, hz, rfl⟩ := List.mem_map.mp hy
      exact .pl (plK k5 z (List.mem_of_mem_drop hz))
  · simp only [List.length_append, List.length_map, List.length_take, List.length_drop, List.length_cons, List.length_nil]
    omega
  · unfold plB
    have nn : ¬ (List.map Pl.n (List.filterMap Prod.snd (((ps.take ia).map fun z : Addr × Pl => (V.ref z.1, some z.2)) ++ [(V.ref p, some (⟨(ps[ij]).2.n, 1, 6, true⟩ : Pl))] ++ ((ps.drop ia).map fun z : Addr × Pl => (V.ref z.1, some z.2))))).Nodup := by
      rw [List.filterMap_append, List.filterMap_append, fm_pl, fm_pl]
      show ¬ (List.map Pl.n ((ps.take ia).map Prod.snd ++ [⟨(ps[ij]).2.n, 1, 6, true⟩] ++ (ps.drop ia).map Prod.snd)).Nodup
      rw [List.map_append, List.map_append, List.map_map, List.map_map]
      intro hn
      have pm : (List.map (Pl.n ∘ Prod.snd) (ps.take ia) ++ [(ps[ij]).2.n] ++ List.map (Pl.n ∘ Prod.snd) (ps.drop ia)).Perm ((ps[ij]).2.n :: ps.map (Pl.n ∘ Prod.snd)) := by
        have h1 : (List.map (Pl.n ∘ Prod.snd) (ps.take ia) ++ [(ps[ij]).2.n] ++ List.map (Pl.n ∘ Prod.snd) (ps.drop ia)).Perm ([(ps[ij]).2.n] ++ List.map (Pl.n ∘ Prod.snd) (ps.take ia) ++ List.map (Pl.n ∘ Prod.snd) (ps.drop ia)) := List.Perm.append_right _ List.perm_append_comm
        have h2 : [(ps[ij]).2.n] ++ List.map (Pl.n ∘ Prod.snd) (ps.take ia) ++ List.map (Pl.n ∘ Prod.snd) (ps.drop ia) = (ps[ij]).2.n :: ps.map (Pl.n ∘ Prod.snd) := by
          rw [List.append_assoc, ← List.map_append, List.take_append_drop]
          rfl
        rw [h2] at h1
        exact h1
      have hn2 := pm.nodup_iff.mp hn
      rw [List.nodup_cons] at hn2
      exact hn2.1 (List.mem_map.mpr ⟨_, mij, rfl⟩)
    rw [decide_eq_false nn]
    simp
  · rcases List.mem_append.mp hv with hv | hv
    · rcases List.mem_append.mp hv with hv | hv
      · exact seP v (List.mem_of_mem_take hv)
      · rw [List.mem_singleton.mp hv]
        exact .inl ⟨_, rfl⟩
    · exact seP v (List.mem_of_mem_drop hv)
end
end W

namespace W
open PySem PySem.Spec PyProof.Rows L2
section
variable {P : Program} {w : World} {K : S.Frag} {mg : Str → Option Value} {base : Heap}
open S
/-! the law's spoiled nexts -/
theorem val_drop {ks : List (Key × V)} {k : Key} {v : V} (h : valV ks k = some v) : (dropK ks k).length < ks.length := by
  unfold valV at h
  obtain ⟨kv, e, _⟩ := Option.map_eq_some_iff.mp h
  have h1 : kv.1 = k := by simpa using List.find?_some e
  have m := List.mem_of_find?_eq_some e
  unfold dropK
  refine Nat.lt_of_le_of_ne (List.length_filter_le _ _) fun hl => ?_
  have e := List.filter_sublist.eq_of_length hl
  rw [← e] at m
  have := (List.mem_filter.mp m).2
  simp [h1] at this
theorem rw_val {rows : List Rw} (nd : (rNames rows).Nodup) {z : Str} (h : z ∈ rNames rows) : ∃ r ∈ rows, r.d.n = z ∧ valV (lkOf rows) (.inr z) = some (.ref r.ta) := by
  obtain ⟨r, hr, rfl⟩ := List.mem_map.mp h
  exact ⟨r, hr, rfl, valV_rows nd hr⟩
theorem lk_nd {rows : List Rw} (nd : (rNames rows).Nodup) : ((lkOf rows).map Prod.fst).Nodup := by
  have e : (lkOf rows).map Prod.fst = (rNames rows).map (fun n => (Sum.inr n : Key)) := by
    unfold lkOf rNames
    rw [List.map_map, List.map_map]
    rfl
  rw [e]
  exact List.Pairwise.map _ (fun a b h e => h (by injection e)) nd
theorem put_nd {ks : List (Key × V)} {k : Key} {v : V} (nd : (ks.map Prod.fst).Nodup) : ((putK ks k v).map Prod.fst).Nodup := by
  unfold putK
  split
  · have e : (ks.map fun kv => if kv.1 = k then (kv.1, v) else kv).map Prod.fst = ks.map Prod.fst := by
      rw [List.map_map]
      refine List.map_congr_left fun x _ => ?_
      show (if x.1 = k then (x.1, v) else x).1 = x.1
      split <;> rfl
    rw [e]
    exact nd
  · rename_i h
    rw [List.map_append]
    refine List.nodup_append.mpr ⟨nd, by simp, fun x hx y hy => ?_⟩
    rw [show y = k by simpa using hy]
    intro e
    subst e
    obtain ⟨p, hp, e⟩ := List.mem_map.mp hx
    exact h (List.any_eq_true.mpr ⟨p, hp, by simp [e]⟩)
theorem put_se {ks : List (Key × V)} {k : Key} {v : V} (h : ∀ p ∈ ks, SE p.2) (hv : SE v) : ∀ p ∈ putK ks k v, SE p.2 := by
  intro p hp
  unfold putK at hp
  split at hp
  · obtain ⟨q, hq, rfl⟩ := List.mem_map.mp hp
    show SE (if q.1 = k then (q.1, v) else q).2
    split
    · exact hv
    · exact h q hq
  · rcases List.mem_append.mp hp with hp | hp
    · exact h p hp
    · rw [List.mem_singleton.mp hp]
      exact hv
theorem lk_se (rows : List Rw) : ∀ p ∈ lkOf rows, SE p.2 := fun p hp => by
  obtain ⟨r, _, rfl⟩ := List.mem_map.mp hp
  exact .inl ⟨_, rfl⟩
theorem drop_nd {ks : List (Key × V)} {k : Key} (nd : (ks.map Prod.fst).Nodup) : ((dropK ks k).map Prod.fst).Nodup := List.Sublist.nodup (List.Sublist.map _ List.filter_sublist) nd
/-- one row is wrong: the table does not fit -/
theorem bd_put {H : Hp} {T : Addr} {rows : List Rw} {z : Str} {v : V} (ok : okRows rows) (hz : z ∈ rNames rows) (hT : H T = some (.dK (putK (lkOf rows) (.inr z) v))) (hrow : ∀ r ∈ rows, H r.ta = some (.tup (r.nx.map V.str))) (hb : RwSp K H (putK (lkOf rows) (.inr z) v) (rNames rows) z false) : BdNx K H (.ref T) (rNames rows) := by
  refine .inr ⟨T, _, fun n => decide (n ≠ z), rfl, hT, fun _ n hn => ?_, ?_⟩
  · by_cases c : n = z
    · subst c
      have e : decide (n ≠ n) = false := by simp
      show RwSp K H _ _ n (decide (n ≠ n))
      rw [e]
      exact hb
    · show RwSp K H _ _ n (decide (n ≠ z))
      rw [decide_eq_true (show n ≠ z from c)]
      obtain ⟨r, hr, en, ev⟩ := rw_val ok.nd hn
      refine gd_rw ⟨r.ta, r.nx, ?_, hrow r hr, ok.nxl hr, (ok.nx r hr).1, (ok.nx r hr).2⟩
      rw [valV_put, if_neg (by intro e; injection e with e; exact c e), ev]
  · have : (rNames rows).all (fun n => decide (n ≠ z)) = false := List.all_eq_false.mpr ⟨z, hz, by simp⟩
    rw [this, Bool.and_false]
def spBadNx (K : S.Frag) : Sp := Sp3 fun x y u H Q _ => ∃ (a T W : Addr) (n : Int) (rows : List Rw), x = .ref a ∧ H a = some (.lst [.int n]) ∧ y = .ref T ∧ H T = some (.dK (lkOf rows)) ∧ u = .ref W ∧ H W = some (.lst ((rNames rows).map V.str)) ∧ a ≠ W ∧ okRows rows ∧ (∀ r ∈ rows, H r.ta = some (.tup (r.nx.map V.str))) ∧
  ∀ v H', (∀ b o, b ≠ a → b ≠ T → H b = some o → H' b = some o) → (∃ m, H' a = some (.lst [.int m])) → BdNx K H' v (rNames rows) → Cp H' v → Q v H'
theorem dat_mx {H : Hp} (z : Str) : Mx K H (.str z) (dat (.str z)) := .dat (.str z) rfl (Nat.zero_le _)
theorem dup_str {xs : List Str} {i j : Nat} {z : Str} (lt : i < j) (hi : xs[i]? = some z) (hj : xs[j]? = some z) : dupB (fun z y => mixEq (dat z) (dat y)) (xs.map V.str) = true := by
  unfold dupB
  have hl := (List.getElem?_eq_some_iff.mp hj).1
  refine List.any_eq_true.mpr ⟨j, List.mem_range.mpr (by rw [List.length_map]; exact hl), ?_⟩
  rw [List.getElem?_map, hj]
  refine List.any_eq_true.mpr ⟨V.str z, ?_, by simp [dat, mixEq, PyData.eqv]⟩
  rw [← List.map_take]
  refine List.mem_map.mpr ⟨z, List.mem_of_getElem? (i := i) ?_, rfl⟩
  rw [List.getElem?_take_of_lt lt]
  exact hi
theorem ok__law_bad_nexts (T : Txt K mg) : FnOk P w K mg base (L2.CX P w) 2 (He.fAd K ("_law_bad_nexts", none)) (S.fdA K ("_law_bad_nexts", none)) ["_law_draw", "_law_table", "_law_words"] (spBadNx K) := by
  have G__law_take := ok__law_take (P := P) (w := w) (base := base) T
  refine FunD.ok T.F__law_bad_nexts sc__law_bad_nexts (fun vs H Q E h => S.splen3 h) (fun cdv A outer s H vs Q E hr h => ?_)
  have hu := hu_of hr
  refine ⟨_, (pss_cons (ps_set (i := 3) sc__law_bad_nexts.nd rfl (by first | exact Or.inl rfl | exact Or.inr rfl) (S.pe_fnS G__law_take (hr.mono (by decide)) rfl T.g__law_take T.F__law_take.kp (kb__law_take_2 T) S.pas0 (pa_cons (pv 0) (pa_cons pe_int pa_nil)) pk_nil rfl rfl))
      (pss_cons (ps_set (i := 4) sc__law_bad_nexts.nd rfl (by first | exact Or.inl rfl | exact Or.inr rfl) (pe_ix (S.ixK (K := K) rfl) (pv 2) (S.pe_fnS G__law_take (hr.mono (by decide)) rfl T.g__law_take T.F__law_take.kp (kb__law_take_2 T) S.pas0 (pa_cons (pv 0) (pa_cons (pe_callB (S.lenK (K := K) rfl) rfl T.n_len S.boot_len (pa_cons (pv 2) pa_nil)) pa_nil)) pk_nil rfl rfl) (fun _ _ => rfl)))
      (pss_cons (ps_set (i := 5) sc__law_bad_nexts.nd rfl (by first | exact Or.inl rfl | exact Or.inr rfl) (pe_dget hu (pv 1) (pv 4) (fun _ _ => rfl)))
      (pss_cons (ps_set (i := 6) sc__law_bad_nexts.nd rfl (by first | exact Or.inl rfl | exact Or.inr rfl) (S.pe_fnS G__law_take (hr.mono (by decide)) rfl T.g__law_take T.F__law_take.kp (kb__law_take_2 T) S.pas0 (pa_cons (pv 0) (pa_cons (pe_op op_add (pe_callB (S.lenK (K := K) rfl) rfl T.n_len S.boot_len (pa_cons (pv 5) pa_nil)) pe_int) pa_nil)) pk_nil rfl rfl))
      (pss_cons (ps_if (pt_cmpR op_eq (pv 3) pe_int (nomark _)) (pss_one (ps_ret (pe_ix (S.ixK (K := K) rfl) (pe_lst (pa_cons pe_non (pa_cons (pe_lst pa_nil) (pa_cons pe_str (pa_cons (pe_callTy (S.listOfK (K := K) rfl) rfl T.n_list S.boot_list (pa_cons (pv 2) pa_nil)) (pa_cons pe_int (pa_cons (pe_tup pa_nil) pa_nil))))))) (S.pe_fnS G__law_take (hr.mono (by decide)) rfl T.g__law_take T.F__law_take.kp (kb__law_take_2 T) S.pas0 (pa_cons (pv 0) (pa_cons pe_int pa_nil)) pk_nil rfl rfl) (fun _ _ => rfl)))) pss_nil)
      (pss_cons (ps_if (pt_cmpR op_eq (pv 3) pe_int (nomark _)) (pss_one (ps_expr (pe_dpop1 (pv 1) (pv 4) ⟨rfl, rfl, rfl, rfl⟩))) pss_nil)
      (pss_cons (ps_if (pt_cmpR op_eq (pv 3) pe_int (nomark _)) (pss_one (ps_dput hu (pv 1) pe_str (pe_tup pa_nil) rfl)) pss_nil)
      (pss_cons (ps_if (pt_cmpR op_eq (pv 3) pe_int (nomark _)) (pss_one (ps_dput hu (pv 1) (pv 4) (pe_ix (S.ixK (K := K) rfl) (pe_lst (pa_cons (pe_callTy (S.listOfK (K := K) rfl) rfl T.n_list S.boot_list (pa_cons (pv 5) pa_nil)) (pa_cons pe_non (pa_cons (pv 4) (pa_cons pe_dnewK (pa_cons pe_int pa_nil)))))) (S.pe_fnS G__law_take (hr.mono (by decide)) rfl T.g__law_take T.F__law_take.kp (kb__law_take_2 T) S.pas0 (pa_cons (pv 0) (pa_cons pe_int pa_nil)) pk_nil rfl rfl) (fun _ _ => rfl)) rfl)) pss_nil)
      (pss_cons (ps_if (pt_cmpR op_eq (pv 3) pe_int (nomark _)) (pss_cons (ps_set (i := 7) sc__law_bad_nexts.nd rfl (by first | exact Or.inl rfl | exact Or.inr rfl) (pe_ix (S.ixK (K := K) rfl) (pe_lst (pa_cons pe_str (pa_cons pe_non (pa_cons pe_int (pa_cons (pe_tup (pa_cons (pv 4) pa_nil)) (pa_cons (pe_lst (pa_cons (pv 4) pa_nil)) pa_nil)))))) (S.pe_fnS G__law_take (hr.mono (by decide)) rfl T.g__law_take T.F__law_take.kp (kb__law_take_2 T) S.pas0 (pa_cons (pv 0) (pa_cons pe_int pa_nil)) pk_nil rfl rfl) (fun _ _ => rfl)))
      (pss_one (ps_dput hu (pv 1) (pv 4) (pe_op (S.catTK (K := K) rfl) (pe_op (S.catTK (K := K) rfl) (pe_slice (S.slTwK (K := K) rfl) (pv 5) po_none (po_some (pv 6))) (pe_tup (pa_cons (pv 7) pa_nil))) (pe_slice (S.slTwK (K := K) rfl) (pv 5) (po_some (pv 6)) po_none)) rfl))) pss_nil)
      (pss_cons (ps_if (pt_cmpR op_eq (pv 3) pe_int (nomark _)) (pss_one (ps_dput hu (pv 1) (pv 4) (pe_op (S.catTK (K := K) rfl) (pe_op (S.catTK (K := K) rfl) (pe_op (S.catTK (K := K) rfl) (pe_slice (S.slTwK (K := K) rfl) (pv 5) po_none (po_some (pv 6))) (pe_tup (pa_cons (pv 4) pa_nil))) (pe_slice (S.slTwK (K := K) rfl) (pv 5) (po_some (pv 6)) po_none)) (pe_tup (pa_cons (pv 4) pa_nil))) rfl)) pss_nil)
      (pss_one (ps_ret (pv 1))))))))))))), ?_⟩
  obtain ⟨_, _, _, rfl, a, T0, W, n, rows, rfl, ha, rfl, hT, rfl, hW, naW, ok, hrow, q⟩ := h
  have l1 := ok.l1
  have l6 := ok.l6
  have naT : a ≠ T0 := ne_of ha hT (by intro e; cases e)
  have nWT : W ≠ T0 := ne_of hW hT (by intro e; cases e)
  have ln : ((rNames rows).map V.str).length = rows.length := by rw [List.length_map, rNames_len]
  have kU : ∀ {J : Hp} {k : Int}, (∀ b o, b ≠ a → H b = some o → J b = some o) → (∀ b o, b ≠ a → H b = some o → upd J a (.lst [.int k]) b = some o) := fun h b o nb hb => by rw [upd_ne nb]; exact h b o nb hb
  have kS : ∀ {J J' : Hp}, (∀ b o, b ≠ a → H b = some o → J b = some o) → Same J J' → (∀ b o, b ≠ a → H b = some o → J' b = some o) := fun h s b o nb hb => s b o (h b o nb hb)
  have fin : ∀ {J : Hp} {ks : List (Key × V)}, (∀ b o, b ≠ a → H b = some o → J b = some o) → (∀ b o, b ≠ a → b ≠ T0 → H b = some o → upd J T0 (.dK ks) b = some o) := fun k b o nb nt hb => by rw [upd_ne nt]; exact k b o nb hb
  have tk : ∀ {J : Hp}, (∀ b o, b ≠ a → H b = some o → J b = some o) → ∀ r ∈ rows, J r.ta = some (.tup (r.nx.map V.str)) := fun k r hr => k _ _ (ne_of (hrow r hr) ha (by intro e; cases e)) (hrow r hr)
  have tkU : ∀ {J : Hp} {ks : List (Key × V)}, (∀ b o, b ≠ a → H b = some o → J b = some o) → ∀ r ∈ rows, upd J T0 (.dK ks) r.ta = some (.tup (r.nx.map V.str)) := fun k r hr => by
    rw [upd_ne (ne_of (hrow r hr) hT (by intro e; cases e))]
    exact tk k r hr
  have nT0 : ∀ {c : Addr} {J : Hp} {xs : List V} {ks : List (Key × V)}, J T0 = some (.dK ks) → J c = some (.tup xs) → c ≠ T0 := fun h1 h2 => ne_of h2 h1 (by intro e; cases e)
  refine ⟨_, rfl, rfl, rfl, _, _, rfl, a, n, 6, rfl, ha, rfl, by decide, by decide, fun kd n1 kd0 kd1 => ?_⟩
  have k1 := kU (k := n1) (fun b o _ h => h)
  have ea1 : upd H a (.lst [.int n1]) a = some (.lst [.int n1]) := upd_same
  generalize upd H a (.lst [.int n1]) = J1 at k1 ea1
  have hW1 := k1 _ _ naW.symm hW
  refine ⟨_, rfl, _, rfl, _, rfl, _, _, rfl, lenVX (.inl (.inl (.inl hW1))), rfl, rfl, _, _, rfl, a, n1, _, rfl, ea1, rfl, by omega, by omega, fun iw n2 iw0 iw1 => ?_⟩
  have k2 := kU (k := n2) k1
  have ea2 : upd J1 a (.lst [.int n2]) a = some (.lst [.int n2]) := upd_same
  generalize upd J1 a (.lst [.int n2]) = J2 at k2 ea2
  have hW2 := k2 _ _ naW.symm hW
  rw [ln] at iw1
  obtain ⟨ii, rfl, hii⟩ := nat_of iw0 iw1
  have eii := List.getElem?_eq_getElem hii
  have mr := List.mem_of_getElem? eii
  have mz := nm_mem eii
  have aW : atI ((rNames rows).map V.str) (ii : Int) = some (.str (rows[ii]).d.n) := atI_nat (by unfold rNames; rw [List.getElem?_map, List.getElem?_map, eii]; rfl)
  generalize rows[ii] = r at mr mz aW
  refine ixX (.inl (.inl (.inl hW2))) aW ?_
  have hT2 := k2 _ _ naT.symm hT
  have vr : valV (lkOf rows) (.inr r.d.n) = some (.ref r.ta) := valV_rows ok.nd mr
  have g2 : DGet J2 T0 (.str r.d.n) (some (.ref r.ta)) := by
    have := DGet.k (k := .inr r.d.n) hT2
    rw [vr] at this
    exact this
  refine ⟨_, rfl, _, rfl, T0, _, rfl, g2, ?_⟩
  have et2 := tk k2 r mr
  have nxl : r.nx.length < 100 := ok.nxl mr
  have nx2 := ok.nx r mr
  refine ⟨_, rfl, _, rfl, _, _, rfl, lenVX (.inr (.inl (.inl et2))), _, _, rfl, rfl, rfl, rfl, _, _, rfl, a, n2, _, rfl, ea2, rfl, by omega, by rw [List.length_map]; omega, fun at_ n3 at0 at1 => ?_⟩
  have k3 := kU (k := n3) k2
  have ea3 : upd J2 a (.lst [.int n3]) a = some (.lst [.int n3]) := upd_same
  generalize upd J2 a (.lst [.int n3]) = J3 at k3 ea3
  have hW3 := k3 _ _ naW.symm hW
  have hT3 := k3 _ _ naT.symm hT
  have et3 := tk k3 r mr
  rw [List.length_map] at at1
  obtain ⟨ia, rfl, hia⟩ := nat_of (n := r.nx.length + 1) at0 (by omega)
  have aU : ∀ {J : Hp} {m : Int} {ks : List (Key × V)}, J a = some (.lst [.int m]) → ∃ m, upd J T0 (.dK ks) a = some (.lst [.int m]) := fun h => ⟨_, by rw [upd_ne naT]; exact h⟩
  have cpT : ∀ {J : Hp} {ks : List (Key × V)}, J T0 = some (.dK ks) → (∀ p ∈ ks, SE p.2) → (ks.map Prod.fst).Nodup → Cp J (.ref T0) := fun h se nd => .dK h se nd
  have lkl : (lkOf rows).length < sizeLine := Nat.lt_of_le_of_lt (show (lkOf rows).length ≤ 100 by rw [lkOf_len]; omega) (by decide)
  have nI : ∀ (x y : Int), x ≠ y → ¬ (decide (V.int x = V.int y) = true) := fun x y h e => h (by have := of_decide_eq_true e; injection this)
  refine ⟨_, rfl, rfl, _, rfl, ?_⟩
  by_cases c0 : kd = 0
  · refine iteY (by simp [c0]) ?_
    refine ⟨by show 0 ≤ sizeLine; decide, fun o1 ho1 => ?_⟩
    have u1 := Same.new (o := .lst []) ho1
    refine ⟨_, rfl, W, _, rfl, .inl (.inl (.inl (u1 _ _ hW3))), fun o2 ho2 => ⟨by show 0 ≤ sizeLine; decide, fun o3 ho3 => ⟨by show 6 ≤ sizeLine; decide, fun o4 ho4 => ?_⟩⟩⟩
    have u2 := Same.new (o := .lst ((rNames rows).map V.str)) ho2
    have u3 := Same.new (o := .tup []) ho3
    have u4 := Same.new (o := .lst [.non, .ref o1, .str "a", .ref o2, .int 0, .ref o3]) ho4
    have u14 := ((u1.trans u2).trans u3).trans u4
    have b1 := u4 _ _ (u3 _ _ (u2 _ _ (upd_same (H := J3) (a := o1) (o := .lst []))))
    have b2 := u4 _ _ (u3 _ _ (upd_same (H := upd J3 o1 (.lst [])) (a := o2) (o := .lst ((rNames rows).map V.str))))
    have b3 := u4 _ _ (upd_same (H := upd (upd J3 o1 (.lst [])) o2 (.lst ((rNames rows).map V.str))) (a := o3) (o := .tup []))
    have b4 := upd_same (H := upd (upd (upd J3 o1 (.lst [])) o2 (.lst ((rNames rows).map V.str))) o3 (.tup [])) (a := o4) (o := .lst [.non, .ref o1, .str "a", .ref o2, .int 0, .ref o3])
    have n1' : o1 ≠ a := (ne_of_none ea3 ho1).symm
    have n2' : o2 ≠ a := (ne_of_none (u1 _ _ ea3) ho2).symm
    have n3' : o3 ≠ a := (ne_of_none (u2 _ _ (u1 _ _ ea3)) ho3).symm
    have n4' : o4 ≠ a := (ne_of_none (u3 _ _ (u2 _ _ (u1 _ _ ea3))) ho4).symm
    generalize upd (upd (upd (upd J3 o1 (.lst [])) o2 (.lst ((rNames rows).map V.str))) o3 (.tup [])) o4 (.lst [.non, .ref o1, .str "a", .ref o2, .int 0, .ref o3]) = J4 at u14 b1 b2 b3 b4
    refine ⟨_, rfl, rfl, rfl, _, _, rfl, a, n3, 6, rfl, u14 _ _ ea3, rfl, by decide, by decide, fun i n4 i0 i1 => ?_⟩
    have k4 := kU (k := n4) (kS k3 u14)
    have d1 : upd J4 a (.lst [.int n4]) o1 = some (.lst []) := by rw [upd_ne n1']; exact b1
    have d2 : upd J4 a (.lst [.int n4]) o2 = some (.lst ((rNames rows).map V.str)) := by rw [upd_ne n2']; exact b2
    have d3 : upd J4 a (.lst [.int n4]) o3 = some (.tup []) := by rw [upd_ne n3']; exact b3
    have d4 : upd J4 a (.lst [.int n4]) o4 = some (.lst [.non, .ref o1, .str "a", .ref o2, .int 0, .ref o3]) := by rw [upd_ne n4']; exact b4
    have k5 : ∀ b o, b ≠ a → b ≠ T0 → H b = some o → upd J4 a (.lst [.int n4]) b = some o := fun b o nb _ hb => k4 b o nb hb
    obtain ⟨it, rfl, hit⟩ := nat_of (n := 6) i0 i1
    match it, hit with
    | 0, _ => exact ix3 d4 rfl (q _ _ k5 ⟨_, upd_same⟩ (.inl .non) .non)
    | 1, _ => exact ix3 d4 rfl (q _ _ k5 ⟨_, upd_same⟩ (.inl (.lst d1)) (.lst d1 (fun _ h => by cases h)))
    | 2, _ => exact ix3 d4 rfl (q _ _ k5 ⟨_, upd_same⟩ (.inl (.str _)) (.str _))
    | 3, _ => exact ix3 d4 rfl (q _ _ k5 ⟨_, upd_same⟩ (.inl (.lst d2)) (.lst d2 (fun v hv => by obtain ⟨z, _, rfl⟩ := List.mem_map.mp hv; exact .inr (.inr (.inr (.inr ⟨_, rfl⟩))))))
    | 4, _ => exact ix3 d4 rfl (q _ _ k5 ⟨_, upd_same⟩ (.inl (.int _)) (.int _))
    | 5, _ => exact ix3 d4 rfl (q _ _ k5 ⟨_, upd_same⟩ (.inl (.tup d3)) (.tup d3))
  refine iteN (nI _ _ c0) ⟨_, rfl, rfl, _, rfl, ?_⟩
  by_cases c1 : kd = 1
  · subst c1
    refine iteY (by simp) ⟨_, rfl, T0, rfl, .inl ⟨_, .inl hT3⟩, _, rfl, _, .inr r.d.n, _, hT3, rfl, vr, ?_⟩
    refine ⟨_, rfl, rfl, _, rfl, iteN (nI _ _ (by decide)) ⟨_, rfl, rfl, _, rfl, iteN (nI _ _ (by decide)) ⟨_, rfl, rfl, _, rfl, iteN (nI _ _ (by decide)) ⟨_, rfl, rfl, _, rfl, iteN (nI _ _ (by decide)) ⟨_, rfl, ?_⟩⟩⟩⟩⟩
    refine q _ _ (fin k3) (aU ea3) (.inr ⟨T0, _, fun _ => false, rfl, upd_same, fun e => ?_, ?_⟩) (cpT upd_same (fun p hp => lk_se rows p ((List.mem_filter.mp hp).1)) (drop_nd (lk_nd ok.nd)))
    · have := val_drop vr
      rw [lkOf_len] at this
      rw [rNames_len] at e
      omega
    · have := val_drop vr
      rw [lkOf_len] at this
      rw [rNames_len, decide_eq_false (by omega)]
      rfl
  refine iteN (nI _ _ c1) ⟨_, rfl, rfl, _, rfl, ?_⟩
  by_cases c2 : kd = 2
  · subst c2
    refine iteY (by simp) ⟨by show 0 ≤ sizeLine; decide, fun o1 ho1 => ?_⟩
    have u1 := Same.new (o := .tup []) ho1
    refine ⟨_, rfl, T0, _, rfl, DPut.k (k := .inr "zzzzzzzzz") (u1 _ _ hT3) lkl, ?_⟩
    refine ⟨_, rfl, rfl, _, rfl, iteN (nI _ _ (by decide)) ⟨_, rfl, rfl, _, rfl, iteN (nI _ _ (by decide)) ⟨_, rfl, rfl, _, rfl, iteN (nI _ _ (by decide)) ⟨_, rfl, ?_⟩⟩⟩⟩
    have nk : ∀ p ∈ lkOf rows, p.1 ≠ .inr "zzzzzzzzz" := fun p hp e => by
      obtain ⟨r', hr', rfl⟩ := List.mem_map.mp hp
      have e : r'.d.n = "zzzzzzzzz" := by injection e
      have := (ok.pl r' hr').1
      rw [e] at this
      exact absurd this (by decide +kernel)
    have lp : (putK (lkOf rows) (.inr "zzzzzzzzz") (V.ref o1)).length = rows.length + 1 := by
      rw [putK_new nk, List.length_append, lkOf_len]
      rfl
    refine q _ _ (fin (kS k3 u1)) (aU (u1 _ _ ea3)) (.inr ⟨T0, _, fun _ => false, rfl, upd_same, fun e => ?_, ?_⟩) (cpT upd_same (put_se (lk_se rows) (.inl ⟨_, rfl⟩)) (put_nd (lk_nd ok.nd)))
    · rw [lp, rNames_len] at e
      omega
    · rw [lp, rNames_len, decide_eq_false (by omega)]
      rfl
  refine iteN (nI _ _ c2) ⟨_, rfl, rfl, _, rfl, ?_⟩
  by_cases c3 : kd = 3
  · subst c3
    refine iteY (by simp) ?_
    refine ⟨_, rfl, r.ta, _, rfl, .inr (.inl (.inl et3)), fun o1 ho1 => ⟨_, rfl, fun o2 ho2 => ⟨by show 5 ≤ sizeLine; decide, fun o4 ho4 => ?_⟩⟩⟩
    have u1 := Same.new (o := .lst (r.nx.map V.str)) ho1
    have u2 := Same.new (o := .dK []) ho2
    have u4 := Same.new (o := .lst [.ref o1, .non, .str r.d.n, .ref o2, .int 1]) ho4
    have u14 := (u1.trans u2).trans u4
    have b1 := u4 _ _ (u2 _ _ (upd_same (H := J3) (a := o1) (o := .lst (r.nx.map V.str))))
    have b2 := u4 _ _ (upd_same (H := upd J3 o1 (.lst (r.nx.map V.str))) (a := o2) (o := .dK []))
    have b4 := upd_same (H := upd (upd J3 o1 (.lst (r.nx.map V.str))) o2 (.dK [])) (a := o4) (o := .lst [.ref o1, .non, .str r.d.n, .ref o2, .int 1])
    have n1' : o1 ≠ a := (ne_of_none ea3 ho1).symm
    have n2' : o2 ≠ a := (ne_of_none (u1 _ _ ea3) ho2).symm
    have n4' : o4 ≠ a := (ne_of_none (u2 _ _ (u1 _ _ ea3)) ho4).symm
    have n1t : o1 ≠ T0 := (ne_of_none hT3 ho1).symm
    have n2t : o2 ≠ T0 := (ne_of_none (u1 _ _ hT3) ho2).symm
    generalize upd (upd (upd J3 o1 (.lst (r.nx.map V.str))) o2 (.dK [])) o4 (.lst [.ref o1, .non, .str r.d.n, .ref o2, .int 1]) = J4 at u14 b1 b2 b4
    refine ⟨_, rfl, rfl, rfl, _, _, rfl, a, n3, 5, rfl, u14 _ _ ea3, rfl, by decide, by decide, fun i n4 i0 i1 => ?_⟩
    have k4 := kU (k := n4) (kS k3 u14)
    have d1 : upd J4 a (.lst [.int n4]) o1 = some (.lst (r.nx.map V.str)) := by rw [upd_ne n1']; exact b1
    have d2 : upd J4 a (.lst [.int n4]) o2 = some (.dK []) := by rw [upd_ne n2']; exact b2
    have d4 : upd J4 a (.lst [.int n4]) o4 = some (.lst [.ref o1, .non, .str r.d.n, .ref o2, .int 1]) := by rw [upd_ne n4']; exact b4
    have ea5 : upd J4 a (.lst [.int n4]) a = some (.lst [.int n4]) := upd_same
    generalize upd J4 a (.lst [.int n4]) = J5 at k4 d1 d2 d4 ea5
    have hT5 := k4 _ _ naT.symm hT
    obtain ⟨bv, ebv, obv, seb⟩ : ∃ v, atI [V.ref o1, .non, .str r.d.n, .ref o2, .int 1] i = some v ∧ (∀ ks, NoTu (upd J5 T0 (.dK ks)) v) ∧ SE v := by
      obtain ⟨it, rfl, hit⟩ := nat_of (n := 5) i0 i1
      match it, hit with
      | 0, _ => exact ⟨_, rfl, fun ks => .lst (by rw [upd_ne n1t]; exact d1), .inl ⟨_, rfl⟩⟩
      | 1, _ => exact ⟨_, rfl, fun ks => .non, .inr (.inl rfl)⟩
      | 2, _ => exact ⟨_, rfl, fun ks => .str _, .inr (.inr (.inr (.inr ⟨_, rfl⟩)))⟩
      | 3, _ => exact ⟨_, rfl, fun ks => .dK (by rw [upd_ne n2t]; exact d2), .inl ⟨_, rfl⟩⟩
      | 4, _ => exact ⟨_, rfl, fun ks => .int _, .inr (.inr (.inr (.inl ⟨_, rfl⟩)))⟩
    refine ixX (.inl (.inl (.inl d4))) ebv ?_
    refine ⟨_, rfl, _, rfl, T0, _, rfl, DPut.k (k := .inr r.d.n) hT5 lkl, ?_⟩
    refine ⟨_, rfl, rfl, _, rfl, iteN (nI _ _ (by decide)) ⟨_, rfl, rfl, _, rfl, iteN (nI _ _ (by decide)) ⟨_, rfl, ?_⟩⟩⟩
    refine q _ _ (fin k4) (aU ea5) (bd_put ok mz upd_same (tkU k4) (.inr (.inl ⟨bv, ?_, obv _, rfl⟩))) (cpT upd_same (put_se (lk_se rows) seb) (put_nd (lk_nd ok.nd)))
    rw [valV_put, if_pos rfl]
  refine iteN (nI _ _ c3) ⟨_, rfl, rfl, _, rfl, ?_⟩
  have ct : cutV (r.nx.map V.str) none (some (ia : Int)) = (r.nx.map V.str).take ia := cut_take _ (by rw [List.length_map]; omega)
  have cd : cutV (r.nx.map V.str) (some (ia : Int)) none = (r.nx.map V.str).drop ia := cut_drop _ (by rw [List.length_map]; omega)
  have lt1 : ((r.nx.map V.str).take ia).length ≤ 100 := by rw [List.length_take, List.length_map]; omega
  have ld1 : ((r.nx.map V.str).drop ia).length ≤ 100 := by rw [List.length_drop, List.length_map]; omega
  by_cases c4 : kd = 4
  · subst c4
    refine iteY (by simp) ?_
    refine ⟨_, rfl, by show 1 ≤ sizeLine; decide, fun o1 ho1 => ⟨_, rfl, by show 1 ≤ sizeLine; decide, fun o2 ho2 => ⟨by show 5 ≤ sizeLine; decide, fun o4 ho4 => ?_⟩⟩⟩
    have u1 := Same.new (o := .tup [.str r.d.n]) ho1
    have u2 := Same.new (o := .lst [.str r.d.n]) ho2
    have u4 := Same.new (o := .lst [.str "zzzzzzzzz", .non, .int 0, .ref o1, .ref o2]) ho4
    have u14 := (u1.trans u2).trans u4
    have b1 := u4 _ _ (u2 _ _ (upd_same (H := J3) (a := o1) (o := .tup [.str r.d.n])))
    have b2 := u4 _ _ (upd_same (H := upd J3 o1 (.tup [.str r.d.n])) (a := o2) (o := .lst [.str r.d.n]))
    have b4 := upd_same (H := upd (upd J3 o1 (.tup [.str r.d.n])) o2 (.lst [.str r.d.n])) (a := o4) (o := .lst [.str "zzzzzzzzz", .non, .int 0, .ref o1, .ref o2])
    have n1' : o1 ≠ a := (ne_of_none ea3 ho1).symm
    have n2' : o2 ≠ a := (ne_of_none (u1 _ _ ea3) ho2).symm
    have n4' : o4 ≠ a := (ne_of_none (u2 _ _ (u1 _ _ ea3)) ho4).symm
    have n1t : o1 ≠ T0 := (ne_of_none hT3 ho1).symm
    have n2t : o2 ≠ T0 := (ne_of_none (u1 _ _ hT3) ho2).symm
    generalize upd (upd (upd J3 o1 (.tup [.str r.d.n])) o2 (.lst [.str r.d.n])) o4 (.lst [.str "zzzzzzzzz", .non, .int 0, .ref o1, .ref o2]) = J4 at u14 b1 b2 b4
    refine ⟨_, rfl, rfl, rfl, _, _, rfl, a, n3, 5, rfl, u14 _ _ ea3, rfl, by decide, by decide, fun i n4 i0 i1 => ?_⟩
    have k4 := kU (k := n4) (kS k3 u14)
    have d1 : upd J4 a (.lst [.int n4]) o1 = some (.tup [.str r.d.n]) := by rw [upd_ne n1']; exact b1
    have d2 : upd J4 a (.lst [.int n4]) o2 = some (.lst [.str r.d.n]) := by rw [upd_ne n2']; exact b2
    have d4 : upd J4 a (.lst [.int n4]) o4 = some (.lst [.str "zzzzzzzzz", .non, .int 0, .ref o1, .ref o2]) := by rw [upd_ne n4']; exact b4
    have ea5 : upd J4 a (.lst [.int n4]) a = some (.lst [.int n4]) := upd_same
    generalize upd J4 a (.lst [.int n4]) = J5 at k4 d1 d2 d4 ea5
    have hT5 := k4 _ _ naT.symm hT
    have et5 := tk k4 r mr
    have nz : ∀ n ∈ rNames rows, n ≠ "zzzzzzzzz" := fun n hn e => by
      obtain ⟨r', hr', rfl⟩ := List.mem_map.mp hn
      have := (ok.pl r' hr').1
      rw [e] at this
      exact absurd this (by decide +kernel)
    have anyF : ∀ e : PyData, (∀ n ∈ rNames rows, mixEq (.str n) e = false) → ((rNames rows).any fun n => mixEq (.str n) e) = false := fun e h => List.any_eq_false.mpr fun n hn => by rw [h n hn]; decide
    obtain ⟨bv, ebv, g, hg0, hgs, hgb⟩ : ∃ v, atI [V.str "zzzzzzzzz", .non, .int 0, .ref o1, .ref o2] i = some v ∧ ∃ g : V → PyData, (∀ J, (∀ c x, c ≠ T0 → J5 c = some x → J c = some x) → Mx K J v (g v)) ∧ (∀ z, g (.str z) = .str z) ∧ ((rNames rows).any fun n => mixEq (.str n) (g v)) = false := by
      obtain ⟨it, rfl, hit⟩ := nat_of (n := 5) i0 i1
      match it, hit with
      | 0, _ => exact ⟨_, rfl, dat, fun J _ => .dat (.str _) rfl (Nat.zero_le _), fun _ => rfl, anyF _ fun n hn => by simpa [dat, mixEq, PyData.eqv] using nz n hn⟩
      | 1, _ => exact ⟨_, rfl, dat, fun J _ => .dat .non rfl (Nat.zero_le _), fun _ => rfl, anyF _ fun n hn => by simp [dat, mixEq, PyData.eqv]⟩
      | 2, _ => exact ⟨_, rfl, dat, fun J _ => .dat (.int _) rfl (Nat.zero_le _), fun _ => rfl, anyF _ fun n hn => by simp [dat, mixEq, PyData.eqv]⟩
      | 3, _ => exact ⟨_, rfl, fun x => match x with | .str z => .str z | _ => .tuple [.str r.d.n], fun J kj => .dat (.tup (.inl (.inl (kj _ _ n1t d1))) (.cons (.str _) .nil)) rfl (by simp [PyData.depth, PyData.depthAll]), fun _ => rfl, anyF _ fun n hn => by simp [mixEq, PyData.eqv]⟩
      | 4, _ => exact ⟨_, rfl, fun x => match x with | .str z => .str z | _ => .list [.str r.d.n], fun J kj => .dat (.lst (.inl (.inl (kj _ _ n2t d2))) (.cons (.str _) .nil)) rfl (by simp [PyData.depth, PyData.depthAll]), fun _ => rfl, anyF _ fun n hn => by simp [mixEq, PyData.eqv]⟩
    refine ixX (.inl (.inl (.inl d4))) ebv ?_
    refine ⟨_, rfl, _, rfl, _, rfl, sl_Tt et5 fun p1 J6 s6 hp1 => ?_⟩
    rw [ct] at hp1
    refine ⟨_, rfl, by show 1 ≤ sizeLine; decide, fun p2 hp2 => ?_⟩
    have v2 := Same.new (o := .tup [bv]) hp2
    refine cat_Tt (v2 _ _ hp1) upd_same (by simp; omega) fun p3 J7 s7 hp3 => ?_
    refine ⟨_, rfl, _, rfl, _, rfl, ?_⟩
    unfold tNoPart
    refine sl_Tt (s7 _ _ (v2 _ _ (s6 _ _ et5))) fun p4 J8 s8 hp4 => ?_
    rw [cd] at hp4
    refine cat_Tt (s8 _ _ hp3) hp4 (by simp only [List.length_append, List.length_cons, List.length_nil]; omega) fun p5 J9 s9 hp5 => ?_
    have s69 := (((s6.trans v2).trans s7).trans s8).trans s9
    have k9 := kS k4 s69
    have hT9 := k9 _ _ naT.symm hT
    refine ⟨_, rfl, _, rfl, T0, _, rfl, DPut.k (k := .inr r.d.n) hT9 lkl, ?_⟩
    refine ⟨_, rfl, rfl, _, rfl, iteN (nI _ _ (by decide)) ⟨_, rfl, ?_⟩⟩
    have h5 : upd J9 T0 (.dK (putK (lkOf rows) (.inr r.d.n) (.ref p5))) p5 = some (.tup ((r.nx.map V.str).take ia ++ [bv] ++ (r.nx.map V.str).drop ia)) := by
      rw [upd_ne (nT0 hT9 hp5)]
      exact hp5
    refine q _ _ (fin k9) (aU (s69 _ _ ea5)) (bd_put ok mz upd_same (tkU k9) (.inr (.inr ⟨p5, _, g, ?_, h5, ?_, fun u hu => ?_, ?_⟩))) (cpT upd_same (put_se (lk_se rows) (.inl ⟨_, rfl⟩)) (put_nd (lk_nd ok.nd)))
    · rw [valV_put, if_pos rfl]
    · have e1 : ((r.nx.map V.str).take ia).length + ((r.nx.map V.str).drop ia).length = r.nx.length := by rw [List.length_take, List.length_drop, List.length_map]; omega
      have := nodup_le nx2.1 nx2.2
      rw [rNames_len] at this
      simp only [List.length_append, List.length_cons, List.length_nil]
      omega
    · have hstrs : ∀ u ∈ r.nx.map V.str, Mx K (upd J9 T0 (.dK (putK (lkOf rows) (.inr r.d.n) (.ref p5)))) u (g u) := fun u hu => by
        obtain ⟨z, _, rfl⟩ := List.mem_map.mp hu
        rw [hgs]
        exact .dat (.str z) rfl (Nat.zero_le _)
      rcases List.mem_append.mp hu with hu | hu
      · rcases List.mem_append.mp hu with hu | hu
        · exact hstrs u (List.mem_of_mem_take hu)
        · rw [List.mem_singleton.mp hu]
          exact hg0 _ fun c x nc hc => by rw [upd_ne nc]; exact s69 _ _ hc
      · exact hstrs u (List.mem_of_mem_drop hu)
    · have : (((r.nx.map V.str).take ia ++ [bv] ++ (r.nx.map V.str).drop ia).all fun u => (rNames rows).any fun n => mixEq (.str n) (g u)) = false := List.all_eq_false.mpr ⟨bv, by simp, by rw [hgb]; decide⟩
      rw [this, Bool.and_false]
  refine iteN (nI _ _ c4) ⟨_, rfl, rfl, _, rfl, ?_⟩
  have c5 : kd = 5 := by omega
  subst c5
  refine iteY (by simp) ?_
  refine ⟨_, rfl, _, rfl, _, rfl, sl_Tt et3 fun p1 J6 s6 hp1 => ?_⟩
  rw [ct] at hp1
  refine ⟨_, rfl, by show 1 ≤ sizeLine; decide, fun p2 hp2 => ?_⟩
  have v2 := Same.new (o := .tup [.str r.d.n]) hp2
  refine cat_Tt (v2 _ _ hp1) upd_same (by simp; omega) fun p3 J7 s7 hp3 => ?_
  refine ⟨_, rfl, _, rfl, _, rfl, ?_⟩
  unfold tNoPart
  refine sl_Tt (s7 _ _ (v2 _ _ (s6 _ _ et3))) fun p4 J8 s8 hp4 => ?_
  rw [cd] at hp4
  refine cat_Tt (s8 _ _ hp3) hp4 (by simp only [List.length_append, List.length_cons, List.length_nil]; omega) fun p5 J9 s9 hp5 => ?_
  refine ⟨_, rfl, by show 1 ≤ sizeLine; decide, fun p6 hp6 => ?_⟩
  have v6 := Same.new (o := .tup [.str r.d.n]) hp6
  refine cat_Tt (v6 _ _ hp5) upd_same (by simp only [List.length_append, List.length_cons, List.length_nil]; omega) fun p7 JA sA hp7 => ?_
  have s69 := ((((((s6.trans v2).trans s7).trans s8).trans s9).trans v6).trans sA)
  have k9 := kS k3 s69
  have hT9 := k9 _ _ naT.symm hT
  refine ⟨_, rfl, _, rfl, T0, _, rfl, DPut.k (k := .inr r.d.n) hT9 lkl, ⟨_, rfl, ?_⟩⟩
  have exs : (r.nx.map V.str).take ia ++ [V.str r.d.n] ++ (r.nx.map V.str).drop ia ++ [V.str r.d.n] = (r.nx.take ia ++ [r.d.n] ++ r.nx.drop ia ++ [r.d.n]).map V.str := by
    simp only [List.map_append, List.map_cons, List.map_nil, List.map_take, List.map_drop]
  rw [exs] at hp7
  have h5 : upd JA T0 (.dK (putK (lkOf rows) (.inr r.d.n) (.ref p7))) p7 = some (.tup ((r.nx.take ia ++ [r.d.n] ++ r.nx.drop ia ++ [r.d.n]).map V.str)) := by
    rw [upd_ne (nT0 hT9 hp7)]
    exact hp7
  have lna : (r.nx.take ia).length = ia := by rw [List.length_take]; omega
  have lnd : (r.nx.drop ia).length = r.nx.length - ia := List.length_drop
  refine q _ _ (fin k9) (aU (s69 _ _ ea3)) (bd_put ok mz upd_same (tkU k9) (.inr (.inr ⟨p7, _, dat, ?_, h5, ?_, fun u hu => ?_, ?_⟩))) (cpT upd_same (put_se (lk_se rows) (.inl ⟨_, rfl⟩)) (put_nd (lk_nd ok.nd)))
  · rw [valV_put, if_pos rfl]
  · have := nodup_le nx2.1 nx2.2
    rw [rNames_len] at this
    simp only [List.length_map, List.length_append, List.length_cons, List.length_nil]
    omega
  · obtain ⟨z, _, rfl⟩ := List.mem_map.mp hu
    exact dat_mx z
  · rw [dup_str (i := ia) (j := r.nx.length + 1) (z := r.d.n) (by omega) ?_ ?_]
    · rfl
    · rw [List.append_assoc, List.append_assoc, List.getElem?_append_right (by omega), lna]
      simp
    · rw [List.getElem?_append_right (by simp only [List.length_append, List.length_cons, List.length_nil]; omega)]
      simp only [List.length_append, List.length_cons, List.length_nil]
      rw [show r.nx.length + 1 - ((r.nx.take ia).length + (0 + 1) + (r.nx.drop ia).length) = 0 by omega]
      rfl
end
end W

namespace W
open PySem PySem.Spec PyProof.Rows L2
section
variable {P : Program} {w : World} {K : S.Frag} {mg : Str → Option Value} {base : Heap}
open S
theorem iteAB {c A B : Prop} [Decidable c] (a : A) (b : B) : if c then A else B := by
  split
  · exact a
  · exact b
theorem Od.self {H : Hp} {z : V} (h : Od H z) : EqOk K H 5 z z true := h.se.eq
theorem eg_od {J : Hp} {o1 o2 : Addr} {xs : List V} (h1 : J o1 = some (.tup xs)) (h2 : J o2 = some (.tup xs)) (ho : ∀ v ∈ xs, SE v) : EqG K J 6 (.ref o1) (.ref o2) true := by
  have pt : pairs (fun _ => true) xs xs = true := by unfold pairs; simp
  refine (eg_tup (n := 5) (e := fun _ => true) (.inl (.inl h1)) (.inl (.inl h2)) (fun i p q hp hq => ?_) (fun _ => pt)).to pt
  rw [hp] at hq
  injection hq with hq
  subst hq
  exact (ho p (List.mem_of_getElem? hp)).eq
/-- two tuples ("made", names) -/
theorem eg_made {J : Hp} {o1 o2 A1 A2 : Addr} {ws : List Str} (h1 : J o1 = some (.tup [.str "made", .ref A1])) (h2 : J o2 = some (.tup [.str "made", .ref A2])) (a1 : J A1 = some (.lst (ws.map V.str))) (a2 : J A2 = some (.lst (ws.map V.str))) : EqG K J 6 (.ref o1) (.ref o2) true := by
  have pt : pairs (fun _ => true) [V.str "made", .ref A1] [V.str "made", .ref A2] = true := by unfold pairs; simp
  refine (eg_tup (n := 5) (e := fun _ => true) (.inl (.inl h1)) (.inl (.inl h2)) (fun i p q hp hq => ?_) (fun _ => pt)).to pt
  match i with
  | 0 =>
    cases hp
    cases hq
    exact SE.eq (.inr (.inr (.inr (.inr ⟨_, rfl⟩))))
  | 1 =>
    cases hp
    cases hq
    have := (eg_lsts (K := K) (n := 0) (ws := ws) (zs := ws) (.inl (.inl a1)) (.inl (.inl a2)) (fun _ => rfl)).at_
    exact (this.up (by decide)).to (by simp)
  | i + 2 => simp at hp
theorem Cp.dw {H J : Hp} {x : V} (h : Cp H x) (d : Dw H J) : Cp J x := by
  cases h with
  | @lst a xs h se =>
    by_cases c : ∃ n : Int, xs = [.int n]
    · obtain ⟨n, rfl⟩ := c
      obtain ⟨m, e⟩ := d.dr a n h
      exact .lst e (fun v hv => by rw [List.mem_singleton.mp hv]; exact .inr (.inr (.inr (.inl ⟨_, rfl⟩))))
    · exact .lst (d.kp _ _ (fun n e => c ⟨n, by injection e⟩) h) se
  | dK h se nd => exact .dK (d.dK h) se nd
  | tup h => exact .tup (d.tup h)
  | non => exact .non
  | str z => exact .str z
  | int i => exact .int i
  | bl b => exact .bl b
theorem atI_lastQ {α : Type} {xs : List α} {v : α} (h : xs.getLast? = some v) : atI xs (-1) = some v := by
  have l : 0 < xs.length := by
    cases xs with
    | nil => cases h
    | cons => simp
  unfold atI ixN
  rw [if_neg (by decide), if_pos (by omega)]
  show xs[((-1 : Int) + (xs.length : Int)).toNat]? = some v
  rw [show ((-1 : Int) + (xs.length : Int)).toNat = xs.length - 1 by omega, ← List.getLast?_eq_getElem?]
  exact h
theorem ok_law (T : Txt K mg) : FnOk P w K mg base (L2.CX P w) 6 (He.fAd K ("law", none)) (S.fdA K ("law", none)) ["_law_script"] (spLaw K) := by
  have G__law_cell := ok__law_cell (P := P) (w := w) (base := base) T
  have G__law_take := ok__law_take (P := P) (w := w) (base := base) T
  have G__law_rows := ok__law_rows (P := P) (w := w) (base := base) T
  have G_Place___init__ := ok_Place___init__ (P := P) (w := w) (base := base) T
  have G__law_nexts := ok__law_nexts (P := P) (w := w) (base := base) T
  have G__law_bad_nexts := ok__law_bad_nexts (P := P) (w := w) (base := base) T
  have G__law_bad_places := ok__law_bad_places (P := P) (w := w) (base := base) T
  have G__law_copies := ok__law_copies (P := P) (w := w) (base := base) T
  have G__law_made := ok__law_made (P := P) (w := w) (base := base) T
  refine FunD.ok T.F_law sc_law (fun vs H Q E h => S.splen1 h) (fun cdv A outer s H vs Q E hr h => ?_)
  have hu := hu_of hr
  refine ⟨_, (pss_cons (ps_set (i := 1) sc_law.nd rfl (by first | exact Or.inl rfl | exact Or.inr rfl) (pe_lst (pa_cons (S.pe_fnS G__law_cell (hr.mono (by decide)) rfl T.g__law_cell T.F__law_cell.kp (kb__law_cell_2 T) S.pas0 (pa_cons (pv 0) (pa_cons pe_int pa_nil)) pk_nil rfl rfl) pa_nil)))
      (pss_cons (ps_set (i := 2) sc_law.nd rfl (by first | exact Or.inl rfl | exact Or.inr rfl) (S.pe_fnS G__law_take (hr.mono (by decide)) rfl T.g__law_take T.F__law_take.kp (kb__law_take_2 T) S.pas0 (pa_cons (pv 1) (pa_cons pe_int pa_nil)) pk_nil rfl rfl))
      (pss_cons (ps_set (i := 3) sc_law.nd rfl (by first | exact Or.inl rfl | exact Or.inr rfl) (S.pe_fnS G__law_rows (hr.mono (by decide)) rfl T.g__law_rows T.F__law_rows.kp (kb__law_rows_4 T) S.pas0 (pa_cons (pv 1) (pa_cons (pe_lst (pa_cons (S.pe_fnS G__law_cell (hr.mono (by decide)) rfl T.g__law_cell T.F__law_cell.kp (kb__law_cell_2 T) S.pas0 (pa_cons (pv 0) (pa_cons pe_int pa_nil)) pk_nil rfl rfl) pa_nil)) (pa_cons pe_int (pa_cons pe_int pa_nil)))) pk_nil rfl rfl))
      (pss_cons (ps_set (i := 4) sc_law.nd rfl (by first | exact Or.inl rfl | exact Or.inr rfl) (pe_lst (pa_cons (S.pe_fnS G__law_cell (hr.mono (by decide)) rfl T.g__law_cell T.F__law_cell.kp (kb__law_cell_2 T) S.pas0 (pa_cons (pv 0) (pa_cons pe_int pa_nil)) pk_nil rfl rfl) pa_nil)))
      (pss_cons (ps_setLc (i := 5) (own := [("_law_row_here", 6)]) (g := gName 6) (tt := tYes) rfl sc_law.nd rfl rfl (sw_true rfl rfl rfl (by decide +kernel)) (S.pi_seqK (K := K) rfl (pv 3)) (blkOk_by (N := ["_law_script", "_law_draw", "_law_spoils", "_law_rows_here", "_law_spoil", "_law_words", "_law_row_here", "_law_places", "_law_table", "_law_begin", "_law_due", "_law_kept", "_law_outcome"]) (sc := defScope s_law) (by decide +kernel)) (fun _ _ _ _ _ => pg_name (i := 6) sc_law.nd rfl (by first | exact Or.inl rfl | exact Or.inr rfl)) (fun _ _ _ _ _ => pts_nil) (fun _ _ _ _ _ => (pe_ix (S.ixK (K := K) rfl) (pv 6) pe_int (fun _ _ => rfl))))
      (pss_cons (ps_setLc (i := 7) (own := [("_law_row_here", 6)]) (g := gName 6) (tt := tYes) rfl sc_law.nd rfl rfl (sw_true rfl rfl rfl (by decide +kernel)) (S.pi_seqK (K := K) rfl (pv 3)) (blkOk_by (N := ["_law_script", "_law_draw", "_law_spoils", "_law_rows_here", "_law_spoil", "_law_words", "_law_row_here", "_law_places", "_law_table", "_law_begin", "_law_due", "_law_kept", "_law_outcome"]) (sc := defScope s_law) (by decide +kernel)) (fun _ _ _ _ _ => pg_name (i := 6) sc_law.nd rfl (by first | exact Or.inl rfl | exact Or.inr rfl)) (fun _ _ _ _ _ => pts_nil) (fun _ _ _ _ _ => (S.pe_mkS T.mk_Place G_Place___init__ (hr.mono (by decide)) rfl T.g_Place (kb_Place___init___4_let T).choose_spec S.pas0 (pa_cons (pe_ix (S.ixK (K := K) rfl) (pv 6) pe_int (fun _ _ => rfl)) (pa_cons (pe_ix (S.ixK (K := K) rfl) (pv 6) pe_int (fun _ _ => rfl)) (pa_cons (pe_ix (S.ixK (K := K) rfl) (pv 6) pe_int (fun _ _ => rfl)) pa_nil))) (pk_cons (pe_ix (S.ixK (K := K) rfl) (pv 6) pe_int (fun _ _ => rfl)) pk_nil) rfl rfl)))
      (pss_cons (ps_set (i := 8) sc_law.nd rfl (by first | exact Or.inl rfl | exact Or.inr rfl) (S.pe_fnS G__law_nexts (hr.mono (by decide)) rfl T.g__law_nexts T.F__law_nexts.kp (kb__law_nexts_1 T) S.pas0 (pa_cons (pv 3) pa_nil) pk_nil rfl rfl))
      (pss_cons (ps_set (i := 9) sc_law.nd rfl (by first | exact Or.inl rfl | exact Or.inr rfl) (pe_ix (S.ixK (K := K) rfl) (pe_lst (pa_cons (pe_ix (S.ixK (K := K) rfl) (pv 5) pe_int (fun _ _ => rfl)) (pa_cons (pe_ix (S.ixK (K := K) rfl) (pv 5) (pe_un un_neg pe_int) (fun _ _ => rfl)) (pa_cons pe_non pa_nil)))) (S.pe_fnS G__law_take (hr.mono (by decide)) rfl T.g__law_take T.F__law_take.kp (kb__law_take_2 T) S.pas0 (pa_cons (pv 4) (pa_cons pe_int pa_nil)) pk_nil rfl rfl) (fun _ _ => rfl)))
      (pss_cons (ps_set (i := 10) sc_law.nd rfl (by first | exact Or.inl rfl | exact Or.inr rfl) pe_str)
      (S.pss_cut (ps_if (pt_cmpR op_eq (pe_op op_fdivW (pv 2) pe_int) pe_int (nomark _)) (pss_cons (ps_set (i := 9) sc_law.nd rfl (by first | exact Or.inl rfl | exact Or.inr rfl) (pe_ix (S.ixK (K := K) rfl) (pe_lst (pa_cons pe_str (pa_cons pe_str (pa_cons pe_int (pa_cons pe_bl (pa_cons (pe_tup (pa_cons (pe_ix (S.ixK (K := K) rfl) (pv 5) pe_int (fun _ _ => rfl)) pa_nil)) (pa_cons (pe_lst (pa_cons (pe_ix (S.ixK (K := K) rfl) (pv 5) pe_int (fun _ _ => rfl)) pa_nil)) (pa_cons pe_dnewK pa_nil)))))))) (S.pe_fnS G__law_take (hr.mono (by decide)) rfl T.g__law_take T.F__law_take.kp (kb__law_take_2 T) S.pas0 (pa_cons (pv 4) (pa_cons pe_int pa_nil)) pk_nil rfl rfl) (fun _ _ => rfl)))
      (pss_one (ps_set (i := 10) sc_law.nd rfl (by first | exact Or.inl rfl | exact Or.inr rfl) pe_str))) pss_nil)
      (S.pss_cut (ps_if (pt_cmpR op_eq (pe_op op_mod (pe_op op_fdivW (pv 2) pe_int) pe_int) pe_int (nomark _)) (pss_cons (ps_set (i := 8) sc_law.nd rfl (by first | exact Or.inl rfl | exact Or.inr rfl) (S.pe_fnS G__law_bad_nexts (hr.mono (by decide)) rfl T.g__law_bad_nexts T.F__law_bad_nexts.kp (kb__law_bad_nexts_3 T) S.pas0 (pa_cons (pv 4) (pa_cons (pv 8) (pa_cons (pv 5) pa_nil))) pk_nil rfl rfl))
      (pss_one (ps_set (i := 10) sc_law.nd rfl (by first | exact Or.inl rfl | exact Or.inr rfl) pe_str))) pss_nil)
      (S.pss_cut (ps_if (pt_cmpR op_eq (pe_op op_mod (pv 2) pe_int) pe_int (nomark _)) (pss_cons (ps_set (i := 7) sc_law.nd rfl (by first | exact Or.inl rfl | exact Or.inr rfl) (S.pe_fnS G__law_bad_places (hr.mono (by decide)) rfl T.g__law_bad_places T.F__law_bad_places.kp (kb__law_bad_places_2 T) S.pas0 (pa_cons (pv 4) (pa_cons (pv 7) pa_nil)) pk_nil rfl rfl))
      (pss_one (ps_set (i := 10) sc_law.nd rfl (by first | exact Or.inl rfl | exact Or.inr rfl) pe_str))) pss_nil)
      (pss_cons (ps_set (i := 11) sc_law.nd rfl (by first | exact Or.inl rfl | exact Or.inr rfl) (pe_lst (pa_cons (S.pe_fnS G__law_copies (hr.mono (by decide)) rfl T.g__law_copies T.F__law_copies.kp (kb__law_copies_1 T) S.pas0 (pa_cons (pv 7) pa_nil) pk_nil rfl rfl) (pa_cons (S.pe_fnS G__law_copies (hr.mono (by decide)) rfl T.g__law_copies T.F__law_copies.kp (kb__law_copies_1 T) S.pas0 (pa_cons (pv 8) pa_nil) pk_nil rfl rfl) pa_nil))))
      (pss_cons (ps_set (i := 12) sc_law.nd rfl (by first | exact Or.inl rfl | exact Or.inr rfl) (S.pe_fnS G__law_made (hr.mono (by decide)) rfl T.g__law_made T.F__law_made.kp (kb__law_made_3 T) S.pas0 (pa_cons (pv 7) (pa_cons (pv 8) (pa_cons (pv 9) pa_nil))) pk_nil rfl rfl))
      (pss_cons (ps_if (PW.pt (pw_or (pt_cmpR (S.neGK (K := K) rfl (S.hu64 hr)) (pv 7) (pe_ix (S.ixK (K := K) rfl) (pv 11) pe_int (fun _ _ => rfl)) (nomark _)) (pw_or1 (pt_cmpR (S.neGK (K := K) rfl (S.hu64 hr)) (pv 8) (pe_ix (S.ixK (K := K) rfl) (pv 11) pe_int (fun _ _ => rfl)) (nomark _))))) (pss_one (ps_ret pe_bl)) pss_nil)
      (pss_cons (ps_if (pt_cmpR op_ne (pv 10) pe_str (nomark _)) (pss_one (ps_ret (pe_cmpR (S.eqGK (K := K) rfl (S.hu64 hr)) (pv 12) (pe_tup (pa_cons pe_str (pa_cons (pv 10) (pa_cons pe_bl (pa_cons pe_bl pa_nil))))) (nomark _)))) pss_nil)
      (pss_cons (ps_if (pt_cmpR (S.neGK (K := K) rfl (S.hu64 hr)) (pv 12) (pe_tup (pa_cons pe_str (pa_cons (pv 5) pa_nil))) (nomark _)) (pss_one (ps_ret pe_bl)) pss_nil)
      (pss_one (ps_ret (pe_cmpR (S.eqGK (K := K) rfl (S.hu64 hr)) (S.pe_fnS G__law_made (hr.mono (by decide)) rfl T.g__law_made T.F__law_made.kp (kb__law_made_3 T) S.pas0 (pa_cons (pe_callTy (S.tupOfK (K := K) rfl) rfl T.n_tuple S.boot_tuple (pa_cons (pv 7) pa_nil)) (pa_cons (pv 8) (pa_cons (pv 9) pa_nil))) pk_nil rfl rfl) (pv 12) (nomark _))))))))))))))))))))), ?_⟩
  obtain ⟨_, rfl, a, ns, rfl, hS, hl, q⟩ := h
  refine ⟨_, rfl, rfl, rfl, _, _, rfl, a, ns, 0, rfl, rfl, by decide, hS, fun n0 _ => ⟨by show 1 ≤ sizeLine; decide, fun dr hdr => ?_⟩⟩
  have s1 := Same.new (o := .lst [.int n0]) hdr
  refine ⟨_, rfl, rfl, rfl, _, _, rfl, dr, n0, 8, rfl, upd_same, rfl, by decide, by decide, fun sp na sp0 sp1 => ?_⟩
  have dA := Dw.take (m := na) (upd_same (H := H) (a := dr) (o := .lst [.int n0]))
  obtain ⟨ns1, hS1⟩ := sq_dw (sqL_same hS s1) dA
  refine ⟨_, rfl, _, rfl, rfl, rfl, _, _, rfl, a, ns1, 1, rfl, rfl, by decide, hS1, fun n3 _ => ⟨by show 1 ≤ sizeLine; decide, fun wd hwd => ⟨rfl, rfl, _, _, _, _, rfl, dr, wd, na, n3, 5, 3, rfl, rfl, Same.new hwd _ _ upd_same, upd_same, rfl, by decide, by decide, rfl, by decide, by decide, fun R rows J1 dJ1 fR fr h1 od => ?_⟩⟩⟩
  have ok := od.ok
  have l1 := ok.l1
  have l6 := ok.l6
  have lm : (rows.map fun r => V.ref r.a).length = rows.length := List.length_map _
  obtain ⟨ns2, hS2⟩ := sq_dw (sqL_same hS1 (Same.new (o := .lst [.int n3]) hwd)) dJ1
  refine ⟨_, rfl, rfl, rfl, _, _, rfl, a, ns2, 2, rfl, rfl, by decide, hS2, fun n5 _ => ⟨by show 1 ≤ sizeLine; decide, fun bd hbd => ?_⟩⟩
  have s3 := Same.new (o := .lst [.int n5]) hbd
  have ebd : upd J1 bd (.lst [.int n5]) bd = some (.lst [.int n5]) := upd_same
  generalize upd J1 bd (.lst [.int n5]) = J2 at s3 ebd
  have h2 := h1.same s3
  -- the names
  refine ⟨_, rfl, R, _, rfl, .inl (.inl (.inl h2.at_)), fun It wk D hD => lc_mapA (as := rows) wk (fun r => V.str r.d.n) (fun r hr r' hr' e => by injection e with e; have e1 := (h2.row r hr).1; rw [e, (h2.row r' hr').1] at e1; injection e1 with e1; injection e1 with e1; unfold rowL at e1; injection e1 with e1; exact e1.symm) hD (by omega) (fun _ => rfl) (fun r H2 Z hr' s2 z => ⟨_, rfl, ix3 ((h2.same s2).row r hr').1 rfl (z H2 fun _ _ h => h)⟩) fun J3 s4 eD => ?_⟩
  rw [← names_map rows J3] at eD
  have h3 := h2.same s4
  -- the places
  refine ⟨_, rfl, R, _, rfl, .inl (.inl (.inl h3.at_)), fun It wk L hL => lc_seq wk (fun i J' => Same J3 J' ∧ ∃ as : List Addr, J' L = some (.lst (as.map V.ref)) ∧ as.length = i ∧ ∀ (j : Nat) (r : Rw) (p : Addr), rows[j]? = some r → as[j]? = some p → PlA K J' p r.d) ⟨Same.new hL, [], upd_same, rfl, fun j r p _ h => by simp at h⟩ (fun i J _ h => h.1) ?_ ?_⟩
  · rintro i x J' hx ⟨sJ, as, eL, la, hp⟩
    rw [List.getElem?_map] at hx
    obtain ⟨r, hr', rfl⟩ := Option.map_eq_some_iff.mp hx
    have er := ((h3.same sJ).row r (List.mem_of_getElem? hr')).1
    have il := get_lt hr'
    refine ⟨rfl, yesT ?_⟩
    refine iteT ⟨_, rfl, ix3 er rfl ⟨_, rfl, ix3 er rfl ⟨_, rfl, ix3 er rfl ⟨_, rfl, ix3 er rfl ⟨rfl, rfl, fun p dx np ndx ne => mkPl np ndx ne (ok.pl r (List.mem_of_getElem? hr')) fun J2' s2 hpl => ⟨rfl, _, s2 _ _ eL, ?_, Same.upd (sJ.trans s2) hL, as ++ [p], ?_, by simp [la], fun j r2 p2 h1 h2 => ?_⟩⟩⟩⟩⟩⟩
    · rw [List.length_map]
      exact Nat.lt_of_le_of_lt (show as.length ≤ 100 by omega) (by decide)
    · rw [upd_same, List.map_append]
      rfl
    · have pD : ∀ {q2 : Addr} {d2 : Pl}, PlA K J2' q2 d2 → PlA K (upd J2' L (.lst (as.map V.ref ++ [.ref p]))) q2 d2 := fun {q2 d2} h => by
        obtain ⟨dx2, e2⟩ := h
        refine ⟨dx2, ?_⟩
        rw [upd_ne (ne_of e2 (s2 _ _ eL) (by intro z; cases z))]
        exact e2
      by_cases c : j < as.length
      · rw [List.getElem?_append_left c] at h2
        exact pD ((hp j r2 p2 h1 h2).same s2)
      · rw [List.getElem?_append_right (by omega)] at h2
        have jl : j - as.length = 0 := by
          by_cases c2 : j - as.length = 0
          · exact c2
          · rw [List.getElem?_eq_none (by simp; omega)] at h2
            cases h2
        rw [jl] at h2
        have : j = i := by omega
        subst this
        rw [hr'] at h1
        cases h1
        cases h2
        exact pD hpl
  rintro J4 ⟨s5, as, eL, la, hpl⟩
  rw [List.length_map] at la
  have h4 := h3.same s5
  refine ⟨_, rfl, rfl, rfl, _, rfl, R, rows, rfl, h4, ok.nd, by omega, fun T0 J5 hT0 s6 eT => ?_⟩
  have h5 := h4.same s6
  have eL5 := s6 _ _ eL
  have eD5 := s6 _ _ (s5 _ _ eD)
  have ebd5 := s6 _ _ (s5 _ _ (s4 _ _ ebd))
  have nbL : bd ≠ L := ne_of_none (s4 _ _ ebd) hL
  have nbD : bd ≠ D := ne_of_none ebd hD
  have nDT : D ≠ T0 := ne_of eD5 eT (by intro e; cases e)
  have nLT : L ≠ T0 := ne_of eL5 eT (by intro e; cases e)
  -- the parts are right
  have vre : vw (reA rows as) = vw rows := reA_vw la.symm
  have lws : (rNames rows).length = rows.length := rNames_len rows
  have mk : ∀ J, (∀ b o, b ≠ bd → b ≠ T0 → J5 b = some o → J b = some o) → GdPl K J (.ref L) (rNames rows) := fun J kj => by
    refine ⟨⟨L, (reA rows as).map fun r => (r.a, r.d), rfl, .inl ?_, fun z hz => ?_, ?_⟩, by omega, by omega, ok.nd⟩
    · rw [List.map_map]
      show J L = some (.lst ((reA rows as).map fun r => .ref r.a))
      rw [reA_a la.symm]
      exact kj _ _ nbL.symm nLT eL5
    · obtain ⟨r, hr, rfl⟩ := List.mem_map.mp hz
      obtain ⟨i, rr, g1, g2, e⟩ := reA_mem hr
      obtain ⟨dx, ex⟩ := (hpl i rr r.a g1 g2).same s6
      refine ⟨dx, ?_⟩
      rw [e]
      exact kj _ _ (ne_of ex ebd5 (by intro e; cases e)) (ne_of ex eT (by intro e; cases e)) ex
    · rw [List.map_map]
      show rNames (reA rows as) = rNames rows
      rw [vw_rNames, vre, ← vw_rNames]
  have mkN : ∀ J, (∀ b o, b ≠ bd → J5 b = some o → J b = some o) → GdNx J (.ref T0) (rNames rows) := fun J kj => by
    refine ⟨T0, lkOf rows, rfl, kj _ _ (ne_of eT ebd5 (by intro e; cases e)) eT, by rw [lkOf_len, lws], fun z hz => ?_⟩
    obtain ⟨r, hr, en, ev⟩ := rw_val ok.nd hz
    exact ⟨r.ta, r.nx, ev, kj _ _ (ne_of (h5.row r hr).2 ebd5 (by intro e; cases e)) (h5.row r hr).2, ok.nxl hr, (ok.nx r hr).1, (ok.nx r hr).2⟩
  have cL : ∀ J, (∀ b o, b ≠ bd → b ≠ T0 → J5 b = some o → J b = some o) → Cp J (.ref L) := fun J kj => .lst (kj _ _ nbL.symm nLT eL5) (fun v hv => by obtain ⟨x, _, rfl⟩ := List.mem_map.mp hv; exact .inl ⟨_, rfl⟩)
  have kU : ∀ {J : Hp} {k : Int}, (∀ b o, b ≠ bd → J5 b = some o → J b = some o) → (∀ b o, b ≠ bd → J5 b = some o → upd J bd (.lst [.int k]) b = some o) := fun h b o nb hb => by rw [upd_ne nb]; exact h b o nb hb
  have kS : ∀ {J J' : Hp}, (∀ b o, b ≠ bd → J5 b = some o → J b = some o) → Same J J' → (∀ b o, b ≠ bd → J5 b = some o → J' b = some o) := fun h s b o nb hb => s b o (h b o nb hb)
  obtain ⟨r0, hr0⟩ : ∃ r0, rows[0]? = some r0 := ⟨_, List.getElem?_eq_getElem (by omega)⟩
  obtain ⟨rl, hrl⟩ : ∃ rl, rows[rows.length - 1]? = some rl := ⟨_, List.getElem?_eq_getElem (by omega)⟩
  have a0 : atI ((rNames rows).map V.str) 0 = some (.str r0.d.n) := by exact atI_lt (by decide) (show ((rNames rows).map V.str)[0]? = _ by unfold rNames; rw [List.getElem?_map, List.getElem?_map, hr0]; rfl)
  have al : atI ((rNames rows).map V.str) (-1) = some (.str rl.d.n) := atI_lastQ (by
    rw [List.getLast?_eq_getElem?]
    unfold rNames
    rw [List.length_map, List.length_map, List.getElem?_map, List.getElem?_map, hrl]
    rfl)
  -- the start
  refine ⟨_, rfl, ix3 eD5 a0 ⟨_, rfl, 1, rfl, ix3 eD5 al ⟨by show 3 ≤ sizeLine; decide, fun o1 ho1 => ?_⟩⟩⟩
  have u1 := Same.new (o := .lst [.str r0.d.n, .str rl.d.n, .non]) ho1
  have no1 : o1 ≠ bd := (ne_of_none ebd5 ho1).symm
  refine ⟨_, rfl, rfl, rfl, _, _, rfl, bd, n5, 3, rfl, u1 _ _ ebd5, rfl, by decide, by decide, fun ti n6 ti0 ti1 => ?_⟩
  have k6 := kU (k := n6) (kS (fun b o _ h => h) u1)
  have e1 : upd (upd J5 o1 (.lst [.str r0.d.n, .str rl.d.n, .non])) bd (.lst [.int n6]) o1 = some (.lst [.str r0.d.n, .str rl.d.n, .non]) := by rw [upd_ne no1, upd_same]
  have ebd6 : upd (upd J5 o1 (.lst [.str r0.d.n, .str rl.d.n, .non])) bd (.lst [.int n6]) bd = some (.lst [.int n6]) := upd_same
  generalize upd (upd J5 o1 (.lst [.str r0.d.n, .str rl.d.n, .non])) bd (.lst [.int n6]) = J6 at k6 e1 ebd6
  obtain ⟨z0, ez0, gz0⟩ : ∃ v, atI [V.str r0.d.n, .str rl.d.n, .non] ti = some v ∧ GdSt v (rNames rows) := by
    obtain ⟨it, rfl, hit⟩ := nat_of (n := 3) ti0 ti1
    match it, hit with
    | 0, _ => exact ⟨_, rfl, .inr ⟨_, rfl, nm_mem hr0⟩⟩
    | 1, _ => exact ⟨_, rfl, .inr ⟨_, rfl, nm_mem hrl⟩⟩
    | 2, _ => exact ⟨_, rfl, .inl rfl⟩
  refine ixX (.inl (.inl (.inl e1))) ez0 ?_
  have hD6 := k6 _ _ nbD.symm eD5
  show tSeq _ _ _ [some (.ref a), some (.ref dr), some (.int sp), some (.ref R), some (.ref bd), some (.ref D), _, some (.ref L), some (.ref T0), some z0, none, none, none] _
  refine ⟨fun σ J => ∃ z due, (∀ b o, b ≠ bd → J5 b = some o → J b = some o) ∧ (∃ n, J bd = some (.lst [.int n])) ∧ ((due = "" ∧ GdSt z (rNames rows)) ∨ (due = "start" ∧ BdSt K J z (rNames rows))) ∧ σ = [some (.ref a), some (.ref dr), some (.int sp), some (.ref R), some (.ref bd), some (.ref D), none, some (.ref L), some (.ref T0), some z, some (.str due), none, none], ?_, ?_⟩
  · refine ⟨_, rfl, _, _, rfl, rfl, div_small (by decide) (by decide), rfl, _, rfl, iteAB ?_ ⟨z0, "", k6, ⟨_, ebd6⟩, .inl ⟨rfl, gz0⟩, rfl⟩⟩
    refine ⟨_, rfl, ix3 hD6 a0 ⟨by show 1 ≤ sizeLine; decide, fun p1 hp1 => ?_⟩⟩
    have v1 := Same.new (o := .tup [.str r0.d.n]) hp1
    refine ⟨_, rfl, ix3 (v1 _ _ hD6) a0 ⟨by show 1 ≤ sizeLine; decide, fun p2 hp2 => fun p3 hp3 => ⟨by show 7 ≤ sizeLine; decide, fun p4 hp4 => ?_⟩⟩⟩
    have v2 := Same.new (o := .lst [.str r0.d.n]) hp2
    have v3 := Same.new (o := .dK []) hp3
    have v4 := Same.new (o := .lst [.str "zzzzzzzzz", .str "", .int 0, .bl true, .ref p1, .ref p2, .ref p3]) hp4
    have v14 := ((v1.trans v2).trans v3).trans v4
    have b1 := v4 _ _ (v3 _ _ (v2 _ _ (upd_same (H := J6) (a := p1) (o := .tup [.str r0.d.n]))))
    have b2 := v4 _ _ (v3 _ _ (upd_same (H := upd J6 p1 (.tup [.str r0.d.n])) (a := p2) (o := .lst [.str r0.d.n])))
    have b3 := v4 _ _ (upd_same (H := upd (upd J6 p1 (.tup [.str r0.d.n])) p2 (.lst [.str r0.d.n])) (a := p3) (o := .dK []))
    have b4 := upd_same (H := upd (upd (upd J6 p1 (.tup [.str r0.d.n])) p2 (.lst [.str r0.d.n])) p3 (.dK [])) (a := p4) (o := .lst [.str "zzzzzzzzz", .str "", .int 0, .bl true, .ref p1, .ref p2, .ref p3])
    have m1 : p1 ≠ bd := (ne_of_none ebd6 hp1).symm
    have m2 : p2 ≠ bd := (ne_of_none (v1 _ _ ebd6) hp2).symm
    have m3 : p3 ≠ bd := (ne_of_none (v2 _ _ (v1 _ _ ebd6)) hp3).symm
    have m4 : p4 ≠ bd := (ne_of_none (v3 _ _ (v2 _ _ (v1 _ _ ebd6))) hp4).symm
    generalize upd (upd (upd (upd J6 p1 (.tup [.str r0.d.n])) p2 (.lst [.str r0.d.n])) p3 (.dK [])) p4 (.lst [.str "zzzzzzzzz", .str "", .int 0, .bl true, .ref p1, .ref p2, .ref p3]) = J7 at v14 b1 b2 b3 b4
    refine ⟨_, rfl, rfl, rfl, _, _, rfl, bd, n6, 7, rfl, v14 _ _ ebd6, rfl, by decide, by decide, fun i n7 i0 i1 => ?_⟩
    have k7 := kU (k := n7) (kS k6 v14)
    have d1 : upd J7 bd (.lst [.int n7]) p1 = some (.tup [.str r0.d.n]) := by rw [upd_ne m1]; exact b1
    have d2 : upd J7 bd (.lst [.int n7]) p2 = some (.lst [.str r0.d.n]) := by rw [upd_ne m2]; exact b2
    have d3 : upd J7 bd (.lst [.int n7]) p3 = some (.dK []) := by rw [upd_ne m3]; exact b3
    have d4 : upd J7 bd (.lst [.int n7]) p4 = some (.lst [.str "zzzzzzzzz", .str "", .int 0, .bl true, .ref p1, .ref p2, .ref p3]) := by rw [upd_ne m4]; exact b4
    have nz : ∀ n ∈ rNames rows, n ≠ "zzzzzzzzz" ∧ n ≠ "" := fun n hn => by
      obtain ⟨r', hr', rfl⟩ := List.mem_map.mp hn
      have := (ok.pl r' hr').1
      refine ⟨fun e => ?_, fun e => ?_⟩
      · rw [e] at this
        exact absurd this (by decide +kernel)
      · rw [e] at this
        exact absurd this (by decide +kernel)
    have anyF : ∀ e : PyData, (∀ n ∈ rNames rows, mixEq (.str n) e = false) → ((rNames rows).any fun n => mixEq (.str n) e) = false := fun e h => List.any_eq_false.mpr fun n hn => by rw [h n hn]; decide
    obtain ⟨zv, ezv, bz⟩ : ∃ v, atI [V.str "zzzzzzzzz", .str "", .int 0, .bl true, .ref p1, .ref p2, .ref p3] i = some v ∧ BdSt K (upd J7 bd (.lst [.int n7])) v (rNames rows) := by
      obtain ⟨it, rfl, hit⟩ := nat_of (n := 7) i0 i1
      match it, hit with
      | 0, _ => exact ⟨_, rfl, (by intro e; cases e), .str "zzzzzzzzz", .dat (.str _) rfl (Nat.zero_le _), anyF _ fun n hn => by simpa [mixEq, PyData.eqv] using (nz n hn).1⟩
      | 1, _ => exact ⟨_, rfl, (by intro e; cases e), .str "", .dat (.str _) rfl (Nat.zero_le _), anyF _ fun n hn => by simpa [mixEq, PyData.eqv] using (nz n hn).2⟩
      | 2, _ => exact ⟨_, rfl, (by intro e; cases e), .int 0, .dat (.int _) rfl (Nat.zero_le _), anyF _ fun n hn => by simp [mixEq, PyData.eqv]⟩
      | 3, _ => exact ⟨_, rfl, (by intro e; cases e), .bool true, .dat (.bl _) rfl (Nat.zero_le _), anyF _ fun n hn => by simp [mixEq, PyData.eqv]⟩
      | 4, _ => exact ⟨_, rfl, (by intro e; cases e), .tuple [.str r0.d.n], .dat (.tup (.inl (.inl d1)) (.cons (.str _) .nil)) rfl (by simp [PyData.depth, PyData.depthAll]), anyF _ fun n hn => by simp [mixEq, PyData.eqv]⟩
      | 5, _ => exact ⟨_, rfl, (by intro e; cases e), .list [.str r0.d.n], .dat (.lst (.inl (.inl d2)) (.cons (.str _) .nil)) rfl (by simp [PyData.depth, PyData.depthAll]), anyF _ fun n hn => by simp [mixEq, PyData.eqv]⟩
      | 6, _ => exact ⟨_, rfl, (by intro e; cases e), .dict [], .dk d3, anyF _ fun n hn => by simp [mixEq]⟩
    exact ixX (.inl (.inl (.inl d4))) ezv ⟨zv, "start", k7, ⟨_, upd_same⟩, .inr ⟨rfl, bz⟩, rfl⟩
  rintro σ J8 ⟨z, due, k8, ⟨n8, ebd8⟩, hz, rfl⟩
  have hD8 := k8 _ _ nbD.symm eD5
  have kw : ∀ {J : Hp}, (∀ b o, b ≠ bd → J5 b = some o → J b = some o) → (∀ b o, b ≠ bd → b ≠ T0 → J5 b = some o → J b = some o) := fun h b o nb _ hb => h b o nb hb
  -- the nexts
  refine ⟨fun σ J => ∃ y due, (∀ b o, b ≠ bd → b ≠ T0 → J5 b = some o → J b = some o) ∧ (∃ n, J bd = some (.lst [.int n])) ∧ PgV K J (.ref L) y z (rNames rows) due ∧ Cp J y ∧ (due = "" → y = .ref T0) ∧ σ = [some (.ref a), some (.ref dr), some (.int sp), some (.ref R), some (.ref bd), some (.ref D), none, some (.ref L), some y, some z, some (.str due), none, none], ?_, ?_⟩
  · refine ⟨_, rfl, _, _, rfl, rfl, div_small (by decide) (by decide), _, _, rfl, rfl, (show (0 : Int) < 2 by decide), rfl, _, rfl, iteAB ?_ ?_⟩
    · refine ⟨_, rfl, _, rfl, _, rfl, rfl, rfl, _, _, _, rfl, bd, T0, D, n8, rows, rfl, ebd8, rfl, k8 _ _ (ne_of eT ebd5 (by intro e; cases e)) eT, rfl, hD8, nbD, ok, fun r hr => k8 _ _ (ne_of (h5.row r hr).2 ebd5 (by intro e; cases e)) (h5.row r hr).2, fun v J9 k9 eb9 bn cn => ?_⟩
      have k59 : ∀ b o, b ≠ bd → b ≠ T0 → J5 b = some o → J9 b = some o := fun b o nb nt hb => k9 b o nb nt (k8 b o nb hb)
      exact ⟨v, "nexts", k59, eb9, .nx (mk J9 k59) bn, cn, (fun h => absurd h (by decide)), rfl⟩
    · refine ⟨_, due, kw k8, ⟨_, ebd8⟩, ?_, .dK (k8 _ _ (ne_of eT ebd5 (by intro e; cases e)) eT) (lk_se rows) (lk_nd ok.nd), (fun _ => rfl), rfl⟩
      rcases hz with ⟨rfl, g⟩ | ⟨rfl, b⟩
      · exact .ok (mk J8 (kw k8)) (mkN J8 k8) g
      · exact .st (mk J8 (kw k8)) (mkN J8 k8) b
  rintro σ J9 ⟨y, due2, k9, ⟨n9, ebd9⟩, hv9, cy9, hy9, rfl⟩
  have hD9 := k9 _ _ nbD.symm nDT eD5
  -- the places
  refine ⟨fun σ J => ∃ x due, J D = some (.lst ((rNames rows).map V.str)) ∧ PgV K J x y z (rNames rows) due ∧ Cp J x ∧ Cp J y ∧ (due = "" → x = .ref L ∧ J L = some (.lst (as.map V.ref))) ∧ σ = [some (.ref a), some (.ref dr), some (.int sp), some (.ref R), some (.ref bd), some (.ref D), none, some x, some y, some z, some (.str due), none, none], ?_, ?_⟩
  · refine ⟨_, rfl, _, _, rfl, rfl, (show (0 : Int) < 2 by decide), rfl, _, rfl, iteAB ?_ ?_⟩
    · have hg := mk J9 k9
      refine ⟨_, rfl, _, rfl, rfl, rfl, _, _, rfl, bd, L, n9, (reA rows as).map fun r => (r.a, r.d), rfl, ebd9, rfl, ?_, fun z hz => ?_, ?_, ?_, nbL, fun v J10 k10 eb10 bp cp => ?_⟩
      · rw [List.map_map]
        show J9 L = some (.lst ((reA rows as).map fun r => .ref r.a))
        rw [reA_a la.symm]
        exact k9 _ _ nbL.symm nLT eL5
      · obtain ⟨r, hr, rfl⟩ := List.mem_map.mp hz
        obtain ⟨i, rr, g1, g2, e⟩ := reA_mem hr
        obtain ⟨dx, ex⟩ := (hpl i rr r.a g1 g2).same s6
        refine ⟨⟨dx, ?_⟩, ?_⟩
        · rw [e]
          exact k9 _ _ (ne_of ex ebd5 (by intro e; cases e)) (ne_of ex eT (by intro e; cases e)) ex
        · rw [e]
          exact (ok.pl rr (List.mem_of_getElem? g1)).1
      · rw [List.length_map]
        exact (ok.vw vre).l1
      · rw [List.length_map]
        exact (ok.vw vre).l6
      · have dw : Dw J9 J10 := ⟨fun b o no hb => by
          by_cases c : b = bd
          · subst c
            rw [ebd9] at hb
            injection hb with hb
            exact absurd hb.symm (no n9)
          · exact k10 b o c hb, fun b n hb => ?_⟩
        · exact ⟨v, "places", k10 _ _ nbD.symm hD9, .pl bp, cp, cy9.dw dw, (fun h => absurd h (by decide)), rfl⟩
        · by_cases c : b = bd
          · rw [c]
            exact eb10
          · exact ⟨n, k10 b _ c hb⟩
    · exact ⟨_, due2, hD9, hv9, cL J9 k9, cy9, (fun _ => ⟨rfl, k9 _ _ nbL.symm nLT eL5⟩), rfl⟩
  rintro σ J10 ⟨x, due3, hD10, hv, cx, cy, hx, rfl⟩
  -- what is kept
  refine ⟨_, rfl, rfl, rfl, _, rfl, cx, fun x' J11 s11 ex => ?_⟩
  refine ⟨_, rfl, rfl, rfl, _, rfl, cy.same s11, fun y' J12 s12 ey => ⟨by show 2 ≤ sizeLine; decide, fun kp hkp => ?_⟩⟩
  have sk := Same.new (o := .lst [x', y']) hkp
  have s1013 := (s11.trans s12).trans sk
  have ek : upd J12 kp (.lst [x', y']) kp = some (.lst [x', y']) := upd_same
  generalize upd J12 kp (.lst [x', y']) = J13 at sk s1013 ek
  have hv13 := hv.same s1013
  -- both ways
  have way : ∀ o J, Same J13 J → (due3 ≠ "" → J o = some (.tup [.str "refused", .str due3, .bl true, .bl false])) → (due3 = "" → ∃ A, J o = some (.tup [.str "made", .ref A]) ∧ J A = some (.lst ((rNames rows).map V.str))) → True := fun _ _ _ _ _ => trivial
  refine ⟨_, rfl, _, rfl, _, rfl, rfl, rfl, _, _, _, rfl, rNames rows, due3, hv13, fun c o J14 s14 eo => ?_, fun c o A J14 s14 eo eA => ?_⟩
  · refine ⟨_, rfl, _, rfl, ix3 (s14 _ _ ek) rfl ⟨30, true, by decide, ex _ ((s12.trans sk).trans s14), _, rfl, iteN (by decide) ?_⟩⟩
    refine ⟨_, rfl, _, rfl, ix3 (s14 _ _ ek) rfl ⟨30, true, by decide, ey _ (sk.trans s14), _, rfl, iteN (by decide) ?_⟩⟩
    refine ⟨_, rfl, rfl, _, rfl, iteY (by simpa using c) ?_⟩
    refine ⟨_, rfl, _, rfl, by show 4 ≤ sizeLine; decide, fun o2 ho2 => ⟨6, true, by decide, (eg_od ((Same.new ho2) _ _ eo) upd_same (fun v hv => ?_)).eq, q _⟩⟩
    simp only [List.mem_cons, List.not_mem_nil, or_false] at hv
    rcases hv with rfl | rfl | rfl | rfl
    · exact .inr (.inr (.inr (.inr ⟨_, rfl⟩)))
    · exact .inr (.inr (.inr (.inr ⟨_, rfl⟩)))
    · exact .inr (.inr (.inl ⟨_, rfl⟩))
    · exact .inr (.inr (.inl ⟨_, rfl⟩))
  · obtain ⟨rfl, hSL⟩ := hx c
    subst c
    refine ⟨_, rfl, _, rfl, ix3 (s14 _ _ ek) rfl ⟨30, true, by decide, ex _ ((s12.trans sk).trans s14), _, rfl, iteN (by decide) ?_⟩⟩
    refine ⟨_, rfl, _, rfl, ix3 (s14 _ _ ek) rfl ⟨30, true, by decide, ey _ (sk.trans s14), _, rfl, iteN (by decide) ?_⟩⟩
    refine ⟨_, rfl, rfl, _, rfl, iteN (by simp) ?_⟩
    have hD14 := s14 _ _ (s1013 _ _ hD10)
    refine ⟨_, rfl, _, rfl, by show 2 ≤ sizeLine; decide, fun o2 ho2 => ?_⟩
    have so2 := Same.new (o := .tup [.str "made", .ref D]) ho2
    refine ⟨6, true, by decide, (eg_made (so2 _ _ eo) upd_same (so2 _ _ eA) (so2 _ _ hD14)).ne, _, rfl, iteN (by decide) ?_⟩
    have s1315 := s14.trans so2
    have hSL15 := s1315 _ _ (s1013 _ _ hSL)
    refine ⟨_, rfl, L, _, rfl, .inl ⟨.inl (.inl hSL15), fun t ht => ?_⟩⟩
    have st := Same.new (o := .tup (as.map V.ref)) ht
    have hv15 := (hv13.same s1315).same st
    have hvt : PgV K (upd (upd J14 o2 (.tup [.str "made", .ref D])) t (.tup (as.map V.ref))) (.ref t) y z (rNames rows) "" := ?_
    · refine ⟨_, rfl, _, rfl, rfl, rfl, _, _, _, rfl, rNames rows, "", hvt, fun c => absurd rfl c, fun _ o3 A3 J16 s16 eo3 eA3 => ?_⟩
      have so := (so2.trans st).trans s16
      exact ⟨_, rfl, 6, true, by decide, (eg_made eo3 (so _ _ eo) eA3 (so _ _ eA)).eq, q _⟩
    · cases hv15 with
      | ok g n h =>
        obtain ⟨⟨a', ps, e, hS', hp', en⟩, l1', l6', nd'⟩ := g
        injection e with e
        subst e
        refine .ok ⟨⟨t, ps, rfl, .inr ?_, hp', en⟩, l1', l6', nd'⟩ n h
        rw [upd_same]
        have h9 := st _ _ hSL15
        rcases hS' with hS' | hS'
        · rw [h9] at hS'
          injection hS' with hS'
          injection hS' with hS'
          rw [hS']
        · rw [h9] at hS'
          cases hS'
end
end W

namespace W
open PySem PySem.Spec PyProof.Rows L2
theorem facts {P : Program} {w : World} {K : S.Frag} {h : Heap} {mg : Str → Option Value} {f : Addr} (X : K.In h) (G : h.Ns mainGlobals mg) (hfa : mg ("law" : Str) = some (.ref f)) (c : S.SaysX cks fns gts K) :
    ∃ fd : FuncData, (∀ (s : Shared) (v : Value), BindsTo s fd ⟨[v], []⟩ [("_law_script", v)]) ∧ ∀ base : Heap, FnOk P w K mg base (L2.CX P w) 6 f fd ["_law_script"] (spLaw K) := by
  have T : Txt K mg := txt_of X G c
  have e := hfa.symm.trans T.g_law
  cases e
  have b := FunD.bindsA (ps := ["_law_script"]) T.F_law fun _ _ _ _ _ _ us hl => match us, hl with | [_], _ => rfl
  exact ⟨_, fun s v => b s [v] rfl, fun base => ok_law T⟩
end W
open PySem PySem.W PySem.Calls PyProof.Rows
set_option maxRecDepth 100000 in
set_option maxHeartbeats 0 in
theorem PySem.Challenge.cw_seenshares_k07_program_refusals_holds : PySem.Challenge.rw_seenshares_k07_program_refusals.Holds := by
  w_on; o_law
  refine HandSHeadRun.head_any (r := OpenLaw.row PySem.Challenge.rw_seenshares_k07_program_refusals) (q := view (OpenLaw.row PySem.Challenge.rw_seenshares_k07_program_refusals).prog [32]) (H := _root_.W.hk) (ob := _root_.W.ob) (M := 9000)
    (loose := _root_.W.lo) (d := HandSHeadRun.topDef (OpenLaw.row PySem.Challenge.rw_seenshares_k07_program_refusals).prog 32) (kwd := []) _root_.W.ob_eq (by kernel_rfl) (fun s => by kernel_rfl) _root_.W.run
    (by kernel_rfl) (by kernel_rfl) (by kernel_rfl) (by rfl) (by first | assumption | decide +kernel) (by decide +kernel) ⟨rfl, rfl, rfl, rfl, rfl, by decide +kernel⟩ ?hw ?hc
  case hw => w_witness2
  case hc =>
    refine _root_.S.walk_X (l := PySem.Challenge.rw_seenshares_k07_program_refusals) (n := 63) (k := 6) (x := "_law_script") rfl (by decide) (by kernel_rfl) ⟨rfl, by decide, by decide⟩ ?F
    intro w mg fa h Y G hmg0
    obtain ⟨K, KX, c⟩ := Y
    have hmg : mg ("law" : PySem.Str) = some (.ref fa) := by
      have e : (HandSHeadRun.topDef (OpenLaw.row PySem.Challenge.rw_seenshares_k07_program_refusals).prog 32).name = ("law" : PySem.Str) := by kernel_rfl
      rw [← e]; exact hmg0
    obtain ⟨fd, hb, hF⟩ := _root_.W.facts (P := (PySem.Challenge.rw_seenshares_k07_program_refusals).prog) (w := w) KX G hmg c
    exact ⟨K, fd, _root_.W.spLaw K, KX, hb, fun H a ns hl hbits _ hS => ⟨_, rfl, a, ns, rfl, hS, hl, fun _ => rfl⟩, fun base _ _ => hF base⟩

