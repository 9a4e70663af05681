import PyProof.Rows.All
import Wide.All
import OpenK.AllK
import Wide.FinOn
import KE.KStateDown
import Lean
import HandS.Base
import HandS.Call
import HandS.List
import HandS.Comp
import HandS.Ends
import HandS.Dict
import HandS.Iter
import HandS.Text
import HandS.More
import HandS.Exc
import HandS.FStr
import KE.KCallOwn
import KE.KOpsOwn
import HandS.ExcOwn
import HandS.TryOnly
import HandS.Words
import HandS.WordsList
import HandS.WordsDict
import HandS.WordsExc
import HandS.Defaults
import HandS.MakeKw
import HandS.IsInst
import HandS.Wide
import HandS.ExcInit
import HandS.ExcField
import HandS.ExcIs
import HandS.SlotsOwn
import HandS.NamedTupSort
import HandS.OwnEq
import HandS.EndBits
import HandS.Head0
import HandS.Head1
import HandS.Head2
import HandS.HeadEnd
import HandS.HeadHook1
import HandS.HeadHook2
import HandS.DictComp
import HandS.Property
import HandS.Deep
import HandS.Walk
import HandS.TupAny
import KE.KEqDict
import KE.DataEq
import KE.LtData
import HandS.Conv
import KE.KDictKeyed
import HandS.GenList
import HandS.GenYield
import HandS.Style
import HandS.Star
import KE.GoesEnumKw
import HandS.HotCalls
import KE.KEqNest
import HandS.RaiseMore
import KE.DataFind
import HandS.ListItems
import PySem.Challenge.RW_seenshares_k27_counts_operators
set_option Elab.async false
set_option linter.all false
set_option maxRecDepth 100000
set_option maxHeartbeats 4000000
namespace S
open PySem PySem.Spec PyProof.Rows L2
/-! the head's facts as plain Bools over the written part -/
abbrev Frag := PySem.W.Frag
abbrev Ck := Frag → Bool
/-- the function behind a property -/
def gA (K : Frag) (p : Str × Option Str) : Addr := match PySem.W.recIn K (He.fAd K p) "property" with
  | some (.ref g :: _) => g
  | _ => 0
def gnW (K : Frag) (p : Str × Option Str) : He.FnW := match K.lookup (gA K p) with
  | some ⟨_, _, .func fd, _⟩ => some (fd.name, fd.qualname, fd.params, fd.body, fd.scope, fd.globals, fd.closure, fd.builtins)
  | _ => none
def gok (K : Frag) (d : He.DefD) : Bool := PySem.W.keepIn K (.ref (gA K d.at_)) && (match K.lookup (gA K d.at_) with
  | some ⟨_, _, .func fd, _⟩ => PySem.W.codeIn K fd.code d.qual && (He.dflB K fd.defaults (d.dvs K) && He.kwdB K fd.kwdefaults (d.kws K))
  | _ => false)
theorem funG {K : Frag} {d : He.DefD} (e : gnW K d.at_ = d.val) (c : gok K d = true) : ∃ fd, FunD K d.name d.qual d.params d.body d.scope (d.dvs K) (d.kws K) (gA K d.at_) fd := by
  obtain ⟨kp, c2⟩ := He.ba c
  unfold gnW at e
  cases q : K.lookup (gA K d.at_) with
  | none => rw [q] at c2; cases c2
  | some o =>
    obtain ⟨o1, o2, o3, o4⟩ := o
    rw [q] at c2 e
    cases o3 with
    | func fd =>
      obtain ⟨x1, x2, x3, x4, x5, x6, x7, x8, x9, x10, x11, x12, x13, x14, x15⟩ := fd
      have e2 : (some (x1, x2, x3, x4, x5, x6, x7, x15) : He.FnW) = some (d.name, d.qual, d.params, .stmts d.body, d.scope, mainGlobals, [], builtinsNs) := e
      simp only [Option.some.injEq, Prod.mk.injEq] at e2
      obtain ⟨y1, y2, y3, y4, y5, y6, y7, y8⟩ := e2
      subst y1 y2 y3 y4 y5 y6 y7 y8
      have c3 : (PySem.W.codeIn K x13 d.qual && (He.dflB K x8 (d.dvs K) && He.kwdB K x9 (d.kws K))) = true := c2
      obtain ⟨k1, k2⟩ := He.ba c3
      obtain ⟨k3, k4⟩ := He.ba k2
      exact ⟨_, ⟨o1, o2, x8, x9, x10, x11, x12, x13, x14, o4, rfl, q, k1, He.dflB_ok k3, He.kwdB_ok k4⟩, kp⟩
    | _ => cases c2
def obsX (ck : List Ck) (fn gt : List He.DefD) (K : Frag) : He.AlD :=
  (ck.all (fun c => c K) && (fn.all (fun d => d.ok K) && gt.all (fun d => gok K d)), fn.map (fun d => He.fnW K d.at_) ++ gt.map (fun d => gnW K d.at_))
def valX (fn gt : List He.DefD) : He.AlD := (true, fn.map He.DefD.val ++ gt.map He.DefD.val)
def obsXG (n : Nat) (ck : List Ck) (fn gt : List He.DefD) (g : Addr → Option Obj) : He.AlD :=
  obsX ck fn gt (He.frG g (He.asD g n))
def SaysX (ck : List Ck) (fn gt : List He.DefD) (K : Frag) : Prop := obsX ck fn gt K = valX fn gt
def hookX (n : Nat) (ck : List Ck) (fn gt : List He.DefD) : PySem.W.Hook where
  α := He.AlD
  obs := fun s => obsXG n ck fn gt s.heap.get?
  val := fun _ => valX fn gt
  says := fun _ h => ∃ K : Frag, K.In h ∧ SaysX ck fn gt K
  of := fun _ _ e => ⟨_, He.frG_in, e⟩
  keeps := fun _ _ _ ⟨K, hK, c⟩ k => ⟨K, PySem.W.Frag.In.keeps hK k, c⟩
theorem obsXG_eq {n : Nat} {ck : List Ck} {fn gt : List He.DefD} {g : Addr → Option Obj} {s : Shared}
    (h : ∀ a, g a = s.heap.get? a) : obsXG n ck fn gt g = (hookX n ck fn gt).obs s := by
  have e : g = s.heap.get? := funext h
  subst e
  exact rfl
theorem SaysX.bools {ck : List Ck} {fn gt : List He.DefD} {K : Frag} (c : SaysX ck fn gt K) :
    (ck.all (fun c => c K) && (fn.all (fun d => d.ok K) && gt.all (fun d => gok K d))) = true := congrArg Prod.fst c
theorem SaysX.fact {ck : List Ck} {fn gt : List He.DefD} {K : Frag} (c : SaysX ck fn gt K) (i : Nat) {f : Ck}
    (h : ck[i]? = some f := by rfl) : f K = true :=
  List.all_eq_true.mp (He.ba c.bools).1 f (List.mem_of_getElem? h)
/-- the function object that stands there -/
def fdOf (K : Frag) (a : Addr) : FuncData := match K.lookup a with
  | some ⟨_, _, .func fd, _⟩ => fd
  | _ => PySem.W.fnOf "" "" ⟨[], [], none, [], [], none, []⟩ [] ⟨.function, [], false, false, []⟩ .none .none .none .none none .none .none
def fdA (K : Frag) (p : Str × Option Str) : FuncData := fdOf K (He.fAd K p)
def gdA (K : Frag) (p : Str × Option Str) : FuncData := fdOf K (gA K p)
abbrev FunA (K : Frag) (d : He.DefD) : Prop :=
  FunD K d.name d.qual d.params d.body d.scope (d.dvs K) (d.kws K) (He.fAd K d.at_) (fdA K d.at_)
abbrev FunG (K : Frag) (d : He.DefD) : Prop :=
  FunD K d.name d.qual d.params d.body d.scope (d.dvs K) (d.kws K) (gA K d.at_) (gdA K d.at_)
theorem SaysX.def_ {ck : List Ck} {fn gt : List He.DefD} {K : Frag} (c : SaysX ck fn gt K) (i : Nat) {d : He.DefD}
    (h : fn[i]? = some d := by rfl) : FunA K d := by
  have e : fn.map (fun d => He.fnW K d.at_) ++ gt.map (fun d => gnW K d.at_) = fn.map He.DefD.val ++ gt.map He.DefD.val := congrArg Prod.snd c
  have e1 := (List.append_inj e (by rw [List.length_map, List.length_map])).1
  have e2 := congrArg (fun l => l[i]?) e1
  simp only [List.getElem?_map, h, Option.map_some, Option.some.injEq] at e2
  obtain ⟨fd, F⟩ := He.DefD.funD e2 (List.all_eq_true.mp (He.ba (He.ba c.bools).2).1 d (List.mem_of_getElem? h))
  have q : fdA K d.at_ = fd := by
    obtain ⟨oc, od, dV, kV, doc, pm, an, cdv, ct, osl, r, lk, _⟩ := F.ex
    unfold fdA fdOf
    rw [lk]
  unfold FunA
  rw [q]
  exact F
theorem SaysX.get_ {ck : List Ck} {fn gt : List He.DefD} {K : Frag} (c : SaysX ck fn gt K) (i : Nat) {d : He.DefD}
    (h : gt[i]? = some d := by rfl) : FunG K d := by
  have e : fn.map (fun d => He.fnW K d.at_) ++ gt.map (fun d => gnW K d.at_) = fn.map He.DefD.val ++ gt.map He.DefD.val := congrArg Prod.snd c
  have e1 := (List.append_inj e (by rw [List.length_map, List.length_map])).2
  have e2 := congrArg (fun l => l[i]?) e1
  simp only [List.getElem?_map, h, Option.map_some, Option.some.injEq] at e2
  obtain ⟨fd, F⟩ := funG e2 (List.all_eq_true.mp (He.ba (He.ba c.bools).2).2 d (List.mem_of_getElem? h))
  have q : gdA K d.at_ = fd := by
    obtain ⟨oc, od, dV, kV, doc, pm, an, cdv, ct, osl, r, lk, _⟩ := F.ex
    unfold gdA fdOf
    rw [lk]
  unfold FunG
  rw [q]
  exact F
/-- a property of a class -/
def proB (K : Frag) (C : Addr) (f : Str) : Bool := He.eqO (PySem.W.findIn K (.ref C) f) (some (some (.ref (He.ma K C f)))) &&
  (He.eqO (PySem.W.specialIn K (.ref (He.ma K C f)) "__get__") (some (some (.builtin "property.__get__"))) &&
  (decide (PySem.W.takesIn K (.ref (He.ma K C f)) = some true) && (match PySem.W.recIn K (He.ma K C f) "property" with | some (.ref _ :: _) => true | _ => false)))
theorem proB_ok {K : Frag} {x f : Str} (q : proB K (He.ga K x) f = true) : PropOf K (He.ga K x) f (He.ma K (He.ga K x) f) (gA K (x, some f)) := by
  obtain ⟨a, q⟩ := He.ba q
  obtain ⟨b, q⟩ := He.ba q
  obtain ⟨c, d⟩ := He.ba q
  refine ⟨He.eqO_ok a, He.eqO_ok b, of_decide_eq_true c, ?_⟩
  show ∃ rest, PySem.W.recIn K (He.ma K (He.ga K x) f) "property" = some (.ref (gA K (x, some f)) :: rest)
  have e : gA K (x, some f) = (match PySem.W.recIn K (He.ma K (He.ga K x) f) "property" with
    | some (.ref g :: _) => g
    | _ => 0) := rfl
  rw [e]
  split at d
  · rename_i g r h
    rw [h]
    exact ⟨r, rfl⟩
  · cases d
/-! own exception classes, over ValueError at any depth -/
def oexO (K : Frag) (C : Addr) : Bool := (match K.lookup C with
  | some ⟨.type "type", _, .cls cd, sl⟩ => (match cd.mro, sl.toList with
    | .ref C' :: bm, [_, _, _, _, some (.builtin n), _] =>
      C' == C && (n == "ValueError.__new__" && (!cd.hasDel && (cd.hasDict && PySem.HandSPX.refsVE bm)))
    | _, _ => false)
  | _ => false)
theorem oexO_ok {K : Frag} {C : Addr} (q : oexO K C = true) :
    ∃ nm qn N bs bm sn sub ab col dd k0 k1 k2 k3 k5, K.lookup C = some (excClassObj nm qn C N bs bm true sn sub ab col dd k0 k1 k2 k3 k5 "ValueError.__new__") ∧ PySem.HandSPX.refsVE bm = true := by
  unfold oexO at q
  split at q
  · rename_i dd cd sl ho
    split at q
    · rename_i c1 bm k0 k1 k2 k3 n k5 hm hs
      simp only [Bool.and_eq_true, beq_iff_eq, Bool.not_eq_true'] at q
      obtain ⟨e1, e2, e3, e4, e5⟩ := q
      subst e1 e2
      obtain ⟨nm, bs, mro, ns, qn, hd, sn, sub, ab, col, dl⟩ := cd
      simp only at hm e3 e4
      subst hm e3 e4
      obtain ⟨l⟩ := sl
      simp only at hs
      subst hs
      exact ⟨nm, qn, ns, bs, bm, sn, sub, ab, col, dd, k0, k1, k2, k3, k5, ho, e5⟩
    · cases q
  · cases q
def oexB (K : Frag) (C : Addr) : Bool := oexO K C && (He.eqO (PySem.W.findIn K (.ref C) "__setattr__") (some (some (.builtin "object.__setattr__"))) &&
  (decide (PySem.W.subIn K (.ref C) (.type "BaseException") = some true) && (decide (PySem.W.typeIn K (.ref C) = some (.type "type")) && PySem.W.keepIn K (.ref C))))
theorem oexB_ok {K : Frag} {C : Addr} (q : oexB K C = true) : OexC K C := by
  obtain ⟨a, q⟩ := He.ba q
  obtain ⟨b, q⟩ := He.ba q
  obtain ⟨c, q⟩ := He.ba q
  obtain ⟨d, e⟩ := He.ba q
  exact ⟨oexO_ok a, He.eqO_ok b, of_decide_eq_true c, of_decide_eq_true d, e⟩
def excB (K : Frag) (D : Addr) : Bool := xfB K D && (He.eqO (PySem.W.findIn K (.ref D) "__class__") (some (some (.builtin "object.__class__"))) &&
  (He.eqO (PySem.W.specialIn K (.builtin "object.__class__") "__get__") (some (some (.builtin "getset_descriptor.__get__"))) &&
  (decide (PySem.W.takesIn K (.builtin "object.__class__") = some true) && decide (PySem.W.mroIn K D (.type "object") = some true))))
theorem excB_ok {K : Frag} {D : Addr} (q : excB K D = true) : ExcC K D := by
  obtain ⟨a, q⟩ := He.ba q
  obtain ⟨b, q⟩ := He.ba q
  obtain ⟨c, q⟩ := He.ba q
  obtain ⟨d, e⟩ := He.ba q
  have x := xfB_ok a
  exact ⟨x.ga, x.gg, x.exC, x.hdC, He.eqO_ok b, He.eqO_ok c, of_decide_eq_true d, of_decide_eq_true e⟩
end S
namespace S
open PySem PySem.Spec PyProof.Rows L2
/-! promises by their number of arguments -/
def Sp1 (f : V → Hp → VK → XK → Prop) : Sp := fun vs H Q E => ∃ x, vs = [x] ∧ f x H Q E
def Sp2 (f : V → V → Hp → VK → XK → Prop) : Sp := fun vs H Q E => ∃ x y, vs = [x, y] ∧ f x y H Q E
def Sp3 (f : V → V → V → Hp → VK → XK → Prop) : Sp := fun vs H Q E => ∃ x y z, vs = [x, y, z] ∧ f x y z H Q E
def Sp4 (f : V → V → V → V → Hp → VK → XK → Prop) : Sp := fun vs H Q E => ∃ x y z u, vs = [x, y, z, u] ∧ f x y z u H Q E
def Sp5 (f : V → V → V → V → V → Hp → VK → XK → Prop) : Sp := fun vs H Q E => ∃ x y z u v, vs = [x, y, z, u, v] ∧ f x y z u v H Q E
section
variable {vs : List V} {H : Hp} {Q : VK} {E : XK}
theorem splen1 {f} (h : Sp1 f vs H Q E) : vs.length = 1 := by obtain ⟨_, rfl, _⟩ := h; rfl
theorem splen2 {f} (h : Sp2 f vs H Q E) : vs.length = 2 := by obtain ⟨_, _, rfl, _⟩ := h; rfl
theorem splen3 {f} (h : Sp3 f vs H Q E) : vs.length = 3 := by obtain ⟨_, _, _, rfl, _⟩ := h; rfl
theorem splen4 {f} (h : Sp4 f vs H Q E) : vs.length = 4 := by obtain ⟨_, _, _, _, rfl, _⟩ := h; rfl
theorem splen5 {f} (h : Sp5 f vs H Q E) : vs.length = 5 := by obtain ⟨_, _, _, _, _, rfl, _⟩ := h; rfl
end
/-! built-ins by name -/
theorem boot_int : bootBuiltins "int" = some (.type "int") := by decide +kernel
theorem boot_bool : bootBuiltins "bool" = some (.type "bool") := by decide +kernel
theorem boot_str : bootBuiltins "str" = some (.type "str") := by decide +kernel
theorem boot_list : bootBuiltins "list" = some (.type "list") := by decide +kernel
theorem boot_tuple : bootBuiltins "tuple" = some (.type "tuple") := by decide +kernel
theorem boot_dict : bootBuiltins "dict" = some (.type "dict") := by decide +kernel
theorem boot_len : bootBuiltins "len" = some (.builtin "len") := by decide +kernel
theorem boot_abs : bootBuiltins "abs" = some (.builtin "abs") := by decide +kernel
theorem boot_isinstance : bootBuiltins "isinstance" = some (.builtin "isinstance") := by decide +kernel
section
variable {X : Cx} {CX : CXT} {k n : Nat} {f C : Addr} {fd : FuncData} {ps ks : List Str} {sp : Sp} {E : L2.St → XK} {x m : Str} {p pos apos : Pos} {o e : Expr} {es : List Expr} {kws : List Keyword} {ta : TE} {t tk : TA} {g : List Value → List Value → List Value} {gV : List V → List V → List V}
theorem pe_globI {i : Int} (hg : Gl X x) (h : ∃ t, X.mg x = some (.int i t)) (hd : (x == ("__debug__" : Str)) = false := by decide) : PE X (.Name x pos) (tC (.int i)) := by
  obtain ⟨t, h⟩ := h
  exact pe_glob hg h ⟨t, rfl⟩ hd
theorem pe_globS {z : Str} (hg : Gl X x) (h : ∃ t, X.mg x = some (.str z t)) (hd : (x == ("__debug__" : Str)) = false := by decide) : PE X (.Name x pos) (tC (.str z)) := by
  obtain ⟨t, h⟩ := h
  exact pe_glob hg h ⟨t, rfl⟩ hd
/-! what is raised, wished for at the slots -/
theorem pas0 {X : Cx} : ∀ σ : L2.St, PassesAt (L2.CX X.prog X.w) X σ E0 := fun σ pins H s e s' I c => passL pins σ H s e s' I c
theorem pasE {X : Cx} {W : WX} (tk : Takes X W) : ∀ σ : L2.St, PassesAt (L2.CX X.prog X.w) X σ (fun cls d H => W cls d σ H) := fun σ => passAt tk σ
theorem own_of {K : Value → Shared → Prop} {E1 : Value → Shared → Prop} (hx : X.xe = fun e s' => wpAny (model X.prog X.w) X.A (leaving X.env e) (fun _ s2 => K e s2) E1 s') : PassesOwn (model X.prog X.w) X.A X.env X.xe := passes_of hx
theorem kb_of_binds {K : Frag} {ds : List Value} {dvs : List V} (hb : Binds K fd ps ds) (hd : Vals dvs ds) (hl : n + dvs.length = ps.length) : KBn K fd ps n [] (fun us _ => us ++ ds) (fun vs _ => vs ++ dvs) where
  to := fun s us ws k l1 l2 => by
    have e : ([] : List Str).zip ws = [] := rfl
    rw [e]
    exact hb s us k (by rw [List.length_append, l1, ← hd.length]; exact hl)
  rel := fun r _ => r.append hd
/-! f(e, .., k = v, ..); C(e, .., k = v, ..); o.m(e, .., k = v, ..) -/
def tFnS (n m : Nat) (sp : Sp) (gV : List V → List V → List V) (E : L2.St → XK) (t tk : TA) : TE := fun σ H Q =>
  t σ H fun vs H1 => tk σ H1 fun zs H2 => vs.length = n ∧ zs.length = m ∧ sp (gV vs zs) H2 Q (E σ)
def tMkS (C : Addr) (n m : Nat) (sp : Sp) (gV : List V → List V → List V) (E : L2.St → XK) (t tk : TA) : TE := fun σ H Q =>
  t σ H fun vs H1 => tk σ H1 fun zs H2 => vs.length = n ∧ zs.length = m ∧ ∀ x dx, H2 x = none → H2 dx = none → dx ≠ x →
    sp (gV (.ref x :: vs) zs) (upd (upd H2 dx (.own x)) x (.ins C dx [])) (fun v H3 => v = .non ∧ Q (.ref x) H3) (E σ)
def tMtS (C : Addr) (m : Str) (n l : Nat) (sp : Sp) (gV : List V → List V → List V) (E : L2.St → XK) (ta : TE) (t tk : TA) : TE := fun σ H Q =>
  ta σ H fun x H1 => ∃ a dx fs, x = .ref a ∧ H1 a = some (.ins C dx fs) ∧ fs.lookup m = none ∧
    t σ H1 fun vs H2 => tk σ H2 fun zs H3 => vs.length = n ∧ zs.length = l ∧ sp (gV (x :: vs) zs) H3 Q (E σ)
section
variable {pins : List (Addr × Obj)} {σ : L2.St} {H : Hp} {s : Shared} {Q : VK} {us ws : List Value} {vs zs : List V}
theorem run_S (F : FnOk X.prog X.w X.K X.mg X.base CX k f fd ps sp) (hr : Room k X.A) (hb : KBn X.K fd ps n ks g gV) (hx : PassesAt CX X σ (E σ)) (I : Inv X pins σ H s) (r : Vals vs us) (rz : Vals zs ws)
    (l1 : vs.length = n) (l2 : zs.length = ks.length) (h : sp (gV vs zs) H Q (E σ)) : wpAny (model X.prog X.w) X.A (call (.ref f) us (ks.zip ws)) (EP X pins σ Q) X.xe s := by
  have a1 : us.length = n := r.length.symm.trans l1
  have a2 : ws.length = ks.length := rz.length.symm.trans l2
  refine wpAny_call (codeAny_mono (F.run X.A X.stack s H ⟨us, ks.zip ws⟩ (g us ws) (gV vs zs) Q (E σ) hr I.env0 (hb.to s us ws I.kIn a1 a2) (hb.rel r rz) h) fun r s' hq => ?_)
  match r, hq with
  | .error e, hq => exact hx pins H s e s' I hq
  | .ok (.ret u), hq => exact I.after hq
  | .ok .next, hq => exact hq.elim
  | .ok .brk, hq => exact hq.elim
  | .ok .cont, hq => exact hq.elim
theorem run_mkS (M : Mk X.K C f) (F : FnOk X.prog X.w X.K X.mg X.base CX k f fd ps sp) (hr : Room (k + 1) X.A) (hb : KBn X.K fd ps (n + 1) ks g gV) (hx : PassesAt CX X σ (E σ)) (I : Inv X pins σ H s) (r : Vals vs us) (rz : Vals zs ws)
    (l1 : vs.length = n) (l2 : zs.length = ks.length) (h : ∀ x dx, H x = none → H dx = none → dx ≠ x → sp (gV (.ref x :: vs) zs) (upd (upd H dx (.own x)) x (.ins C dx [])) (fun v H2 => v = .non ∧ Q (.ref x) H2) (E σ)) :
    wpAny (model X.prog X.w) X.A (call (.ref C) us (ks.zip ws)) (EP X pins σ Q) X.xe s := by
  have hq := h (s.heap.objs.size + 1) s.heap.objs.size (I.hok.fresh (Nat.le_succ _)) (I.hok.fresh (Nat.le_refl _)) (Nat.ne_of_lt (Nat.lt_succ_self _))
  have J := Inv.made (C := C) I
  have r1 : Vals (V.ref (s.heap.objs.size + 1) :: vs) (Value.ref (s.heap.objs.size + 1) :: us) := .cons rfl r
  have a1 : (Value.ref (s.heap.objs.size + 1) :: us).length = n + 1 := by rw [← r1.length]; exact congrArg Nat.succ l1
  have a2 : ws.length = ks.length := rz.length.symm.trans l2
  have run := F.run _ X.stack _ _ ⟨Value.ref (s.heap.objs.size + 1) :: us, ks.zip ws⟩ (g (Value.ref (s.heap.objs.size + 1) :: us) ws) _ _ (E σ) (hr.make C us (ks.zip ws)) (J.env0.make C us (ks.zip ws)) (hb.to _ _ ws J.kIn a1 a2) (hb.rel r1 rz) hq
  refine wpAny_call (make_map (f := f) I.kIn M.makes M.init (beq_iff_eq.mp M.fn) (codeAny_mono run fun r s' hq2 => ?_))
  match r, hq2 with
  | .error e, hq2 => exact hx pins _ _ e s' J hq2
  | .ok (.ret u), hq2 =>
    obtain ⟨v, H2, J2, rv, ev, q3⟩ := J.after hq2
    subst ev
    exact ⟨rv, ⟨V.ref (s.heap.objs.size + 1), H2, J2, rfl, q3⟩⟩
  | .ok .next, hq2 => exact hq2.elim
  | .ok .brk, hq2 => exact hq2.elim
  | .ok .cont, hq2 => exact hq2.elim
end
theorem pe_fnS (F : FnOk X.prog X.w X.K X.mg X.base CX k f fd ps sp) (hr : Room k X.A) (hg : Gl X x) (hm : X.mg x = some (.ref f)) (hk : PySem.W.keepIn X.K (.ref f) = true) (hb : KBn X.K fd ps n ks g gV) (hx : ∀ σ, PassesAt CX X σ (E σ))
    (ha : PA X (e :: es) t) (hkw : PK X kws tk) (hall : (backToKw pos (keywordEach kws X.env)).all (·.1.isSome) = true) (hks : (backToKw pos (keywordEach kws X.env)).filterMap (·.1) = ks)
    (hdb : (x == ("__debug__" : Str)) = false := by decide) (he : starEach (e :: es) X.env = (false, eval e X.env) :: starEach es X.env := by rfl)
    (hpl : ((backTo pos (starEach (e :: es) X.env)).any (·.1) || (backToKw pos (keywordEach kws X.env)).any (·.1.isNone)) = false := by rfl) :
    PE X (.Call (.Name x p) (e :: es) kws pos) (tFnS n ks.length sp gV E t tk) := ⟨fun pins s σ H Q I h =>
  wpAny_Call_Name_kw (ld_glob I hg hm (PySem.W.callWith_KW (h₀ := X.base) I.ok.mod.kin hk hall (thn (ha.run pos pins s σ H _ I h) fun us s1 ⟨vs, H1, I1, r, q⟩ =>
    thn (hkw.run pos pins s1 σ H1 _ I1 q) fun ws s2 ⟨zs, H2, I2, rz, l1, l2, q2⟩ => ⟨I2.kIn, by rw [hks]; exact run_S F hr hb (hx σ) I2 r rz l1 l2 q2⟩) hpl he) hdb)⟩
theorem pe_mkS (M : Mk X.K C f) (F : FnOk X.prog X.w X.K X.mg X.base CX k f fd ps sp) (hr : Room (k + 1) X.A) (hg : Gl X x) (hm : X.mg x = some (.ref C)) (hb : KBn X.K fd ps (n + 1) ks g gV) (hx : ∀ σ, PassesAt CX X σ (E σ))
    (ha : PA X (e :: es) t) (hkw : PK X kws tk) (hall : (backToKw pos (keywordEach kws X.env)).all (·.1.isSome) = true) (hks : (backToKw pos (keywordEach kws X.env)).filterMap (·.1) = ks)
    (hdb : (x == ("__debug__" : Str)) = false := by decide) (he : starEach (e :: es) X.env = (false, eval e X.env) :: starEach es X.env := by rfl)
    (hpl : ((backTo pos (starEach (e :: es) X.env)).any (·.1) || (backToKw pos (keywordEach kws X.env)).any (·.1.isNone)) = false := by rfl) :
    PE X (.Call (.Name x p) (e :: es) kws pos) (tMkS C n ks.length sp gV E t tk) := ⟨fun pins s σ H Q I h =>
  wpAny_Call_Name_kw (ld_glob I hg hm (PySem.W.callWith_KW (h₀ := X.base) I.ok.mod.kin M.kp hall (thn (ha.run pos pins s σ H _ I h) fun us s1 ⟨vs, H1, I1, r, q⟩ =>
    thn (hkw.run pos pins s1 σ H1 _ I1 q) fun ws s2 ⟨zs, H2, I2, rz, l1, l2, q2⟩ => ⟨I2.kIn, by rw [hks]; exact run_mkS M F hr hb (hx σ) I2 r rz l1 l2 q2⟩) hpl he) hdb)⟩
theorem pe_mtS {pl : Sem Bool} (he : PE X o ta) (c : Cls X.K C) (hm : Meth X.K C m f) (F : FnOk X.prog X.w X.K X.mg X.base CX k f fd ps sp) (hr : Room k X.A) (hb : KBn X.K fd ps (n + 1) ks g gV) (hx : ∀ σ, PassesAt CX X σ (E σ))
    (ha : PA X (e :: es) t) (hkw : PK X kws tk) (hall : (backToKw pos (keywordEach kws X.env)).all (·.1.isSome) = true) (hks : (backToKw pos (keywordEach kws X.env)).filterMap (·.1) = ks)
    (hst : starEach (e :: es) X.env = (false, eval e X.env) :: starEach es X.env := by rfl)
    (hpl : ((backTo pos (starEach (e :: es) X.env)).any (·.1) || (backToKw pos (keywordEach kws X.env)).any (·.1.isNone)) = false := by rfl)
    (ht : eval (.Call (.Attribute o m apos) (e :: es) kws pos) X.env = (do
      let ov ← eval o X.env
      standAt apos.atName
      let (f, first) ← holding [ov] (getMethod ov m pl)
      callWith pos f first (backTo pos (starEach (e :: es) X.env)) (backToKw pos (keywordEach kws X.env))) := by rfl) :
    PE X (.Call (.Attribute o m apos) (e :: es) kws pos) (tMtS C m n ks.length sp gV E ta t tk) := by
  refine ⟨fun pins s σ H Q I h => PySem.W.methodCall_KW (pl := pl) (thn (he.run pins s σ H _ I h) fun u s1 ⟨x, H1, I1, rx, a, dx, fs, ex, ea, l, q⟩ => ?_) ht⟩
  subst ex
  cases (show u = Value.ref a from rx)
  refine getmeth_ok I1 ea c hm l (PySem.W.callWith_KW (first := [.ref a]) (h₀ := X.base) I.ok.mod.kin hm.kp hall (thn (ha.run pos pins s1 σ H1 _ I1 q) fun us s2 ⟨vs, H2, I2, r, q2⟩ =>
    thn (hkw.run pos pins s2 σ H2 _ I2 q2) fun ws s3 ⟨zs, H3, I3, rz, l1, l2, q3⟩ => ⟨I3.kIn, ?_⟩) hpl hst)
  rw [hks]
  exact run_S (us := .ref a :: us) (vs := .ref a :: vs) F hr hb (hx σ) I3 (.cons rfl r) rz (congrArg Nat.succ l1) l2 q3
theorem pe_mtS0 {pl : Sem Bool} (he : PE X o ta) (c : Cls X.K C) (hm : Meth X.K C m f) (F : FnOk X.prog X.w X.K X.mg X.base CX k f fd ps sp) (hr : Room k X.A) (hb : KBn X.K fd ps (0 + 1) ks g gV) (hx : ∀ σ, PassesAt CX X σ (E σ))
    (hkw : PK X kws tk) (hall : (backToKw pos (keywordEach kws X.env)).all (·.1.isSome) = true) (hks : (backToKw pos (keywordEach kws X.env)).filterMap (·.1) = ks)
    (hpl : ((backTo pos (starEach [] X.env)).any (·.1) || (backToKw pos (keywordEach kws X.env)).any (·.1.isNone)) = false := by rfl)
    (ht : eval (.Call (.Attribute o m apos) [] kws pos) X.env = (do
      let ov ← eval o X.env
      standAt apos.atName
      let (f, first) ← holding [ov] (getMethod ov m pl)
      callWith pos f first (backTo pos (starEach [] X.env)) (backToKw pos (keywordEach kws X.env))) := by rfl) :
    PE X (.Call (.Attribute o m apos) [] kws pos) (tMtS C m 0 ks.length sp gV E ta tNil tk) := by
  refine ⟨fun pins s σ H Q I h => PySem.W.methodCall_KW (pl := pl) (thn (he.run pins s σ H _ I h) fun u s1 ⟨x, H1, I1, rx, a, dx, fs, ex, ea, l, q⟩ => ?_) ht⟩
  subst ex
  cases (show u = Value.ref a from rx)
  refine getmeth_ok I1 ea c hm l (PySem.W.callWith_KW0 (first := [.ref a]) (h₀ := X.base) I.ok.mod.kin hm.kp hall
    (thn (hkw.run pos pins s1 σ H1 _ I1 q) fun ws s3 ⟨zs, H3, I3, rz, l1, l2, q3⟩ => ⟨I3.kIn, ?_⟩) hpl)
  rw [hks]
  exact run_S (us := [.ref a]) (vs := [.ref a]) F hr hb (hx σ) I3 (.cons rfl .nil) rz rfl l2 q3
/-! raise C(e, ..), C with an own __init__ -/
theorem ps_raiseO {W : WX} {fI : Addr} {pos2 : Pos} (hc : X.calm = true) (tk : Takes X W) (T : OexC X.K C) (iC : PySem.W.findIn X.K (.ref C) "__init__" = some (some (.ref fI))) (tI : PySem.W.typeIn X.K (.ref fI) = some (.type "function"))
    (F : FnOk X.prog X.w X.K X.mg X.base (L2.CX X.prog X.w) k fI fd ps sp) (hr : Room (k + 1) X.A) (hb : KBn X.K fd ps n [] (fun us _ => us ++ []) (fun vs _ => vs ++ [])) (hg : Gl X x) (hm : X.mg x = some (.ref C)) (ha : PA X (e :: es) t)
    (hn : n = ps.length := by rfl)
    (hdb : (x == ("__debug__" : Str)) = false := by decide) (he : starEach (e :: es) X.env = (false, eval e X.env) :: starEach es X.env := by rfl) (hpl : (backTo pos (starEach es X.env)).any (·.1) = false := by rfl) :
    PS X (.Raise (some (.Call (.Name x p) (e :: es) [] pos)) none pos2) (fun _ σ H => tMkO C sp [] t σ H fun cls d H' => W cls d σ H') := by
  refine ps_raise hc tk (pmk_oex (ds := []) (dvs := []) T iC tI F hr (fun s us k hl => ?_) .nil passL hg hm ha hdb he hpl)
  exact hb.to s us [] k (by rw [List.append_nil] at hl; rw [hl, hn]) rfl
end
/-! isinstance of the caught error, with a dict of its own -/
section
open PySem.W PySem.Calls
variable {prog : Program} {w : World} {A : Around} {Ex : Value → Shared → Prop} {s : Shared} {K : Frag} {x D : Addr} {ox : Obj} {od : Option Obj}
theorem findObj_dataX {C : Addr} {name : Str} {a g : Value} {od : Option Obj} (hc : (clsIn K C).isSome = true) (ha : findIn K (.ref C) name = some (some a)) (hg : specialIn K a "__get__" = some (some g)) (ht : takesIn K a = some true) : findObj K C od name = some (.bind g a) := by
  obtain ⟨cd, hc⟩ := Option.isSome_iff_exists.mp hc
  unfold findObj
  simp [hc, ha, hg, ht]
theorem kin_classX (c : ExcC K D) {Q : Option Value → Shared → Prop} (X : K.In s.heap) (I : InstAt s.heap x ox D od) (h : Q (some (.ref D)) { s with toks := s.toks + 1 }) : wpAny (model prog w) A (getAttr? (.ref x) "__class__") Q Ex s := by
  have hf : findObj K D od "__class__" = some (.bind (.builtin "getset_descriptor.__get__") (.builtin "object.__class__")) :=
    findObj_dataX (by obtain ⟨cd, hc, _⟩ := any_some c.hd; rw [hc]; rfl) c.ha c.hn c.ht
  obtain ⟨hp, g, d, t, os⟩ := s
  have a0 := I.type (M := model prog w)
  have a1 := looks_findIn (M := model prog w) X c.hg
  have a2 := looks_findIn (M := model prog w) X c.hk
  have a3 := looks_find (M := model prog w) X I hf
  have sub : Looks (model prog w) hp (isInstance (.ref x) (.type "BaseException")) true := a0.andThen (looks_subIn X c.hs)
  have hx2 : (Value.builtin "BaseException.__getattribute__" == Value.builtin "object.__getattribute__") = false := by decide +kernel
  unfold getAttr? getAttrBy? getAttrBy
  refine wpAny_bind (wpAny_mkText (wpAny_bind (wpAny_attempt (wpAny_holding (wpAny_bind (a0.at (wpAny_bind (a1.at ?_))))))))
  have hx1 : (onTheHeap (Value.ref D) && Value.builtin "BaseException.__getattribute__" == Value.builtin "object.__getattribute__") = false := by
    rw [hx2]; rfl
  dsimp only
  rw [hx1, if_neg Bool.false_ne_true]
  unfold getAttrByItsOwn hookBefore
  refine wpAny_bind ?_
  rw [if_pos (show onTheHeap (Value.ref D) = true from rfl)]
  refine a2.at (wpAny_bind (wpAny_attempt (wpAny_holding ?_)))
  unfold callGetattribute
  have hx0 : ∀ z : Bool, (false && z) = false := fun _ => rfl
  rw [hx0, if_neg Bool.false_ne_true]
  unfold boundAndCalled
  rw [PySem.F.excAttr_ValueError.ga.bind (.ref x)]
  refine wpAny_bind (wpAny_pure ?_)
  refine wpAny_call (codeAny_call_builtin PySem.F.excAttr_ValueError.ga.plain PySem.F.entry_bexc_ga ?_)
  refine @check_slot (model prog w) _ _ ⟨hp, g, d, t + 1, os⟩ "BaseException.__getattribute__" "BaseException" "__getattribute__" (.ref x) [.str "__class__" t] [] _ (by decide +kernel) (by decide +kernel) sub (PySem.F.args_bexc_ga (.ref x) (.str "__class__" t)) ?_
  unfold Builtin.«object.__getattribute__»
  refine wpAny_bind (wpAny_of_eq (a := ((Value.ref x : Value), [Value.str "__class__" t])) (by first | rfl | (simp only [slotArgs]; rfl)) ?_)
  refine wpAny_bind (wpAny_pure (wpAny_bind (a0.at (wpAny_bind (a3.at ?_)))))
  refine wpAny_bind (wpAny_holding (wpAny_call (class_get (s := ⟨hp, g, d, t + 1, os⟩) (ox := ox) (od := od) X I c.hm ?_)))
  refine wpAny_pure ?_
  dsimp only
  rw [handedOut_of (v := .ref D) rfl]
  first
    | exact wpAny_pure (wpAny_pure h) | exact wpAny_pure h | exact wpAny_pure (wpAny_bind (wpAny_pure (wpAny_pure h)))
theorem kitx_excX (c : ExcC K D) : KitX K (.ref x) (.ref D) (fun h => InstAt h x ox D od) where
  ty := fun _ _ _ I => I.type
  it := fun _ _ X _ A' Q' E' s' k q => by
    obtain ⟨cd, hc, _⟩ := any_some c.hd
    unfold clsIn at hc
    split at hc
    · rename_i ho
      unfold isType loadHead
      exact wpAny_bind (wpAny_loadPart (k _ _ (X _ _ ho)) (wpAny_pure q))
    · cases hc
  ne := fun h tp dd its n sl X htp => (handS_kitx_exc (x := x) (ox := ox) c.hg c.hk c.hs c.hd c.ha c.hn c.ht c.hm).ne h tp dd its n sl X htp
  ca := fun X I k => kin_classX c X I k
end
/-- isinstance(e, c), e the error that the suite holds (class D, dict d) -/
def rIsX (K : Frag) (D a : Addr) (cls : Value) (d : Option Addr) : List V → Hp → VK → Prop := fun xs H Q => cls = .ref D ∧
  (d = none ∨ ∃ dd fs, d = some dd ∧ H dd = some (.xd fs)) ∧ ∃ (c : V) (cv : Value) (b : Bool), xs = [.ref a, c] ∧ ClsV c cv ∧ PySem.W.kitOne K (.ref D) cv = some b ∧ Q (.bl b) H
theorem call_isX {X : Cx} {a D : Addr} {oe : Obj} {cls : Value} {d : Option Addr} {pn : List (Addr × Obj)} (C : ExcC X.K D) (hz : Zc cls d oe) (hf : ∃ vs, oe.data = .fields vs) :
    CallR (X.suite a ((a, oe) :: pn)) (.builtin "isinstance") (rIsX X.K D a cls d) := by
  intro pins s σ H xs us Q I r h
  obtain ⟨ec, hd, c, cv, b, rfl, hcv, e, q⟩ := h
  obtain ⟨u1, u2, rfl, r1, r2⟩ := vals2 r
  cases (show u1 = Value.ref a from r1)
  cases hcv.eq r2
  obtain ⟨ha, _⟩ := I.pin (a, oe) (List.mem_append_left _ List.mem_cons_self)
  obtain ⟨vs, hv⟩ := hf
  have nc : PySem.W.notCls oe = true := by unfold PySem.W.notCls; rw [hv]
  obtain ⟨h1, h2⟩ := hz
  subst ec
  obtain ⟨od, J⟩ : ∃ od, PySem.W.InstAt s.heap a oe D od := by
    rcases hd with rfl | ⟨dd, fs, rfl, hx⟩
    · exact ⟨none, ha, h1, nc, by rw [h2]; trivial⟩
    · obtain ⟨mA, hns, _⟩ := (show ObjOk X.prog X.w H s.heap dd (.xd fs) from I.hok dd _ hx)
      obtain ⟨od, ho, _⟩ := lookIn_ns hns
      exact ⟨some od, ha, h1, nc, by rw [h2]; exact ho⟩
  exact PySem.W.kia_one (kitx_excX C) I.kIn J e (fun z => nomatch z) fun tk => ⟨.bl b, H, I.tok tk, rfl, q⟩
/-! an instance of an own class: what isinstance asks of its class -/
structure InsT (K : Frag) (C : Addr) : Prop where
  ha : PySem.W.findIn K (.ref C) "__class__" = some (some (.builtin "object.__class__"))
  hn : PySem.W.specialIn K (.builtin "object.__class__") "__get__" = some (some (.builtin "getset_descriptor.__get__"))
  ht : PySem.W.takesIn K (.builtin "object.__class__") = some true
  hm : PySem.W.mroIn K C (.type "object") = some true
def insB (K : Frag) (C : Addr) : Bool := He.eqO (PySem.W.findIn K (.ref C) "__class__") (some (some (.builtin "object.__class__"))) &&
  (He.eqO (PySem.W.specialIn K (.builtin "object.__class__") "__get__") (some (some (.builtin "getset_descriptor.__get__"))) &&
  (decide (PySem.W.takesIn K (.builtin "object.__class__") = some true) && decide (PySem.W.mroIn K C (.type "object") = some true)))
theorem insB_ok {K : Frag} {C : Addr} (q : insB K C = true) : InsT K C := by
  obtain ⟨b, q⟩ := He.ba q
  obtain ⟨c, q⟩ := He.ba q
  obtain ⟨d, e⟩ := He.ba q
  exact ⟨He.eqO_ok b, He.eqO_ok c, of_decide_eq_true d, of_decide_eq_true e⟩
theorem InsT.ty {K : Frag} {C a dx : Addr} {H : Hp} {fs : List (Str × V)} (i : InsT K C) (c : Cls K C) (h : H a = some (.ins C dx fs)) : TyX K H (.ref a) (.ref C) := .base (.ins h c i.ha i.hn i.ht i.hm)
/-! * where one factor is small, or both have less than a million bits together -/
def CMulA (i j : Int) : Prop := CMul i j ∨ CMulW i j
theorem op_mulA {X : Cx} : OpR X (binaryOp .Mult) (rI CMulA fun i j => .int (i * j)) := opI fun _ _ _ _ _ _ _ hc q =>
  hc.elim (fun h => mul_int q h.ok) (fun h => mul_int q h.ok)
/-- x is an int (no bool), or known to be none -/
inductive IsI (K : Frag) (H : Hp) : V → Bool → Prop where
  | int (i : Int) : IsI K H (.int i) true
  | bl (b : Bool) : IsI K H (.bl b) false
  | oth {x : V} {t : Value} (h : TyX K H x t) (e : PySem.W.kitOne K t (.type "int") = some false) : IsI K H x false
/-! the end of a law: a head by facts, the script's bits told -/
theorem walk_X {l : PySem.W.OpenLaw} {n k : Nat} {q : Program} {loose : List Str} {XP : (Str → Option Value) → Heap → Prop} {YP : World → Heap → Prop} {d : DefRec} {x : Str}
    (hn : l.most = some n) (hn2 : n ≤ sizeLine) (hdf : d.params.defaults = []) (hr : Room k callerA)
    (F : ∀ (w : World) (mg : Str → Option Value) (fa : Addr) (h : Heap), YP w h → h.Ns mainGlobals mg → mg d.name = some (.ref fa) →
      ∃ (K : Frag) (fd : FuncData) (sp : Sp), K.In h ∧ (∀ (s : Shared) (u : Value), BindsTo s fd ⟨[u], []⟩ [(x, u)]) ∧
        (∀ (H : Hp) (a : Addr) (ns : List Int), ns.length ≤ n → (∀ z ∈ ns, Builtin.Int.intBits z ≤ 1048576) → Only H → SqL K H a (ns.map V.int) → sp [.ref a] H (fun v _ => v = .bl true) E0) ∧
        ∀ base : Heap, K.In base → base.Ns mainGlobals mg → FnOk l.prog w K mg base (L2.CX l.prog w) k fa fd [x] sp) :
    PySem.W.WalkO q loose XP YP l.row.toRowW d [] (fun f vs => PySem.call f vs) := by
  refine Att.attach_callB hn hdf fun w s0 s1 mg mb fa o pm cd doc a vs ns G Y ho hd hcd hmg hobj hints hlen hbits hg => ?_
  obtain ⟨K, fd, sp, KX, hb, hsp, hF⟩ := F w mg fa _ Y G.T.g hmg
  refine law_call KX G.T.g G.T.b G.T.builtins G.T.nolimit hg hobj hints (Nat.le_trans hlen hn2) hr hF hb (fun H hO hS => hsp H a ns hlen hbits hO hS) fun H e s' c => ?_
  obtain ⟨_, _, _, _, _, _, _, _, _, _, _, _, z⟩ := c
  exact z
end S
namespace S
open PySem PySem.Spec PyProof.Rows L2
section
open PySem.W PySem.Calls
variable {prog : Program} {w : World} {A : Around} {Ex : Value → Shared → Prop} {s : Shared} {K : Frag} {x C f : Addr} {ox : Obj} {od : Option Obj} {b tb : Value}
/-- object.__ne__ over an own __eq__ that gives a bool -/
theorem objNe_K {Q : Fin → Shared → Prop} (hu : A.units < cLine) (X : K.In s.heap) (I : InstAt s.heap x ox C od) (hs : findIn K (.ref C) "__eq__" = some (some (.ref f))) (hf : isFn K (.ref f) = true)
    (h : wpAny (model prog w) A (call (.ref f) [.ref x, b]) (fun v s' => ∃ r, v = .bool r ∧ Q (.done (.ret (.bool (!r)))) s') Ex s) :
    wpAny (model prog w) A (Builtin.«object.__ne__» ⟨[.ref x, b], []⟩) Q Ex s := by
  unfold Builtin.«object.__ne__»
  refine wpAny_bind (wpAny_of_eq (a := ((Value.ref x : Value), [b])) (by first | rfl | (simp only [slotArgs]; rfl)) ?_)
  dsimp only
  refine wpAny_bind (wpAny_cRoomFor hu ?_)
  refine wpAny_bind (ifBound_K X I hs hf (wpAny_mono h (fun v s' hv => ?_) fun _ _ e => e))
  obtain ⟨r, rfl, q⟩ := hv
  dsimp only
  refine wpAny_bind (wpAny_truthy_bool ?_)
  first | exact wpAny_pure q | exact q
theorem ne_K {Q : Value → Shared → Prop} (hu : A.units + 1 < cLine) (X : K.In s.heap) (I : InstAt s.heap x ox C od) (hb : Looks (model prog w) s.heap (typeOf b) tb) (hn : notFirst K C tb = true)
    (hne : findIn K (.ref C) "__ne__" = some (some (.builtin "object.__ne__"))) (hm : mroIn K C (.type "object") = some true)
    (hs : findIn K (.ref C) "__eq__" = some (some (.ref f))) (hf : isFn K (.ref f) = true)
    (h : wpAny (model prog w) A.in1 (call (.ref f) [.ref x, b]) (fun v s' => ∃ r, v = .bool r ∧ Q (.bool (!r)) s') Ex s) : wpAny (model prog w) A (richCompare .NotEq (.ref x) b) Q Ex s := by
  have one : wpAny (model prog w) A (tryCompare (.ref x) "__ne__" b) (fun r s' => ∃ v, r = some v ∧ Q v s') Ex s := by
    unfold tryCompare
    refine wpAny_bind (NtL.csib (I.type.andThen (looks_findIn X hne)) (F.cmp_object.ne.bind _) ?_)
    refine wpAny_call (codeAny_call_builtin F.cmp_object.ne.plain F.cmpEntry_ne (check_slot F.cmpKind_ne F.cmpSplit_ne (I.type.andThen (looks_mroIn X hm)) (F.cmpArgs_ne _ _) ?_))
    refine objNe_K (A := A.in1) hu X I hs hf (wpAny_mono h (fun v s' hv => ?_) fun _ _ e => e)
    obtain ⟨r, rfl, q⟩ := hv
    exact ⟨r, rfl, wpAny_pure ⟨_, rfl, q⟩⟩
  unfold richCompare
  simp only [oneThing_ref]
  refine wpAny_holding (wpAny_bind (wpAny_cRoomFor (Nat.lt_of_succ_lt hu) ?_))
  rw [cmpInfo_NotEq]
  dsimp only
  refine wpAny_bind (I.type.here (wpAny_bind (hb.here ?_)))
  split
  · rename_i q
    have e : subIn K tb (.ref C) = some false := by
      rcases Bool.or_eq_true_iff.mp hn with e | e
      · rw [beq_iff_eq.mp e] at q
        simp at q
      · exact beq_iff_eq.mp e
    refine wpAny_bind ((looks_subIn X e).here ?_)
    simp only [Bool.false_eq_true, if_false]
    refine wpAny_bind (wpAny_mono one (fun r s' z => ?_) fun _ _ e => e)
    obtain ⟨v, rfl, hq⟩ := z
    exact wpAny_pure hq
  · refine wpAny_bind (wpAny_pure ?_)
    simp only [Bool.false_eq_true, if_false]
    refine wpAny_bind (wpAny_mono one (fun r s' z => ?_) fun _ _ e => e)
    obtain ⟨v, rfl, hq⟩ := z
    exact wpAny_pure hq
end
section
variable {X : Cx} {n : Nat} {C g : Addr} {sp : Sp}
/-- x op y by x's own method, both instances -/
def rOwnI (K : Frag) (C : Addr) (sp : Sp) : R2 := fun x y H Q => ∃ a dx fs b C' dy gs, x = .ref a ∧ y = .ref b ∧ H a = some (.ins C dx fs) ∧ H b = some (.ins C' dy gs) ∧ PySem.W.notFirst K C (.ref C') = true ∧ sp [x, y] H Q E0
theorem op_ownI {op : CmpOp} (hop : ∀ a b, compareOp op a b = richCompare op a b) (hs : PySem.W.findIn X.K (.ref C) (cmpInfo op).2.1 = some (some (.ref g))) (hf : PySem.W.isFn X.K (.ref g) = true)
    (F : FnR X.prog X.w X.K X.mg X.base (L2.CX X.prog X.w) n g sp) (hr : Room n X.A) : OpR X (compareOp op) (rOwnI X.K C sp) := by
  intro pins s σ H x y v u Q I rx ry h
  obtain ⟨a, dx, fs, b, C', dy, gs, rfl, rfl, ha, hb, hn, q⟩ := h
  cases (show v = Value.ref a from rx)
  cases (show u = Value.ref b from ry)
  obtain ⟨mA, O, _⟩ := ins_get I.hok ha
  obtain ⟨od, J, _⟩ := O.look
  obtain ⟨mB, O2, _⟩ := ins_get I.hok hb
  obtain ⟨od2, J2, _⟩ := O2.look
  obtain ⟨m, hF⟩ := I.fr
  rw [hop]
  refine PySem.W.cmp_K (op := op) (tb := .ref C') hr.units0 hF I.ok.mod.kin J J2.type hn hs hf ?_
  refine wpAny_mono (wpAny_call (run_fnR (us := [.ref a, .ref b]) (vs := [.ref a, .ref b]) F hr passL I (.cons rfl (.cons rfl .nil)) q)) (fun w s' z => ?_) fun _ _ x => x
  obtain ⟨z2, H2, I2, rz, qz⟩ := z
  exact SlX.cmpback rz ⟨z2, H2, I2, rz, qz⟩
/-- x != y by x's own == -/
def rNeI (K : Frag) (C : Addr) (sp : Sp) : R2 := fun x y H Q => ∃ a dx fs b C' dy gs, x = .ref a ∧ y = .ref b ∧ H a = some (.ins C dx fs) ∧ H b = some (.ins C' dy gs) ∧ PySem.W.notFirst K C (.ref C') = true ∧
  sp [x, y] H (fun z H2 => ∃ r, z = .bl r ∧ Q (.bl (!r)) H2) E0
theorem op_neI (hne : PySem.W.findIn X.K (.ref C) "__ne__" = some (some (.builtin "object.__ne__"))) (hm : PySem.W.mroIn X.K C (.type "object") = some true)
    (hs : PySem.W.findIn X.K (.ref C) "__eq__" = some (some (.ref g))) (hf : PySem.W.isFn X.K (.ref g) = true)
    (F : FnR X.prog X.w X.K X.mg X.base (L2.CX X.prog X.w) n g sp) (hr : Room (n + 1) X.A) : OpR X (compareOp .NotEq) (rNeI X.K C sp) := by
  intro pins s σ H x y v u Q I rx ry h
  obtain ⟨a, dx, fs, b, C', dy, gs, rfl, rfl, ha, hb, hn, q⟩ := h
  cases (show v = Value.ref a from rx)
  cases (show u = Value.ref b from ry)
  obtain ⟨mA, O, _⟩ := ins_get I.hok ha
  obtain ⟨od, J, _⟩ := O.look
  obtain ⟨mB, O2, _⟩ := ins_get I.hok hb
  obtain ⟨od2, J2, _⟩ := O2.look
  show wpAny _ _ (richCompare .NotEq (.ref a) (.ref b)) _ _ _
  refine ne_K (tb := .ref C') (hu_of hr) I.kIn J J2.type hn hne hm hs hf ?_
  refine wpAny_mono (wpAny_call (SlX.run_at (us := [.ref a, .ref b]) (ws := [.ref a, .ref b]) F hr.in1 I.env0.in1 passL I (.cons rfl (.cons rfl .nil)) q)) (fun w s' z => ?_) fun _ _ x => x
  obtain ⟨z2, H2, I2, rz, r, rfl, qz⟩ := z
  cases (show w = Value.bool r from rz)
  exact ⟨r, rfl, .bl (!r), H2, I2, rfl, qz⟩
theorem hop_eq : ∀ a b, compareOp .Eq a b = richCompare .Eq a b := fun _ _ => rfl
end
/-! keyword-only defaults and no others: f(e, .., k = v, ..) -/
theorem kbinds0 {K : Frag} {x qual : Str} {params : Arguments} {body : List Stmt} {scope : Scope} {kws : List (Str × V)} {f : Addr} {fd : FuncData} {ps : List Str} (F : FunD K x qual params body scope [] kws f fd) (n : Nat) (ks : List Str) (ms : List (Str × V))
    (g : {α : Type} → List α → List α → List α → List α) (hk : kws ≠ []) (hms : ∀ q ∈ ms, q ∈ kws)
    (hrel : ∀ {vs mz zs : List V} {us mv ws : List Value}, Vals vs us → Vals mz mv → Vals zs ws → Vals (g vs mz zs) (g us mv ws))
    (h : ∀ (D : Addr) (doc pm : Value) (an : Option Addr) (cdv ct : Value) (us mv ws : List Value), us.length = n → mv.length = ms.length → ws.length = ks.length →
      KwChain D ((ms.map (·.1)).zip mv) (bindArgs (PySem.W.fnOf x qual params body scope .none (.ref D) doc pm an cdv ct) ⟨us, ks.zip ws⟩) (ps.zip (g us mv ws))) :
    ∃ mv : List Value, KBn K fd ps n ks (fun us ws => g us mv ws) (fun vs zs => g vs (ms.map (·.2)) zs) := by
  obtain ⟨oc, od, dV, kV, doc, pm, an, cdv, ct, osl, rfl, lk, hcd, hD, hK⟩ := F.ex
  rcases hD with ⟨_, rfl⟩ | ⟨e, _⟩
  · rcases hK with e | ⟨D, rfl, hq⟩
    · exact absurd e hk
    · obtain ⟨mv, hl, rk, hks⟩ := kwd_vals (ms := ms) fun q hm => hq q (hms q hm)
      refine ⟨mv, ⟨fun s us ws X l1 l2 => BindsTo.of_looks fun M => KwChain.looks X hks (h D doc pm an cdv ct us mv ws l1 hl l2), fun r1 r2 => hrel r1 rk r2⟩⟩
  · exact absurd rfl e
/-! a block cut by a word: what follows is shown once -/
def tCut (t u : TS) : TS := fun D σ H => ∃ M : L2.St → Hp → Prop, t { D with nx := M } σ H ∧ ∀ τ J, M τ J → u D τ J
theorem pss_cut {X : Cx} {st : Stmt} {rest : List Stmt} {t u : TS} (h1 : PS X st t) (h2 : PSs X rest u) : PSs X (st :: rest) (tCut t u) :=
  ⟨fun pins s σ H D I ⟨M, hm, hu⟩ => wpAny_execs_cons (thn (h1.run pins s σ H { D with nx := M } I hm) fun f s1 q => by
    match f, q with
    | .next, ⟨τ, J, I2, q⟩ => exact h2.run pins s1 τ J D I2 (hu τ J q)
    | .ret v, q => exact q
    | .brk, q => exact q
    | .cont, q => exact q)⟩
/-! ways -/
theorem iteY {c A B : Prop} [Decidable c] (h : c) (a : A) : if c then A else B := by rw [if_pos h]; exact a
theorem iteN {c A B : Prop} [Decidable c] (h : ¬ c) (b : B) : if c then A else B := by rw [if_neg h]; exact b
theorem iteB {x : Bool} {A B : Prop} (h : if x then A else B) : if x = true then A else B := h
/-! small laws of heaps and fields -/
theorem putF_nil (f : Str) (v : V) : putF f v [] = [(f, v)] := rfl
theorem putF_cons_ne {f k : Str} {v u : V} {r : List (Str × V)} (h : ¬ k = f) : putF f v ((k, u) :: r) = (k, u) :: putF f v r := by
  show (if k = f then _ else _) = _
  rw [if_neg h]
theorem Same.new {H : Hp} {p : Addr} {o : HO} (h : H p = none) : Same H (upd H p o) := fun b u e => by
  rw [upd_ne (ne_of_none e h)]
  exact e
theorem Same.upd {H H' : Hp} {p : Addr} {o : HO} (e : Same H H') (h : H p = none) : Same H (L2.upd H' p o) := fun b u q => by
  rw [upd_ne (ne_of_none q h)]
  exact e b u q
/-! an own error with one field -/
/-- self.f = v in __init__ -/
def sp_err (C : Addr) (f : Str) : Sp := Sp2 fun x y H Q _ => ∃ a, x = .ref a ∧ H a = some (exo a C none) ∧ ∀ dx, H dx = none → dx ≠ a → Q .non (upd (upd H dx (exd dx [(f, y)])) a (exo a C (some dx)))
theorem raise_err {C : Addr} {f : Str} {t : TA} {σ : L2.St} {H : Hp} {Q : XK} (y : V)
    (k : ∀ d H', H d = none → Same H H' → H' d = some (.xd [(f, y)]) → Q (.ref C) (some d) H') (ht : ∀ R, R [y] H → t σ H R := by exact fun R r => r) : tMkO C (sp_err C f) [] t σ H Q := by
  refine ht _ ⟨by show 1 ≤ 1000; decide, fun a ha => ⟨_, _, rfl, a, rfl, upd_same, fun dx hdx hne => ⟨rfl, dx, [(f, y)], ?_, ?_, ?_, ?_⟩⟩⟩
  · exact upd_same
  · rw [upd_ne hne, upd_same]
  · rw [upd_ne hne] at hdx
    exact hdx
  · have h0 : H dx = none := by rw [upd_ne hne] at hdx; exact hdx
    refine k dx _ h0 (fun b o e => ?_) upd_same
    have n1 : b ≠ dx := ne_of_none e h0
    have n2 : b ≠ a := ne_of_none e ha
    rw [upd_ne n1, del_ne n2, upd_ne n2, upd_ne n1, upd_ne n2]
    exact e
/-! the law's own draws -/
/-- a cell is some integer of at least 0 -/
def spCellN (K : Frag) : Sp := Sp2 fun x y H Q _ => ∃ (a : Addr) (ns : List Int) (k : Int), x = .ref a ∧ y = .int k ∧ 0 ≤ k ∧ SqL K H a (ns.map V.int) ∧ ∀ n : Int, 0 ≤ n → Q (.int n) H
theorem int_at {ns : List Int} {k : Nat} (h : k < ns.length) : atI (ns.map V.int) ((k : Nat) : Int) = some (.int (ns.getD k 0)) := by
  refine atI_nat ?_
  rw [List.getElem?_map, List.getElem?_eq_getElem h, List.getD_eq_getElem?_getD, List.getElem?_eq_getElem h]
  rfl
theorem mul_small {i j : Int} (h : -(2 ^ 64) < j ∧ j < 2 ^ 64) : CMulA i j := .inl (.inr h)
theorem mul_smallL {i j : Int} (h : -(2 ^ 64) < i ∧ i < 2 ^ 64) : CMulA i j := .inl (.inl h)
theorem mod_small (x : Int) {m : Int} (h : 0 < m) (h2 : m < 2 ^ 64) : -(2 ^ 64) < x % m ∧ x % m < 2 ^ 64 := by
  have a := Int.emod_nonneg x (show m ≠ 0 by omega)
  have b := Int.emod_lt_of_pos x h
  omega
theorem mod_lo (x : Int) {m : Int} (h : 0 < m) : 0 ≤ x % m := Int.emod_nonneg x (by omega)
theorem mod_hi (x : Int) {m : Int} (h : 0 < m) : x % m < m := Int.emod_lt_of_pos x h
theorem div_small {i j : Int} (h : 0 < j) (h2 : j < 2 ^ 64) : CDivW i j := wide_div (b := 64) h (by omega) (by decide) (by decide)
end S
namespace S
open PySem PySem.Spec PyProof.Rows L2
/-! the rules that lean on the written part, with its own name -/
section
variable {X : Cx} {K : Frag}
theorem ixK (hK : X.K = K) : IxR X (rIx K) := hK ▸ ix_seq
theorem lenK (hK : X.K = K) : CallR X (.builtin "len") (rLen K) := hK ▸ call_len
theorem isiK (hK : X.K = K) : CallR X (.builtin "isinstance") (rIsi K) := hK ▸ call_isi
theorem isiTK (hK : X.K = K) : CallR X (.builtin "isinstance") (rIsiT K) := hK ▸ call_isiT
theorem inK (hK : X.K = K) : OpR X (compareOp .In) (rIn K false) := hK ▸ op_in_seq
theorem notInK (hK : X.K = K) : OpR X (compareOp .NotIn) (rIn K true) := hK ▸ op_notIn_seq
theorem eqDK (hK : X.K = K) (hu : X.A.units + 64 < cLine) : OpR X (compareOp .Eq) (rEqD K) := hK ▸ op_eqD hu
theorem neDK (hK : X.K = K) (hu : X.A.units + 64 < cLine) : OpR X (compareOp .NotEq) (rNeD K) := hK ▸ op_neD hu
theorem slLK (hK : X.K = K) : SlR X (rSlL K) := hK ▸ sl_list
theorem slTK (hK : X.K = K) : SlR X (rSlT K) := hK ▸ sl_tup
variable {e o l value tg a : Expr} {es : List Expr} {ta tv tl : TE} {f : Str} {pos pos' : Pos}
theorem pe_fldK (hK : X.K = K) (he : PE X e ta) (hb : attributeBase e f X.env (eval e X.env) = eval e X.env) : PE X (.Attribute e f pos) (tFld K ta f) := hK ▸ pe_fld he hb
theorem ps_fldK (hK : X.K = K) (ha : PE X o ta) (hv : PE X value tv) (hs : swapsWith value (some (.Attribute o f pos')) pos.line X.env = pure false) : PS X (.Assign [.Attribute o f pos'] value pos) (sFld K ta tv f) := hK ▸ ps_fld ha hv hs
theorem ps_ostK (hK : X.K = K) (ha : PE X o ta) (hv : PE X value tv) (hs : swapsWith value (some (.Attribute o f pos')) pos.line X.env = pure false) : PS X (.Assign [.Attribute o f pos'] value pos) (tOst K f ta tv) := hK ▸ ps_ost ha hv hs
theorem pe_slK (hK : X.K = K) (he : PE X e ta) (hb : attributeBase e f X.env (eval e X.env) = eval e X.env) : PE X (.Attribute e f pos) (SlX.tSl K ta f) := hK ▸ SlX.pe_sl he hb
theorem ps_slK (hK : X.K = K) (ha : PE X o ta) (hv : PE X value tv) (hs : swapsWith value (some (.Attribute o f pos')) pos.line X.env = pure false) : PS X (.Assign [.Attribute o f pos'] value pos) (SlX.sSl K ta tv f) := hK ▸ SlX.ps_sl ha hv hs
theorem pi_listK (hK : X.K = K) (hl : PE X l tl) : PI X tg l (iList K tl) := hK ▸ pi_list hl
theorem pi_tupK (hK : X.K = K) (hl : PE X l tl) : PI X tg l (iTup K tl) := hK ▸ pi_tup hl
def tTruK (K : Frag) (ta : TE) : TT := fun σ H Q => ta σ H fun x H' => ∃ k, TruV K x H' k ∧ Q k H'
theorem pt_truthK (hK : X.K = K) (ha : PE X a ta) (he : ∀ whole, isTrue a X.env whole = (do let v ← whole; standAt a.pos; holding [v] (truthy v))) : PT X a (tTruK K ta) := by
  subst hK
  exact pt_truth ha he
end
end S
namespace S
open PySem PySem.Spec PyProof.Rows L2
/-! flat data: None, bools, ints, texts -/
def sca : V → Bool
  | .non => true
  | .bl _ => true
  | .int _ => true
  | .str x => PyData.strOk x
  | _ => false
def dat : V → PyData
  | .bl b => .bool b
  | .int i => .int i
  | .str x => .str x
  | _ => .none
theorem dp_dat {K : Frag} {H : Hp} {v : V} (h : sca v = true) : Dp K H v (dat v) := by
  cases v with
  | non => exact .non
  | bl b => exact .bl b
  | int i => exact .int i
  | str x => exact .str x
  | _ => cases h
theorem dpAll_dat {K : Frag} {H : Hp} : ∀ {vs : List V}, vs.all sca = true → DpAll K H vs (vs.map dat)
  | [], _ => .nil
  | v :: vs, h => by
    rw [List.all_cons, Bool.and_eq_true] at h
    exact .cons (dp_dat h.1) (dpAll_dat h.2)
theorem lay_dat {v : V} (h : sca v = true) : (dat v).canLay0 = true := by
  cases v with
  | str x => simpa [dat, PyData.canLay0, sca] using h
  | _ => simp [dat, PyData.canLay0]
theorem layAll_dat : ∀ {vs : List V}, vs.all sca = true → PyData.canLayAll0 (vs.map dat) = true
  | [], _ => rfl
  | v :: vs, h => by
    rw [List.all_cons, Bool.and_eq_true] at h
    simp [PyData.canLayAll0, lay_dat h.1, layAll_dat h.2]
theorem depth_dat (v : V) : (dat v).depth = 0 := by cases v <;> simp [dat, PyData.depth]
theorem depthAll_dat : ∀ (vs : List V), PyData.depthAll (vs.map dat) = 0
  | [] => rfl
  | v :: vs => by simp [PyData.depthAll, depth_dat, depthAll_dat vs]
theorem shaped_list {vs : List V} (h : vs.all sca = true) : SeqAt.shaped (.list (vs.map dat)) = true := by
  simp [SeqAt.shaped, PyData.canLay0, layAll_dat h, PyData.depth, depthAll_dat]
theorem shaped_tup {vs : List V} (h : vs.all sca = true) : SeqAt.shaped (.tuple (vs.map dat)) = true := by
  simp [SeqAt.shaped, PyData.canLay0, layAll_dat h, PyData.depth, depthAll_dat]
theorem eqv_refl (v : V) : PyData.eqv (dat v) (dat v) = true := by cases v <;> simp [dat, PyData.eqv]
theorem eqvAll_refl : ∀ (vs : List V), PyData.eqvAll (vs.map dat) (vs.map dat) = true
  | [] => rfl
  | v :: vs => by simp [PyData.eqvAll, eqv_refl, eqvAll_refl vs]
theorem rEqL {K : Frag} {H : Hp} {a b : Addr} {xs ys : List V} {Q : VK} (ha : SqL K H a xs) (hb : SqL K H b ys) (hx : xs.all sca = true) (hy : ys.all sca = true) (q : Q (.bl (PyData.eqvAll (xs.map dat) (ys.map dat))) H) : rEqD K (.ref a) (.ref b) H Q :=
  ⟨_, _, .lst ha (dpAll_dat hx), .lst hb (dpAll_dat hy), shaped_list hx, shaped_list hy, by simpa only [PyData.eqv] using q⟩
theorem rEqT {K : Frag} {H : Hp} {a b : Addr} {xs ys : List V} {Q : VK} (ha : SqT K H a xs) (hb : SqT K H b ys) (hx : xs.all sca = true) (hy : ys.all sca = true) (q : Q (.bl (PyData.eqvAll (xs.map dat) (ys.map dat))) H) : rEqD K (.ref a) (.ref b) H Q :=
  ⟨_, _, .tup ha (dpAll_dat hx), .tup hb (dpAll_dat hy), shaped_tup hx, shaped_tup hy, by simpa only [PyData.eqv] using q⟩
theorem rEqL_true {K : Frag} {H : Hp} {a b : Addr} {xs : List V} {Q : VK} (ha : SqL K H a xs) (hb : SqL K H b xs) (hx : xs.all sca = true) (q : Q (.bl true) H) : rEqD K (.ref a) (.ref b) H Q := rEqL ha hb hx hx (by rw [eqvAll_refl]; exact q)
theorem rEqT_true {K : Frag} {H : Hp} {a b : Addr} {xs : List V} {Q : VK} (ha : SqT K H a xs) (hb : SqT K H b xs) (hx : xs.all sca = true) (q : Q (.bl true) H) : rEqD K (.ref a) (.ref b) H Q := rEqT ha hb hx hx (by rw [eqvAll_refl]; exact q)
/-- a def with all its parameters written, by positional values -/
theorem raw_of {P : Program} {w : World} {K : Frag} {mg : Str → Option Value} {base : Heap} {CX : CXT} {k n : Nat} {f : Addr} {fd : FuncData} {ps : List Str} {sp : Sp} (F : FnOk P w K mg base CX k f fd ps sp)
    (hb : KBn K fd ps n [] (fun us _ => us ++ []) (fun vs _ => vs ++ [])) (hn : n = ps.length := by rfl) : FnR P w K mg base CX k f sp := by
  refine (F.raw (ds := []) (dvs := []) (fun s us k hl => ?_) .nil).imp fun vs H Q E h => ?_
  · exact hb.to s us [] k (by rw [List.append_nil] at hl; rw [hl, hn]) rfl
  · rw [List.append_nil]
    exact h
theorem hu64 {A : Around} {k : Nat} (hr : Room k A) : A.units + 64 < cLine := by have := hr.un; omega
/-! a for over a text's signs -/
theorem for_str {x : Str} {g : TG} {tb : TS} {D : Ends} {σ : L2.St} {H : Hp} (Pv : Nat → L2.St → Hp → Prop) (h0 : Pv 0 σ H)
    (hs : ∀ i c σ H, x.cps[i]? = some c → Pv i σ H → g (.str ⟨#[c]⟩) σ H fun σ2 H2 => tb { D with nx := Pv (i + 1), ct := Pv (i + 1), bk := D.nx } σ2 H2) (hd : ∀ σ H, Pv x.cps.size σ H → D.nx σ H) :
    ∃ Z : Nat → Nat → L2.St → Hp → Prop, (∃ m, Z 0 m σ H) ∧ ∀ i m σ H, Z i m σ H →
      ((Its x).stop i H ∧ D.nx σ H) ∨ ((Its x).go i H ∧ ∃ N : L2.St → Hp → Prop, (∀ σ' H', N σ' H' → ∃ m', m' < m ∧ Z (i + 1) m' σ' H') ∧ ∀ v H', (Its x).yld i H v H' → g v σ H' fun σ2 H2 => tb { D with nx := N, ct := N, bk := D.nx } σ2 H2) := by
  refine ⟨fun i m σ H => m = x.cps.size - i ∧ i ≤ x.cps.size ∧ Pv i σ H, ⟨x.cps.size, by simp, Nat.zero_le _, h0⟩, ?_⟩
  rintro i m σ H ⟨rfl, hi, p⟩
  by_cases hlt : i < x.cps.size
  · refine .inr ⟨hlt, Pv (i + 1), fun σ' H' p' => ⟨x.cps.size - (i + 1), by omega, rfl, hlt, p'⟩, fun v H' y => ?_⟩
    obtain ⟨rfl, c, hc, rfl⟩ := y
    exact hs i c σ H' hc p
  · have e : i = x.cps.size := by omega
    subst e
    exact .inl ⟨Nat.le_refl _, hd σ H p⟩
end S
namespace S
open PySem PySem.Spec PyProof.Rows L2
/-! x in a list whose items' own == may make objects -/
section
open MeetsSeq MeetsSeq2 MeetsSeq3 SeqRoads2
variable {prog : Program} {w : World} {A : Around} {R : Result → Shared → Prop}
/-- at each turn the list is read anew: the items still to come; a hit ends the walk -/
def ContI (prog : Program) (w : World) (A : Around) (R : Result → Shared → Prop) (l : Addr) (x : Value) (N : Nat) (I : Nat → Shared → Prop) : Prop :=
  ∀ i s, I i s → ∃ (its : Array Value) (n : Nat), s.heap.get? l = some { cls := .type "list", data := .seq its n } ∧ its.size = N ∧
    ∀ h1 : i < its.size, wpAny (model prog w) A.in1 (eqBool its[i] x) (fun r s' => if r = true then R (.ok (.ret (.bool true))) s' else I (i + 1) s') (fun e s' => R (.error e) s') s
theorem cont_loop (l : Addr) (x : Value) (N : Nat) (I : Nat → Shared → Prop) (hl : ContI prog w A R l x N I) (fin : ∀ s, I N s → R (.ok (.ret (.bool false))) s) (k : Nat) :
    ∀ i : Nat, N - i = k → i ≤ N → ∀ s, I i s →
      wpAny (model prog w) A.in1 (Builtin.«list.__contains__.loop» ⟨[.ref l, x, rawInt i], []⟩) (GQ.FinOf prog w A R) (fun e s' => R (.error e) s') s := by
  induction k with
  | zero =>
    intro i hk hi s h
    obtain ⟨its, n, h1, hs, _⟩ := hl _ _ h
    have e : i = N := by omega
    have hR : R (.ok (.ret (.bool false))) s := fin s (e ▸ h)
    obtain ⟨hp, g, d, tk, os⟩ := s
    wp_walk using wpAny_loadPart' h1
    have hn : its[((i : Nat) : Int).toNat]? = none := by simp; omega
    rw [hn]
    wp_walk
    exact hR
  | succ k ih =>
    intro i hk hi s h
    obtain ⟨its, n, h1, hs, turn⟩ := hl _ _ h
    have hlt : i < its.size := by omega
    have ht := turn hlt
    obtain ⟨hp, g, d, tk, os⟩ := s
    wp_walk using wpAny_loadPart' h1
    have hn : its[((i : Nat) : Int).toNat]? = some its[i] := by simp [hlt]
    rw [hn]
    refine wpAny_bind (wpAny_mono ht (fun r s2 h2 => ?_) fun _ _ z => z)
    cases r with
    | true =>
      rw [if_pos rfl] at h2
      obtain ⟨hp2, g2, d2, tk2, os2⟩ := s2
      wp_walk
      exact h2
    | false =>
      rw [if_neg Bool.false_ne_true] at h2
      have hc : ((i : Int) + 1) = ((i + 1 : Nat) : Int) := by omega
      have hrec := ih (i + 1) (by omega) (by omega) s2 h2
      obtain ⟨hp2, g2, d2, tk2, os2⟩ := s2
      wp_walk
      rw [hc]
      exact ⟨plainId_quiet plain_contains_loop _, codeAny_builtin entry_contains_loop (by rw [Around.under_plainId plain_contains_loop _]; exact hrec)⟩
theorem cont_list (l : Addr) (x : Value) (N : Nat) (I : Nat → Shared → Prop) (hl : ContI prog w A R l x N I) (fin : ∀ s, I N s → R (.ok (.ret (.bool false))) s) {s : Shared} (h : I 0 s) :
    wpAny (model prog w) A.in1 (Builtin.«list.__contains__» ⟨[.ref l, x], []⟩) (GQ.FinOf prog w A R) (fun e s' => R (.error e) s') s := by
  obtain ⟨its, n, h1, hs, _⟩ := hl _ _ h
  have hrec := cont_loop (A := A) (R := R) l x N I hl fin _ 0 rfl (Nat.zero_le _) s h
  obtain ⟨hp, g, d, tk, os⟩ := s
  wp_walk using wpAny_loadPart' h1
  exact ⟨plainId_quiet plain_contains_loop _, codeAny_builtin entry_contains_loop (by rw [Around.under_plainId plain_contains_loop _]; exact hrec)⟩
theorem contains_G {E : Value → Shared → Prop} {s : Shared} {l : Addr} {x : Value} {N : Nat} {Q : Bool → Shared → Prop} (I : Nat → Shared → Prop)
    (hl : ContI prog w A (wants (fun v s' => ∃ b, v = .bool b ∧ Q b s') E) l x N I) (fin : ∀ s, I N s → Q false s) (h : I 0 s) : wpAny (model prog w) A (contains (.ref l) x) Q E s := by
  obtain ⟨its, n, h1, _⟩ := hl _ _ h
  refine wpAny_contains_slot (T := "list") ⟨_, h1, rfl⟩ F.slot_list_contains (wpAny_mono (GQ.call_here (Q := fun v s' => ∃ b, v = .bool b ∧ Q b s') F.slot_list_contains ⟨_, h1, rfl⟩ F.entry_list_contains (F.args_list_contains_2 _ _) ?_) (fun v s' hv => ?_) fun _ _ e => e)
  · exact cont_list l x N I hl (fun s' q => ⟨false, rfl, fin s' q⟩) h
  · obtain ⟨b, rfl, q⟩ := hv
    exact wpAny_truthy_bool q
end
section
variable {X : Cx} {n : Nat} {C g : Addr} {sp : Sp}
/-- x in y, y a list of instances of C that are compared by their own == : e b tells the answer for the item at b -/
def rInO (C : Addr) (sp : Sp) (neg : Bool) : R2 := fun x y H Q => ∃ (a l dx : Addr) (fs : List (Str × V)) (bs : List Addr) (e : Addr → Bool), x = .ref a ∧ y = .ref l ∧ H l = some (.lst (bs.map V.ref)) ∧ H a = some (.ins C dx fs) ∧
  (∀ b ∈ bs, ∃ dy gs, H b = some (.ins C dy gs)) ∧ (∀ b ∈ bs, ∀ H1, Same H H1 → ∀ Z : VK, (∀ H2, Same H1 H2 → Z (.bl (e b)) H2) → sp [.ref b, .ref a] H1 Z E0) ∧
  ∀ H', Same H H' → Q (.bl (if neg then !(bs.any fun b => decide (b = a) || e b) else bs.any fun b => decide (b = a) || e b)) H'
theorem contO (hs : PySem.W.findIn X.K (.ref C) "__eq__" = some (some (.ref g))) (hf : PySem.W.isFn X.K (.ref g) = true) (F : FnR X.prog X.w X.K X.mg X.base (L2.CX X.prog X.w) n g sp) (hr : Room (n + 1) X.A)
    {pins : List (Addr × Obj)} {s : Shared} {σ : L2.St} {H : Hp} {a l dx : Addr} {fs : List (Str × V)} {bs : List Addr} {e : Addr → Bool} (I : Inv X pins σ H s) (hl : H l = some (.lst (bs.map V.ref))) (ha : H a = some (.ins C dx fs))
    (hb : ∀ b ∈ bs, ∃ dy gs, H b = some (.ins C dy gs)) (hsp : ∀ b ∈ bs, ∀ H1, Same H H1 → ∀ Z : VK, (∀ H2, Same H1 H2 → Z (.bl (e b)) H2) → sp [.ref b, .ref a] H1 Z E0) {Q : Bool → Shared → Prop}
    (q : ∀ s' H', Inv X pins σ H' s' → Same H H' → Q (bs.any fun b => decide (b = a) || e b) s') : wpAny (model X.prog X.w) X.A (contains (.ref l) (.ref a)) Q X.xe s := by
  refine contains_G (N := bs.length) (fun i s' => ∃ H1, Inv X pins σ H1 s' ∧ Same H H1 ∧ (bs.take i).any (fun b => decide (b = a) || e b) = false) ?_ ?_ ⟨H, I, fun _ _ z => z, rfl⟩
  · rintro i s1 ⟨H1, I1, sm, no⟩
    obtain ⟨hz, its, m, rv, hg⟩ := (show ObjOk X.prog X.w H1 s1.heap l (.lst (bs.map V.ref)) from I1.hok l _ (sm _ _ hl))
    have hlen : its.length = bs.length := by rw [← rv.length, List.length_map]
    refine ⟨its.toArray, m, hg, by simp [hlen], fun h1 => ?_⟩
    have hi : i < bs.length := by simpa [hlen] using h1
    obtain ⟨u, hu, ru⟩ := rv.get (i := i) (x := .ref bs[i]) (by simp [hi])
    have eu : its.toArray[i] = Value.ref bs[i] := by
      have : its[i]? = some (Value.ref bs[i]) := by rw [hu]; exact congrArg some ru
      have h2 : i < its.length := by omega
      rw [List.getElem?_eq_getElem h2] at this
      simpa using Option.some.inj this
    rw [eu]
    have mem : bs[i] ∈ bs := List.getElem_mem hi
    have step : ∀ r : Bool, (decide (bs[i] = a) || e bs[i]) = r → ∀ s2 H2, Inv X pins σ H2 s2 → Same H H2 → (if r = true then wants (fun v s' => ∃ b, v = .bool b ∧ Q b s') X.xe (.ok (.ret (.bool true))) s2 else ∃ H1, Inv X pins σ H1 s2 ∧ Same H H1 ∧ (bs.take (i + 1)).any (fun b => decide (b = a) || e b) = false) := by
      intro r er s2 H2 I2 sm2
      have tk : bs.take (i + 1) = bs.take i ++ [bs[i]] := by rw [List.take_succ, List.getElem?_eq_getElem hi]; rfl
      cases r with
      | true =>
        rw [if_pos rfl]
        refine ⟨true, rfl, ?_⟩
        have hq := q s2 H2 I2 sm2
        rw [show (bs.any fun b => decide (b = a) || e b) = true from List.any_eq_true.mpr ⟨_, mem, er⟩] at hq
        exact hq
      | false =>
        rw [if_neg Bool.false_ne_true]
        refine ⟨H2, I2, sm2, ?_⟩
        rw [tk, List.any_append, no, List.any_cons, er]
        rfl
    by_cases hab : bs[i] = a
    · rw [hab]
      exact SeqAt.EqAt.same (A := X.A.in1) (s := s1) (.ref a) X.prog X.w _ _ (step true (by simp [hab]) s1 H1 I1 sm)
    · obtain ⟨dy, gs, hbi⟩ := hb _ mem
      refine GQ.eqBool_refG hab ?_
      obtain ⟨mA, O, _⟩ := ins_get I1.hok (sm _ _ hbi)
      obtain ⟨od, J, _⟩ := O.look
      obtain ⟨mB, O2, _⟩ := ins_get I1.hok (sm _ _ ha)
      obtain ⟨od2, J2, _⟩ := O2.look
      obtain ⟨m2, hF⟩ := I1.fr
      refine PySem.W.cmp_K (op := .Eq) (tb := .ref C) hr.in1.units0 hF I1.ok.mod.kin J J2.type (by simp [PySem.W.notFirst]) hs hf ?_
      refine wpAny_mono (wpAny_call (SlX.run_at (us := [.ref bs[i], .ref a]) (ws := [.ref bs[i], .ref a]) (Q := fun z H2 => z = .bl (e bs[i]) ∧ Same H1 H2) F hr.in1 I1.env0.in1 passL I1 (.cons rfl (.cons rfl .nil)) (hsp _ mem H1 sm _ fun H2 s2 => ⟨rfl, s2⟩))) (fun z s2 hz2 => ?_) fun _ _ x => x
      obtain ⟨z2, H2, I2, rz, rfl, sm2⟩ := hz2
      cases (show z = Value.bool (e bs[i]) from rz)
      exact ⟨e bs[i], rfl, step _ (by simp [hab]) s2 H2 I2 (sm.trans sm2)⟩
  · rintro s1 ⟨H1, I1, sm, no⟩
    have hq := q s1 H1 I1 sm
    rw [List.take_length] at no
    rw [no] at hq
    exact hq
theorem op_inO (hs : PySem.W.findIn X.K (.ref C) "__eq__" = some (some (.ref g))) (hf : PySem.W.isFn X.K (.ref g) = true) (F : FnR X.prog X.w X.K X.mg X.base (L2.CX X.prog X.w) n g sp) (hr : Room (n + 1) X.A) : OpR X (compareOp .In) (rInO C sp false) := by
  intro pins s σ H x y v u Q I rx ry h
  obtain ⟨a, l, dx, fs, bs, e, rfl, rfl, hl, ha, hb, hsp, q⟩ := h
  cases (show v = Value.ref a from rx)
  cases (show u = Value.ref l from ry)
  show wpAny _ _ (do return Value.bool (← contains (.ref l) (.ref a))) _ _ _
  exact wpAny_bind (contO hs hf F hr I hl ha hb hsp fun s' H' I' sm => wpAny_pure ⟨.bl _, H', I', rfl, q H' sm⟩)
theorem op_notInO (hs : PySem.W.findIn X.K (.ref C) "__eq__" = some (some (.ref g))) (hf : PySem.W.isFn X.K (.ref g) = true) (F : FnR X.prog X.w X.K X.mg X.base (L2.CX X.prog X.w) n g sp) (hr : Room (n + 1) X.A) : OpR X (compareOp .NotIn) (rInO C sp true) := by
  intro pins s σ H x y v u Q I rx ry h
  obtain ⟨a, l, dx, fs, bs, e, rfl, rfl, hl, ha, hb, hsp, q⟩ := h
  cases (show v = Value.ref a from rx)
  cases (show u = Value.ref l from ry)
  show wpAny _ _ (do return Value.bool (!(← contains (.ref l) (.ref a)))) _ _ _
  exact wpAny_bind (contO hs hf F hr I hl ha hb hsp fun s' H' I' sm => wpAny_pure ⟨.bl _, H', I', rfl, q H' sm⟩)
end
end S
namespace S
open PySem PySem.Spec PyProof.Rows L2
/-! ### classes with slots -/
/-- the descriptor of a slot -/
def slA (K : Frag) (C : Addr) (f : Str) : Addr := match PySem.W.findIn K (.ref C) f with | some (some (.ref p)) => p | _ => 0
def sclB (K : Frag) (C : Addr) : Bool := PySem.W.plainGet K C Str.empty && (PySem.W.isClsIn K C && (PySem.W.plainOver K C && He.eqO (PySem.W.findIn K (.ref C) "__setattr__") (some (some (.builtin "object.__setattr__")))))
theorem sclB_ok {K : Frag} {C : Addr} (q : sclB K C = true) : SlX.SCls K C := by
  obtain ⟨a, q⟩ := He.ba q
  obtain ⟨b, q⟩ := He.ba q
  obtain ⟨c, d⟩ := He.ba q
  exact ⟨a, b, c, He.eqO_ok d⟩
theorem sisB_ok {K : Frag} {C : Addr} (q : insB K C = true) : SlX.SIsi K C := let i := insB_ok q; ⟨i.ha, i.hn, i.ht, i.hm⟩
def sltB (K : Frag) (C : Addr) (f : Str) (i : Nat) : Bool := He.eqO (PySem.W.findIn K (.ref C) f) (some (some (.ref (slA K C f)))) && (He.eqO (PySem.W.specialIn K (.ref (slA K C f)) "__get__") (some (some (.builtin "member_descriptor.__get__"))) &&
  (decide (PySem.W.takesIn K (.ref (slA K C f)) = some true) && (decide (PySem.W.typeIn K (.ref (slA K C f)) = some (.type "member_descriptor")) && decide (PySem.W.slotIn K (slA K C f) C = some i))))
theorem sltB_ok {K : Frag} {C : Addr} {f : Str} {i : Nat} (hi : i < 1000) (q : sltB K C f i = true) : SlX.Slot1 K C f (slA K C f) i := by
  obtain ⟨a, q⟩ := He.ba q
  obtain ⟨b, q⟩ := He.ba q
  obtain ⟨c, q⟩ := He.ba q
  obtain ⟨d, e⟩ := He.ba q
  exact ⟨He.eqO_ok a, He.eqO_ok b, of_decide_eq_true c, of_decide_eq_true d, of_decide_eq_true e, hi⟩
section
variable {X : Cx} {CX : CXT} {k n : Nat} {f C : Addr} {fd : FuncData} {ps ks : List Str} {sp : Sp} {E : L2.St → XK} {m : Str} {pos apos : Pos} {o e : Expr} {es : List Expr} {kws : List Keyword} {ta : TE} {t tk : TA} {g : List Value → List Value → List Value} {gV : List V → List V → List V}
def tMtL (C : Addr) (n l : Nat) (sp : Sp) (gV : List V → List V → List V) (E : L2.St → XK) (ta : TE) (t tk : TA) : TE := fun σ H Q =>
  ta σ H fun x H1 => ∃ a dx fs, x = .ref a ∧ SlX.Slt H1 a C dx fs ∧
    t σ H1 fun vs H2 => tk σ H2 fun zs H3 => vs.length = n ∧ zs.length = l ∧ sp (gV (x :: vs) zs) H3 Q (E σ)
theorem pe_mtL {pl : Sem Bool} (he : PE X o ta) (c : SlX.SCls X.K C) (hm : Meth X.K C m f) (F : FnOk X.prog X.w X.K X.mg X.base CX k f fd ps sp) (hr : Room k X.A) (hb : KBn X.K fd ps (n + 1) ks g gV) (hx : ∀ σ, PassesAt CX X σ (E σ))
    (ha : PA X (e :: es) t) (hkw : PK X kws tk) (hall : (backToKw pos (keywordEach kws X.env)).all (·.1.isSome) = true) (hks : (backToKw pos (keywordEach kws X.env)).filterMap (·.1) = ks)
    (hst : starEach (e :: es) X.env = (false, eval e X.env) :: starEach es X.env := by rfl)
    (hpl : ((backTo pos (starEach (e :: es) X.env)).any (·.1) || (backToKw pos (keywordEach kws X.env)).any (·.1.isNone)) = false := by rfl)
    (ht : eval (.Call (.Attribute o m apos) (e :: es) kws pos) X.env = (do
      let ov ← eval o X.env
      standAt apos.atName
      let (f, first) ← holding [ov] (getMethod ov m pl)
      callWith pos f first (backTo pos (starEach (e :: es) X.env)) (backToKw pos (keywordEach kws X.env))) := by rfl) :
    PE X (.Call (.Attribute o m apos) (e :: es) kws pos) (tMtL C n ks.length sp gV E ta t tk) := by
  refine ⟨fun pins s σ H Q I h => PySem.W.methodCall_KW (pl := pl) (thn (he.run pins s σ H _ I h) fun u s1 ⟨x, H1, I1, rx, a, dx, fs, ex, ea, q⟩ => ?_) ht⟩
  subst ex
  cases (show u = Value.ref a from rx)
  refine SlX.getmethsl_ok I1 ea c hm (PySem.W.callWith_KW (first := [.ref a]) (h₀ := X.base) I.ok.mod.kin hm.kp hall (thn (ha.run pos pins s1 σ H1 _ I1 q) fun us s2 ⟨vs, H2, I2, r, q2⟩ =>
    thn (hkw.run pos pins s2 σ H2 _ I2 q2) fun ws s3 ⟨zs, H3, I3, rz, l1, l2, q3⟩ => ⟨I3.kIn, ?_⟩) hpl hst)
  rw [hks]
  exact run_S (us := .ref a :: us) (vs := .ref a :: vs) F hr hb (hx σ) I3 (.cons rfl r) rz (congrArg Nat.succ l1) l2 q3
theorem pe_mtL0 {pl : Sem Bool} (he : PE X o ta) (c : SlX.SCls X.K C) (hm : Meth X.K C m f) (F : FnOk X.prog X.w X.K X.mg X.base CX k f fd ps sp) (hr : Room k X.A) (hb : KBn X.K fd ps (0 + 1) ks g gV) (hx : ∀ σ, PassesAt CX X σ (E σ))
    (hkw : PK X kws tk) (hall : (backToKw pos (keywordEach kws X.env)).all (·.1.isSome) = true) (hks : (backToKw pos (keywordEach kws X.env)).filterMap (·.1) = ks)
    (hpl : ((backTo pos (starEach [] X.env)).any (·.1) || (backToKw pos (keywordEach kws X.env)).any (·.1.isNone)) = false := by rfl)
    (ht : eval (.Call (.Attribute o m apos) [] kws pos) X.env = (do
      let ov ← eval o X.env
      standAt apos.atName
      let (f, first) ← holding [ov] (getMethod ov m pl)
      callWith pos f first (backTo pos (starEach [] X.env)) (backToKw pos (keywordEach kws X.env))) := by rfl) :
    PE X (.Call (.Attribute o m apos) [] kws pos) (tMtL C 0 ks.length sp gV E ta tNil tk) := by
  refine ⟨fun pins s σ H Q I h => PySem.W.methodCall_KW (pl := pl) (thn (he.run pins s σ H _ I h) fun u s1 ⟨x, H1, I1, rx, a, dx, fs, ex, ea, q⟩ => ?_) ht⟩
  subst ex
  cases (show u = Value.ref a from rx)
  refine SlX.getmethsl_ok I1 ea c hm (PySem.W.callWith_KW0 (first := [.ref a]) (h₀ := X.base) I.ok.mod.kin hm.kp hall
    (thn (hkw.run pos pins s1 σ H1 _ I1 q) fun ws s3 ⟨zs, H3, I3, rz, l1, l2, q3⟩ => ⟨I3.kIn, ?_⟩) hpl)
  rw [hks]
  exact run_S (us := [.ref a]) (vs := [.ref a]) F hr hb (hx σ) I3 (.cons rfl .nil) rz rfl l2 q3
end
/-! str(x) by the class's own def -/
section
variable {X : Cx} {C g : Addr} {n : Nat} {sp : Sp}
def rStrL (C : Addr) (sp : Sp) : List V → Hp → VK → Prop := fun xs H Q => ∃ a dx vs, xs = [V.ref a] ∧ SlX.Slt H a C dx vs ∧ sp [.ref a] H (fun z H' => ∃ y, z = .str y ∧ Q z H') E0
theorem call_strL (hs : PySem.W.findIn X.K (.ref C) "__str__" = some (some (.ref g))) (hf : PySem.W.isFn X.K (.ref g) = true) (F : FnR X.prog X.w X.K X.mg X.base (L2.CX X.prog X.w) n g sp) (hr : Room (n + 2) X.A) : CallR X (.type "str") (rStrL C sp) := by
  intro pins s σ H xs us Q I r h
  obtain ⟨a, dx, vs, rfl, hsl, q⟩ := h
  obtain ⟨u, rfl, ru⟩ := r.one
  cases (show u = Value.ref a from ru)
  obtain ⟨sl, od, _, J, _⟩ := SlX.slt_inst I hsl
  have hr2 : Room n X.A.in1.in1 := (show Room (n + 1) X.A.in1 from Room.in1 hr).in1
  refine PySem.W.kso_call hr2.units0 I.kIn J hs hf (wpAny_mono (wpAny_call (SlX.run_at (us := [.ref a]) (ws := [.ref a]) F hr2 I.env0.in1.in1 passL I (.cons rfl .nil) q)) (fun w s' z => ?_) fun _ _ x => x)
  obtain ⟨z', H', I', rz, y, ey, qz⟩ := z
  subst ey
  obtain ⟨t, e⟩ := (show ∃ t, w = Value.str y t from rz)
  cases e
  exact ⟨.str y, H', I', ⟨t, rfl⟩, qz⟩
end
/-! isinstance of an instance with slots, or of another thing -/
section
variable {X : Cx} {K : Frag}
theorem call_or {v : Value} {r1 r2 : List V → Hp → VK → Prop} (h1 : CallR X v r1) (h2 : CallR X v r2) : CallR X v (fun xs H Q => r1 xs H Q ∨ r2 xs H Q) := by
  intro pins s σ H xs us Q I r h
  rcases h with h | h
  · exact h1 pins s σ H xs us Q I r h
  · exact h2 pins s σ H xs us Q I r h
theorem isiLK (hK : X.K = K) (C : Addr) : CallR X (.builtin "isinstance") (SlX.rIsiSl K (.ref C)) := hK ▸ SlX.call_isiSl (.ref C)
theorem isi2K (hK : X.K = K) (C : Addr) : CallR X (.builtin "isinstance") (fun xs H Q => SlX.rIsiSl K (.ref C) xs H Q ∨ rIsi K xs H Q) := call_or (isiLK hK C) (isiK hK)
end
end S
namespace S
open PySem PySem.Spec PyProof.Rows L2
/-! ### + - * // of own instances with slots, among themselves and with ints -/
theorem ps_never {X : Cx} {st : Stmt} : PS X st (fun _ _ _ => False) := ⟨fun _ _ _ _ _ _ h => h.elim⟩
section
open PySem.W PySem.Calls
variable {prog : Program} {w : World} {A : Around} {E : Value → Shared → Prop} {s : Shared} {K : Frag} {x C f f0 : Addr} {ox : Obj} {od : Option Obj}
/-- at x stands no int -/
def NoInt (x : Addr) (s : Shared) : Prop := ∃ o : Obj, s.heap.get? x = some o ∧ ∀ i t, o.data ≠ .prim (.int i t)
theorem asInt_no {M : Model} {A : Around} {E : Value → Shared → Prop} {s : Shared} {x : Addr} {Q : Option Int → Shared → Prop} (h : NoInt x s) (q : Q none s) : wpAny M A (asInt? (.ref x)) Q E s := by
  obtain ⟨o, ho, hn⟩ := h
  show wpAny M A (load x >>= _) Q E s
  refine wpAny_bind (wpAny_load ho ?_)
  split
  · rename_i i t e
    exact absurd e (hn i t)
  · exact wpAny_pure q
theorem decl_bin {prog : Program} {w : World} {A : Around} {R : Result → Shared → Prop} {s : Shared} {name : String} {f : Int → Int → Sem Fin} {a : Int} {t : Tok} {x : Addr} (h : NoInt x s) (q : R (.ok (.ret .notImplemented)) s) :
    wpAny (model prog w) A.in1 (Builtin.Int.intBinary name f false ⟨[.int a t, .ref x], []⟩) (fun fin s' => match fin with | .done f => R (.ok f) s' | .again c' => c'.quiet = true ∧ codeAny (model prog w) A c' R s') (fun e s' => R (.error e) s') s := by
  unfold Builtin.Int.intBinary
  refine wpAny_bind (wpAny_of_eq (a := (.int a t, [.ref x])) rfl ?_)
  refine wpAny_bind (wpAny_of_eq (a := a) rfl ?_)
  refine wpAny_bind (asInt_no h ?_)
  exact wpAny_bind (wpAny_rule (wpAny_pure q))
theorem decl_add (a : Int) (t : Tok) (x : Addr) : GivesAt (NoInt x) (Builtin.«int.__add__» ⟨[.int a t, .ref x], []⟩) (.val (Value.notImplemented)) := fun prog w A R s h q => decl_bin h q
theorem decl_sub (a : Int) (t : Tok) (x : Addr) : GivesAt (NoInt x) (Builtin.«int.__sub__» ⟨[.int a t, .ref x], []⟩) (.val (Value.notImplemented)) := fun prog w A R s h q => decl_bin h q
theorem decl_mul (a : Int) (t : Tok) (x : Addr) : GivesAt (NoInt x) (Builtin.«int.__mul__» ⟨[.int a t, .ref x], []⟩) (.val (Value.notImplemented)) := fun prog w A R s h q => decl_bin h q
theorem decl_floordiv (a : Int) (t : Tok) (x : Addr) : GivesAt (NoInt x) (Builtin.«int.__floordiv__» ⟨[.int a t, .ref x], []⟩) (.val (Value.notImplemented)) := fun prog w A R s h q => by
  unfold Builtin.«int.__floordiv__»
  refine wpAny_bind ?_
  refine wpAny_bind (m := asInt? (.int a t)) (wpAny_of_eq (a := some a) rfl ?_)
  refine wpAny_bind (m := asInt? (.ref x)) (asInt_no h ?_)
  exact wpAny_pure (decl_bin h q)
/-- what is known of int's own slot for an operator -/
structure IntOp (op : Operator) (idl : String) (B : Builtin) : Prop where
  fl : fillsNumberSlot (.type "int") op.info.2 = pure true
  sl : Slot "int" (PySem.dunder op.info.2) idl
  en : entryFor table idl = some B
  ar : ∀ a b : Value, argsOk idl ⟨[a, b], []⟩
  de : ∀ (a : Int) (t : Tok) (x : Addr), GivesAt (NoInt x) (B ⟨[.int a t, .ref x], []⟩) (.val (Value.notImplemented))
theorem io_add : IntOp .Add "int.__add__" Builtin.«int.__add__» := ⟨PySem.F.fills_int_add, PySem.F.slot_int_add, PySem.F.entry_int_add, PySem.F.args_int_add_2, decl_add⟩
theorem io_sub : IntOp .Sub "int.__sub__" Builtin.«int.__sub__» := ⟨PySem.F.fills_int_sub, PySem.F.slot_int_sub, PySem.F.entry_int_sub, PySem.F.args_int_sub_2, decl_sub⟩
theorem io_mul : IntOp .Mult "int.__mul__" Builtin.«int.__mul__» := ⟨PySem.F.fills_int_mul, PySem.F.slot_int_mul, PySem.F.entry_int_mul, PySem.F.args_int_mul_2, decl_mul⟩
theorem io_fdiv : IntOp .FloorDiv "int.__floordiv__" Builtin.«int.__floordiv__» := ⟨PySem.F.fills_int_floordiv, PySem.F.slot_int_floordiv, PySem.F.entry_int_floordiv, PySem.F.args_int_floordiv_2, decl_floordiv⟩
theorem bin_refl {op : Operator} {idl : String} {B : Builtin} {i : Int} {t : Tok} {Q : Value → Shared → Prop} (io : IntOp op idl B) (X : K.In s.heap) (I : InstAt s.heap x ox C od) (hno : NoInt x s) (hc : selfFirst K C = true)
    (hs : findIn K (.ref C) (PySem.dunder op.info.2) = some (some (.ref f0))) (hsR : findIn K (.ref C) (dunderR op.info.2) = some (some (.ref f))) (hf : isFn K (.ref f) = true) (hsub : subIn K (.ref C) (.type "int") = some false)
    (h : wpAny (model prog w) A (call (.ref f) [.ref x, .int i t]) (PySem.W.CmpBack Q) E s) : wpAny (model prog w) A (binaryOp op (.int i t) (.ref x)) Q E s := by
  obtain ⟨fl, sl, en, ar, de⟩ := io
  obtain ⟨cd, rest, hcd, hm⟩ := ksp_first hc
  rcases hi : op.info with ⟨sym, nm⟩
  rw [hi] at fl sl hs hsR
  simp only [binaryOp, hi]
  refine wpAny_holding (wpAny_bind ?_)
  simp only [binaryOp1]
  have ha := typeIs_int s i t
  refine wpAny_bind (wpAny_typeOf ha (wpAny_bind (I.type.here (wpAny_bind (wpAny_of_eq fl ?_)))))
  have hne : (Value.type "int" == Value.ref C) = false := Bool.eq_false_iff.mpr fun q => by cases beq_iff_eq.mp q
  simp only [hne, Bool.false_eq_true, if_false]
  refine wpAny_bind ((fills_K X hcd hm hs).here ?_)
  simp only [Bool.and_self, if_true]
  refine wpAny_bind ((looks_subIn X hsub).here ?_)
  have hpy : numberSlotInPython (.type "int") nm = pure false := rfl
  simp only [Bool.false_eq_true, if_false, pure_bind, Bool.not_false, Bool.and_self, if_true, hpy]
  simp only [tryMethod]
  refine wpAny_bind (wpAny_bind (wpAny_callSpecial?_slot ha sl (wpAny_mono (call_givesAt (Q := fun v s1 => v = .notImplemented ∧ s1 = s) sl ha en (ar _ _) (de i t x) hno ⟨rfl, rfl⟩) (fun v s1 h1 => ?_) fun _ _ x => x)))
  obtain ⟨rfl, rfl⟩ := h1
  refine wpAny_pure (wpAny_bind (wpAny_bind (special_fn X I hsR (beq_iff_eq.mp hf) (wpAny_mono h (fun v s' hv => ?_) fun _ _ e => e))))
  cases v <;> first | exact hv.elim | exact wpAny_pure (wpAny_bind (wpAny_rule (wpAny_pure (wpAny_pure hv))))
end
/-- what of the text a class must have for an operator -/
structure BinC (K : Frag) (C : Addr) (nm : String) (f g : Addr) : Prop where
  sf : PySem.W.selfFirst K C = true
  at_ : PySem.W.findIn K (.ref C) (PySem.dunder nm) = some (some (.ref f))
  fn : PySem.W.isFn K (.ref f) = true
  atR : PySem.W.findIn K (.ref C) (dunderR nm) = some (some (.ref g))
  fnR : PySem.W.isFn K (.ref g) = true
  su : PySem.W.subIn K (.ref C) (.type "int") = some false
  us : PySem.W.subIn K (.type "int") (.ref C) = some false
  i1 : ∃ fo, PySem.W.findIn K (.type "int") (PySem.dunder nm) = some fo
  i2 : ∃ ro, PySem.W.findIn K (.type "int") (dunderR nm) = some ro
def binB (K : Frag) (C : Addr) (nm : String) (f g : Addr) : Bool := PySem.W.selfFirst K C && (He.eqO (PySem.W.findIn K (.ref C) (PySem.dunder nm)) (some (some (.ref f))) && (PySem.W.isFn K (.ref f) &&
  (He.eqO (PySem.W.findIn K (.ref C) (dunderR nm)) (some (some (.ref g))) && (PySem.W.isFn K (.ref g) && (decide (PySem.W.subIn K (.ref C) (.type "int") = some false) && (decide (PySem.W.subIn K (.type "int") (.ref C) = some false) &&
  ((PySem.W.findIn K (.type "int") (PySem.dunder nm)).isSome && (PySem.W.findIn K (.type "int") (dunderR nm)).isSome)))))))
theorem binB_ok {K : Frag} {C : Addr} {nm : String} {f g : Addr} (q : binB K C nm f g = true) : BinC K C nm f g := by
  obtain ⟨a, q⟩ := He.ba q
  obtain ⟨b, q⟩ := He.ba q
  obtain ⟨c, q⟩ := He.ba q
  obtain ⟨d, q⟩ := He.ba q
  obtain ⟨e, q⟩ := He.ba q
  obtain ⟨f, q⟩ := He.ba q
  obtain ⟨g, q⟩ := He.ba q
  obtain ⟨h, i⟩ := He.ba q
  exact ⟨a, He.eqO_ok b, c, He.eqO_ok d, e, of_decide_eq_true f, of_decide_eq_true g, Option.isSome_iff_exists.mp h, Option.isSome_iff_exists.mp i⟩
/-- x op y, one of them an instance of C, the other too, or an int -/
def rBinL (C : Addr) (sp spR : Sp) (E : XK) : R2 := fun x y H Q =>
  (∃ a dx vs b dy ws, x = .ref a ∧ y = .ref b ∧ SlX.Slt H a C dx vs ∧ SlX.Slt H b C dy ws ∧ sp [x, y] H Q E) ∨
  (∃ a dx vs i, x = .ref a ∧ y = .int i ∧ SlX.Slt H a C dx vs ∧ sp [x, y] H Q E) ∨
  (∃ b dy ws i, x = .int i ∧ y = .ref b ∧ SlX.Slt H b C dy ws ∧ spR [y, x] H Q E)
def tBinL (C : Addr) (sp spR : Sp) (E : L2.St → XK) (ta tb : TE) : TE := fun σ H Q => ta σ H fun x H1 => tb σ H1 fun y H2 => rBinL C sp spR (E σ) x y H2 Q
section
variable {X : Cx} {C f g : Addr} {n k : Nat} {sp spR : Sp} {E : L2.St → XK} {op : Operator} {idl : String} {B : Builtin} {a b : Expr} {ta tb : TE} {pos : Pos}
/-- the callee runs below the running body, what is raised wished for at the slots -/
theorem run_fnAt {CX : CXT} {E : XK} {pins : List (Addr × Obj)} {σ : L2.St} {H : Hp} {s : Shared} {Q : VK} {us : List Value} {ws : List V} (F : FnR X.prog X.w X.K X.mg X.base CX n f sp) (hr : Room n X.A) (hx : PassesAt CX X σ E) (I : Inv X pins σ H s) (r : Vals ws us) (h : sp ws H Q E) :
    codeAny (model X.prog X.w) X.A (.call (.ref f) ⟨us, []⟩) (fun r s' => match r with | .ok (.ret v) => EP X pins σ Q v s' | .ok _ => False | .error e => X.xe e s') s := by
  refine codeAny_mono (F X.A X.stack s H us ws Q E hr I.env0 r h) fun r s' hq => ?_
  match r, hq with
  | .error e, hq => exact hx pins H s e s' I hq
  | .ok (.ret u), hq => exact I.after hq
  | .ok .next, hq => exact hq.elim
  | .ok .brk, hq => exact hq.elim
  | .ok .cont, hq => exact hq.elim
theorem cb_of {pins : List (Addr × Obj)} {σ : L2.St} {Q : VK} {w : Value} {s' : Shared} (z : EP X pins σ Q w s') : PySem.W.CmpBack (EP X pins σ Q) w s' := by
  obtain ⟨v, H', I', rz, qz⟩ := z
  exact SlX.cmpback rz ⟨v, H', I', rz, qz⟩
theorem pe_binL (io : IntOp op idl B) (c : BinC X.K C op.info.2 f g) (F : FnR X.prog X.w X.K X.mg X.base (L2.CX X.prog X.w) n f sp) (hr : Room n X.A) (G : FnR X.prog X.w X.K X.mg X.base (L2.CX X.prog X.w) k g spR) (hr2 : Room k X.A)
    (hx : ∀ σ, PassesAt (L2.CX X.prog X.w) X σ (E σ)) (ha : PE X a ta) (hb : PE X b tb) : PE X (.BinOp a op b pos) (tBinL C sp spR E ta tb) := by
  refine ⟨fun pins s σ H Q I h => wpAny_BinOp (binT ha hb I (R := fun x y H2 => rBinL C sp spR (E σ) x y H2 Q) h fun v u s2 x y H2 I2 rx ry q => ?_)⟩
  obtain ⟨m, hF⟩ := I2.fr
  rcases q with ⟨a, dx, vs, b, dy, ws, rfl, rfl, h1, h2, q⟩ | ⟨a, dx, vs, i, rfl, rfl, h1, q⟩ | ⟨b, dy, ws, i, rfl, rfl, h1, q⟩
  · cases (show v = Value.ref a from rx)
    cases (show u = Value.ref b from ry)
    obtain ⟨sl, od, _, J, _⟩ := SlX.slt_inst I2 h1
    obtain ⟨sl', od', _, J', _⟩ := SlX.slt_inst I2 h2
    exact PySem.W.binop_K hF I2.ok.mod.kin J J'.type c.sf c.at_ c.fn (wpAny_mono (wpAny_call (run_fnAt (us := [.ref a, .ref b]) (ws := [.ref a, .ref b]) F hr (hx σ) I2 (.cons rfl (.cons rfl .nil)) q)) (fun w s' z => cb_of z) fun _ _ x => x)
  · cases (show v = Value.ref a from rx)
    obtain ⟨t, rfl⟩ := (show ∃ t, u = Value.int i t from ry)
    obtain ⟨sl, od, _, J, _⟩ := SlX.slt_inst I2 h1
    obtain ⟨fo, e1⟩ := c.i1
    obtain ⟨ro, e2⟩ := c.i2
    exact PySem.W.ksp_binT (T := "int") hF I2.ok.mod.kin J rfl c.sf c.at_ c.fn c.atR (.inr ⟨_, rfl⟩) e1 e2 c.us (wpAny_mono (wpAny_call (run_fnAt (us := [.ref a, .int i t]) (ws := [.ref a, .int i]) F hr (hx σ) I2 (.cons rfl (.cons ⟨t, rfl⟩ .nil)) q)) (fun w s' z => cb_of z) fun _ _ x => x)
  · obtain ⟨t, rfl⟩ := (show ∃ t, v = Value.int i t from rx)
    cases (show u = Value.ref b from ry)
    obtain ⟨sl, od, _, J, _⟩ := SlX.slt_inst I2 h1
    exact bin_refl io I2.kIn J ⟨_, J.at_, fun _ _ => by intro z; cases z⟩ c.sf c.at_ c.atR c.fnR c.su (wpAny_mono (wpAny_call (run_fnAt (us := [.ref b, .int i t]) (ws := [.ref b, .int i]) G hr2 (hx σ) I2 (.cons rfl (.cons ⟨t, rfl⟩ .nil)) q)) (fun w s' z => cb_of z) fun _ _ x => x)
/-- - x -/
def rNegL (C : Addr) (sp : Sp) : V → Hp → VK → Prop := fun x H Q => ∃ a dx vs, x = .ref a ∧ SlX.Slt H a C dx vs ∧ sp [x] H Q E0
theorem un_negL (hs : PySem.W.findIn X.K (.ref C) "__neg__" = some (some (.ref f))) (hf : PySem.W.isFn X.K (.ref f) = true) (F : FnR X.prog X.w X.K X.mg X.base (L2.CX X.prog X.w) n f sp) (hr : Room n X.A) : UnR X (unaryOp .USub) (rNegL C sp) := by
  intro pins s σ H x v Q I rx h
  obtain ⟨a, dx, vs, rfl, h1, q⟩ := h
  cases (show v = Value.ref a from rx)
  obtain ⟨sl, od, _, J, _⟩ := SlX.slt_inst I h1
  obtain ⟨m, hF⟩ := I.fr
  exact PySem.W.ksp_neg hF I.ok.mod.kin J hs hf (wpAny_call (run_fnR (us := [.ref a]) (vs := [.ref a]) F hr passL I (.cons rfl .nil) q))
/-! raise C(), C a class of the text with no __init__ -/
theorem pmk_own0 {bmB : List Value} {BB newId initId : String} {x : Str} {p : Pos} (F : ExcBaseFacts BB newId initId bmB) (q : PySem.W.excIn X.K C bmB newId = true) (gC : X.mg x = some (.ref C))
    (kC : PySem.W.keepIn X.K (.ref C) = true) (r : Raises X (.ref C)) (hg : Gl X x) (hdb : (x == ("__debug__" : Str)) = false := by decide) :
    PMk X (.Call (.Name x p) [] [] pos) (fun _ H Q => Q (.ref C) none H) := by
  intro pins s σ H Q I h
  refine wpAny_Call_Name_kw (ld_glob I hg gC ?_ hdb)
  refine PySem.W.callWith_K0 (first := []) I.kIn kC ?_
  show wpAny _ _ (call (.ref C) []) _ _ _
  obtain ⟨bm, N, nm, qn, bs, hdct, sn, sub, ab, col, dd, k0, k1, k2, k3, k5, mN, hC, hN, hni, T⟩ := exc_obj I.kIn q
  refine wpAny_call_exc_subT F T hC hN hni (fun h' e hm => ?_) (Nat.zero_le _)
  exact mk_of I hm r h (I.hok.gone hm.new)
end
structure Ex0 (K : Frag) (C : Addr) : Prop where
  ex : PySem.W.excIn K C [.type "ValueError", .type "Exception", .type "BaseException", .type "object"] "ValueError.__new__" = true
  kp : PySem.W.keepIn K (.ref C) = true
  sb : PySem.W.subIn K (.ref C) (.type "BaseException") = some true
  ty : PySem.W.typeIn K (.ref C) = some (.type "type")
def ex0B (K : Frag) (C : Addr) : Bool := PySem.W.excIn K C [.type "ValueError", .type "Exception", .type "BaseException", .type "object"] "ValueError.__new__" && (PySem.W.keepIn K (.ref C) &&
  (decide (PySem.W.subIn K (.ref C) (.type "BaseException") = some true) && decide (PySem.W.typeIn K (.ref C) = some (.type "type"))))
theorem ex0B_ok {K : Frag} {C : Addr} (q : ex0B K C = true) : Ex0 K C := by
  obtain ⟨a, q⟩ := He.ba q
  obtain ⟨b, q⟩ := He.ba q
  obtain ⟨c, d⟩ := He.ba q
  exact ⟨a, b, of_decide_eq_true c, of_decide_eq_true d⟩
theorem ps_raiseP {X : Cx} {C : Addr} {W : WX} {x : Str} {p pos pos2 : Pos} (hc : X.calm = true) (tk : Takes X W) (c : Ex0 X.K C) (hg : Gl X x) (gC : X.mg x = some (.ref C)) (hdb : (x == ("__debug__" : Str)) = false := by decide) :
    PS X (.Raise (some (.Call (.Name x p) [] [] pos)) none pos2) (fun _ σ H => W (.ref C) none σ H) :=
  ps_raise hc tk (pmk_own0 PySem.F.excBase_ValueError c.ex gC c.kp (raises_own c.sb c.ty) hg hdb)
end S
namespace S
open PySem PySem.Spec PyProof.Rows L2
/-! abs(x) by the class's own def -/
section
variable {X : Cx} {C g : Addr} {n : Nat} {sp : Sp}
def rAbsL (C : Addr) (sp : Sp) : List V → Hp → VK → Prop := fun xs H Q => ∃ a dx vs, xs = [V.ref a] ∧ SlX.Slt H a C dx vs ∧ sp [.ref a] H Q E0
theorem call_absL (hs : PySem.W.findIn X.K (.ref C) "__abs__" = some (some (.ref g))) (hf : PySem.W.isFn X.K (.ref g) = true) (F : FnR X.prog X.w X.K X.mg X.base (L2.CX X.prog X.w) n g sp) (hr : Room (n + 1) X.A) : CallR X (.builtin "abs") (rAbsL C sp) := by
  intro pins s σ H xs us Q I r h
  obtain ⟨a, dx, vs, rfl, hsl, q⟩ := h
  obtain ⟨u, rfl, ru⟩ := r.one
  cases (show u = Value.ref a from ru)
  obtain ⟨sl, od, _, J, _⟩ := SlX.slt_inst I hsl
  refine PySem.Calls.call_function_entry kind_abs plain_abs entry_abs (args_abs _) ?_
  unfold Builtin.«abs»
  refine wpAny_bind (wpAny_of_eq (a := .ref a) rfl ?_)
  refine wpAny_bind (PySem.W.special_fn I.kIn J hs (beq_iff_eq.mp hf) (wpAny_mono (wpAny_call (SlX.run_at (us := [.ref a]) (ws := [.ref a]) F hr.in1 I.env0.in1 passL I (.cons rfl .nil) q)) (fun w s' z => ?_) fun _ _ x => x))
  exact wpAny_pure ⟨_, rfl, z⟩
end
end S
namespace S
open PySem PySem.Spec PyProof.Rows L2
/-! // by any divisor but 0 -/
def CDivN (_ j : Int) : Prop := j ≠ 0 ∧ j.natAbs.log2 < 9000
theorem op_fdivN {X : Cx} : OpR X (binaryOp .FloorDiv) (rI CDivN fun i j => .int (i.fdiv j)) := opI fun i j _ _ _ _ _ hc q => floordiv_int hc.1 q (.inl (PyProof.noPylong_of_log2 hc.2))
end S
namespace S
open PySem PySem.Spec PyProof.Rows L2
/-! ### == < .. of slotted instances by their own defs, the right side an instance of the class or an int -/
section
variable {X : Cx} {n : Nat} {C g : Addr} {sp : Sp}
def rCmpL (K : Frag) (C : Addr) (sp : Sp) : R2 := fun x y H Q => ∃ a dx vs, x = .ref a ∧ SlX.Slt H a C dx vs ∧ ((∃ b dy ws, y = .ref b ∧ SlX.Slt H b C dy ws) ∨ ((∃ i, y = .int i) ∧ PySem.W.notFirst K C (.type "int") = true)) ∧ sp [x, y] H Q E0
theorem op_cmpL {op : CmpOp} (hop : ∀ a b, compareOp op a b = richCompare op a b) (hs : PySem.W.findIn X.K (.ref C) (cmpInfo op).2.1 = some (some (.ref g))) (hf : PySem.W.isFn X.K (.ref g) = true)
    (F : FnR X.prog X.w X.K X.mg X.base (L2.CX X.prog X.w) n g sp) (hr : Room n X.A) : OpR X (compareOp op) (rCmpL X.K C sp) := by
  intro pins s σ H x y v u Q I rx ry h
  obtain ⟨a, dx, vs, rfl, h1, hy, q⟩ := h
  cases (show v = Value.ref a from rx)
  obtain ⟨sl, od, _, J, _⟩ := SlX.slt_inst I h1
  obtain ⟨m, hF⟩ := I.fr
  rw [hop]
  rcases hy with ⟨b, dy, ws, rfl, h2⟩ | ⟨⟨i, rfl⟩, hn⟩
  · cases (show u = Value.ref b from ry)
    obtain ⟨sl', od', _, J', _⟩ := SlX.slt_inst I h2
    refine PySem.W.cmp_K (op := op) (tb := .ref C) hr.units0 hF I.ok.mod.kin J J'.type (by simp [PySem.W.notFirst]) hs hf ?_
    refine wpAny_mono (wpAny_call (run_fnR (us := [.ref a, .ref b]) (vs := [.ref a, .ref b]) F hr passL I (.cons rfl (.cons rfl .nil)) q)) (fun w s' z => ?_) fun _ _ x => x
    obtain ⟨z2, H2, I2, rz, qz⟩ := z
    exact SlX.cmpback rz ⟨z2, H2, I2, rz, qz⟩
  · obtain ⟨t, rfl⟩ := (show ∃ t, u = Value.int i t from ry)
    refine PySem.W.cmp_K (op := op) (tb := .type "int") hr.units0 hF I.ok.mod.kin J (PySem.W.Looks.of_pure rfl) hn hs hf ?_
    refine wpAny_mono (wpAny_call (run_fnR (us := [.ref a, .int i t]) (vs := [.ref a, .int i]) F hr passL I (.cons rfl (.cons ⟨t, rfl⟩ .nil)) q)) (fun w s' z => ?_) fun _ _ x => x
    obtain ⟨z2, H2, I2, rz, qz⟩ := z
    exact SlX.cmpback rz ⟨z2, H2, I2, rz, qz⟩
/-- x != y by x's own ==, both of the class -/
def rNeL (C : Addr) (sp : Sp) : R2 := fun x y H Q => ∃ a dx vs b dy ws, x = .ref a ∧ y = .ref b ∧ SlX.Slt H a C dx vs ∧ SlX.Slt H b C dy ws ∧ sp [x, y] H (fun z H2 => ∃ r, z = .bl r ∧ Q (.bl (!r)) H2) E0
theorem op_neL (hne : PySem.W.findIn X.K (.ref C) "__ne__" = some (some (.builtin "object.__ne__"))) (hm : PySem.W.mroIn X.K C (.type "object") = some true)
    (hs : PySem.W.findIn X.K (.ref C) "__eq__" = some (some (.ref g))) (hf : PySem.W.isFn X.K (.ref g) = true)
    (F : FnR X.prog X.w X.K X.mg X.base (L2.CX X.prog X.w) n g sp) (hr : Room (n + 1) X.A) : OpR X (compareOp .NotEq) (rNeL C sp) := by
  intro pins s σ H x y v u Q I rx ry h
  obtain ⟨a, dx, fs, b, dy, gs, rfl, rfl, ha, hb, q⟩ := h
  cases (show v = Value.ref a from rx)
  cases (show u = Value.ref b from ry)
  obtain ⟨sl, od, _, J, _⟩ := SlX.slt_inst I ha
  obtain ⟨sl', od', _, J2, _⟩ := SlX.slt_inst I hb
  show wpAny _ _ (richCompare .NotEq (.ref a) (.ref b)) _ _ _
  refine ne_K (tb := .ref C) (hu_of hr) I.kIn J J2.type (by simp [PySem.W.notFirst]) hne hm hs hf ?_
  refine wpAny_mono (wpAny_call (SlX.run_at (us := [.ref a, .ref b]) (ws := [.ref a, .ref b]) F hr.in1 I.env0.in1 passL I (.cons rfl (.cons rfl .nil)) q)) (fun w s' z => ?_) fun _ _ x => x
  obtain ⟨z2, H2, I2, rz, r, rfl, qz⟩ := z
  cases (show w = Value.bool r from rz)
  exact ⟨r, rfl, .bl (!r), H2, I2, rfl, qz⟩
end
end S
namespace S
open PySem PySem.Spec PyProof.Rows L2
/-! ### [e for x in ..] by an invariant over the turn and the heap -/
section
variable {K : Frag} {a D : Addr} {xs : List V} {g : TG} {te : TE} {σ : L2.St} {H : Hp} {vs : List Nat} {R0 : Hp → Prop}
theorem lc_list (Pv : Nat → Hp → Prop) (h0 : Pv 0 (upd H D (.lst []))) (hl : ∀ i H, i ≤ xs.length → Pv i H → SqL K H a xs)
    (hs : ∀ i x H, xs[i]? = some x → Pv i H → g x (wipe σ vs) H fun σ2 H2 => wipe σ2 vs = wipe σ vs ∧ te σ2 H2 fun y H4 => ∃ acc, H4 D = some (.lst acc) ∧ acc.length < sizeLine ∧ Pv (i + 1) (upd H4 D (.lst (acc ++ [y]))))
    (hd : ∀ H, Pv xs.length H → R0 H)
    (mono : ∀ x H R R', (∀ σ2 H2, R σ2 H2 → R' σ2 H2) → g x (wipe σ vs) H R → g x (wipe σ vs) H R') :
    ∃ W : Nat → Nat → Hp → Prop, (∃ m, W 0 m (upd H D (.lst []))) ∧ ∀ i m H, W i m H →
      ((Itl K a).stop i H ∧ R0 H) ∨ ((Itl K a).go i H ∧ ∃ Nx : Hp → Prop, (∀ H', Nx H' → ∃ m', m' < m ∧ W (i + 1) m' H') ∧ ∀ x H', (Itl K a).yld i H x H' → g x (wipe σ vs) H' fun σ2 H2 => wipe σ2 vs = wipe σ vs ∧ tYes σ2 H2 fun b H3 =>
        if b = true then te σ2 H3 fun y H4 => ∃ acc, H4 D = some (.lst acc) ∧ acc.length < sizeLine ∧ Nx (upd H4 D (.lst (acc ++ [y]))) else Nx H3) := by
  refine ⟨fun i m H => m = xs.length - i ∧ i ≤ xs.length ∧ Pv i H, ⟨xs.length, by simp, Nat.zero_le _, h0⟩, ?_⟩
  rintro i m H ⟨rfl, hi, p⟩
  have q := hl i H hi p
  by_cases hlt : i < xs.length
  · refine .inr ⟨⟨xs, xs[i], q, by simp [hlt]⟩, Pv (i + 1), fun H' p' => ⟨xs.length - (i + 1), by omega, rfl, hlt, p'⟩, fun x H' y => ?_⟩
    obtain ⟨e, y⟩ := y
    subst e
    exact mono _ _ _ _ (fun σ2 H2 z => ⟨z.1, by unfold tYes; exact iteT z.2⟩) (hs i x _ (y xs q) p)
  · have e : i = xs.length := by omega
    subst e
    exact .inl ⟨⟨xs, q, Nat.le_refl _⟩, hd H p⟩
theorem lc_range {lo : Int} {n : Nat} (Pv : Nat → Hp → Prop) (h0 : Pv 0 (upd H D (.lst [])))
    (hs : ∀ i H, i < n → Pv i H → g (.int (lo + i)) (wipe σ vs) H fun σ2 H2 => wipe σ2 vs = wipe σ vs ∧ te σ2 H2 fun y H4 => ∃ acc, H4 D = some (.lst acc) ∧ acc.length < sizeLine ∧ Pv (i + 1) (upd H4 D (.lst (acc ++ [y]))))
    (hd : ∀ H, Pv n H → R0 H)
    (mono : ∀ x H R R', (∀ σ2 H2, R σ2 H2 → R' σ2 H2) → g x (wipe σ vs) H R → g x (wipe σ vs) H R') :
    ∃ W : Nat → Nat → Hp → Prop, (∃ m, W 0 m (upd H D (.lst []))) ∧ ∀ i m H, W i m H →
      ((Itr lo n).stop i H ∧ R0 H) ∨ ((Itr lo n).go i H ∧ ∃ Nx : Hp → Prop, (∀ H', Nx H' → ∃ m', m' < m ∧ W (i + 1) m' H') ∧ ∀ x H', (Itr lo n).yld i H x H' → g x (wipe σ vs) H' fun σ2 H2 => wipe σ2 vs = wipe σ vs ∧ tYes σ2 H2 fun b H3 =>
        if b = true then te σ2 H3 fun y H4 => ∃ acc, H4 D = some (.lst acc) ∧ acc.length < sizeLine ∧ Nx (upd H4 D (.lst (acc ++ [y]))) else Nx H3) := by
  refine ⟨fun i m H => m = n - i ∧ i ≤ n ∧ Pv i H, ⟨n, by simp, Nat.zero_le _, h0⟩, ?_⟩
  rintro i m H ⟨rfl, hi, p⟩
  by_cases hlt : i < n
  · refine .inr ⟨hlt, Pv (i + 1), fun H' p' => ⟨n - (i + 1), by omega, rfl, hlt, p'⟩, fun x H' y => ?_⟩
    obtain ⟨e, y⟩ := y
    subst e y
    exact mono _ _ _ _ (fun σ2 H2 z => ⟨z.1, by unfold tYes; exact iteT z.2⟩) (hs i _ hlt p)
  · have e : i = n := by omega
    subst e
    exact .inl ⟨Nat.le_refl _, hd H p⟩
theorem gName_mono {i : Nat} {σ : L2.St} : ∀ (x : V) (H : Hp) (R R' : L2.St → Hp → Prop), (∀ σ2 H2, R σ2 H2 → R' σ2 H2) → gName i x σ H R → gName i x σ H R' := fun _ _ _ _ k h => k _ _ h
theorem sumK {X : Cx} (hK : X.K = K) (hc : X.calm = true) : CallR X (.builtin "sum") (rSum K) := hK ▸ cr_sum hc
theorem boot_sum : bootBuiltins "sum" = some (.builtin "sum") := by decide +kernel
end
end S
namespace S
open PySem PySem.Spec PyProof.Rows L2
/-! ### == of any data, by what the parts answer -/
section
variable {K : Frag} {H : Hp} {n m : Nat} {x y : V} {b : Bool}
def EqOk (K : Frag) (H : Hp) (n : Nat) (x y : V) (b : Bool) : Prop := ∀ (X : Cx) (pins : List (Addr × Obj)) (σ : L2.St) (s : Shared) (A : Around) (v u : Value), X.K = K → Inv X pins σ H s → A.units + n < cLine → RelV x v → RelV y u → SeqAt.EqAt A s v u b
def RcOk (K : Frag) (H : Hp) (n : Nat) (x y : V) (b : Bool) : Prop := ∀ (X : Cx) (pins : List (Addr × Obj)) (σ : L2.St) (s : Shared) (A : Around) (v u : Value), X.K = K → Inv X pins σ H s → A.units + n < cLine → RelV x v → RelV y u → ∀ (E Q : Value → Shared → Prop), Q (.bool b) s → wpAny (model X.prog X.w) A (richCompare .Eq v u) Q E s
def NeOk (K : Frag) (H : Hp) (n : Nat) (x y : V) (b : Bool) : Prop := ∀ (X : Cx) (pins : List (Addr × Obj)) (σ : L2.St) (s : Shared) (A : Around) (v u : Value), X.K = K → Inv X pins σ H s → A.units + n < cLine → RelV x v → RelV y u → ∀ (E Q : Value → Shared → Prop), Q (.bool (!b)) s → wpAny (model X.prog X.w) A (richCompare .NotEq v u) Q E s
structure EqG (K : Frag) (H : Hp) (n : Nat) (x y : V) (b : Bool) : Prop where
  eq : RcOk K H n x y b
  ne : NeOk K H n x y b
  at_ : EqOk K H n x y b
theorem EqOk.up (h : EqOk K H n x y b) (l : n ≤ m) : EqOk K H m x y b := fun X pins σ s A v u k I hu => h X pins σ s A v u k I (Nat.lt_of_le_of_lt (Nat.add_le_add_left l _) hu)
theorem EqOk.to {c : Bool} (h : EqOk K H n x y b) (e : b = c) : EqOk K H n x y c := e ▸ h
theorem EqG.to {c : Bool} (h : EqG K H n x y b) (e : b = c) : EqG K H n x y c := e ▸ h
theorem EqG.up (h : EqG K H n x y b) (l : n ≤ m) : EqG K H m x y b :=
  ⟨fun X pins σ s A v u k I hu => h.eq X pins σ s A v u k I (Nat.lt_of_le_of_lt (Nat.add_le_add_left l _) hu), fun X pins σ s A v u k I hu => h.ne X pins σ s A v u k I (Nat.lt_of_le_of_lt (Nat.add_le_add_left l _) hu), h.at_.up l⟩
theorem eg_same {a : Addr} : EqOk K H n (.ref a) (.ref a) true := fun X pins σ s A v u k I hu rv ru => by
  cases rv
  cases ru
  exact SeqAt.EqAt.same _
theorem eg_dat {d e : PyData} (hd : Dp K H x d) (he : Dp K H y e) (pd : d.plain = true) (pe : e.plain = true) : EqG K H (min d.depth e.depth) x y (PyData.eqv d e) where
  eq := fun X pins σ s A v u k I hu rv ru => by
    subst k
    obtain ⟨as, r1⟩ := Dp.reads I d x v hd rv
    obtain ⟨bs, r2⟩ := Dp.reads I e y u he ru
    exact SeqAt.rcAt_plain r1 r2 pd pe hu X.prog X.w
  ne := fun X pins σ s A v u k I hu rv ru => by
    subst k
    obtain ⟨as, r1⟩ := Dp.reads I d x v hd rv
    obtain ⟨bs, r2⟩ := Dp.reads I e y u he ru
    exact SeqAt.rcNe_plain r1 r2 pd pe hu X.prog X.w
  at_ := fun X pins σ s A v u k I hu rv ru => by
    subst k
    obtain ⟨as, r1⟩ := Dp.reads I d x v hd rv
    obtain ⟨bs, r2⟩ := Dp.reads I e y u he ru
    exact SeqAt.eqAt_plain _ _ _ _ _ _ _ _ r1 r2 pd pe hu
theorem vals_at {xs : List V} {us : List Value} (r : Vals xs us) {j : Nat} (h : j < us.length) : ∃ x, xs[j]? = some x ∧ RelV x us[j] := by
  have hx : j < xs.length := by rw [r.length]; exact h
  obtain ⟨u, e, q⟩ := r.get (List.getElem?_eq_getElem hx)
  rw [List.getElem?_eq_getElem h] at e
  cases e
  exact ⟨_, List.getElem?_eq_getElem hx, q⟩
/-- pair by pair -/
def pairs (e : Nat → Bool) (xs ys : List V) : Bool := decide (xs.length = ys.length) && (List.range xs.length).all e
theorem eg_list {a c : Addr} {xs ys : List V} {e : Nat → Bool} (ha : SqL K H a xs) (hc : SqL K H c ys) (he : ∀ i p q, xs[i]? = some p → ys[i]? = some q → EqOk K H n p q (e i)) (hab : a = c → pairs e xs ys = true) : EqG K H (n + 1) (.ref a) (.ref c) (pairs e xs ys) := by
  have rc : ∀ (X : Cx) (pins : List (Addr × Obj)) (σ : L2.St) (s : Shared) (A : Around) (v u : Value), X.K = K → Inv X pins σ H s → A.units + (n + 1) < cLine → RelV (.ref a) v → RelV (.ref c) u → SeqAt.RcAt A s v u (pairs e xs ys) := fun X pins σ s A v u k I hu rv ru => by
    subst k
    cases rv
    cases ru
    obtain ⟨its, r, pl, _⟩ := I.list ha
    obtain ⟨its2, r2, pl2, _⟩ := I.list hc
    unfold pairs
    by_cases hl : xs.length = ys.length
    · rw [decide_eq_true hl, Bool.true_and]
      have := SeqAt.RcAt.lists (A := A) (e := e) pl.isList pl2.isList (by simp only [List.size_toArray]; rw [← r.length, ← r2.length, hl]) (by omega) (fun j h1 h2 => by
        obtain ⟨p, hp, rp⟩ := vals_at r (j := j) (by simpa using h1)
        obtain ⟨q, hq, rq⟩ := vals_at r2 (j := j) (by simpa using h2)
        simpa using he j p q hp hq X pins σ s A.in1 _ _ rfl I (by show A.units + 1 + n < cLine; omega) rp rq)
      rw [List.size_toArray, ← r.length] at this
      exact this
    · rw [decide_eq_false hl, Bool.false_and]
      exact SeqAt.RcAt.lists_lengths pl.isList pl2.isList (by simp only [List.size_toArray]; rw [← r.length, ← r2.length]; simpa using hl) (by omega)
  refine ⟨fun X pins σ s A v u k I hu rv ru => rc X pins σ s A v u k I hu rv ru X.prog X.w, fun X pins σ s A v u k I hu rv ru => ?_, fun X pins σ s A v u k I hu rv ru => ?_⟩
  · subst k
    cases rv
    cases ru
    obtain ⟨its, r, pl, _⟩ := I.list ha
    obtain ⟨its2, r2, pl2, _⟩ := I.list hc
    unfold pairs
    by_cases hl : xs.length = ys.length
    · rw [decide_eq_true hl, Bool.true_and]
      have := SeqAt.RcNeAt.lists (A := A) (e := e) pl.isList pl2.isList (by simp only [List.size_toArray]; rw [← r.length, ← r2.length, hl]) (by omega) (fun j h1 h2 => by
        obtain ⟨p, hp, rp⟩ := vals_at r (j := j) (by simpa using h1)
        obtain ⟨q, hq, rq⟩ := vals_at r2 (j := j) (by simpa using h2)
        simpa using he j p q hp hq X pins σ s A.in1 _ _ rfl I (by show A.units + 1 + n < cLine; omega) rp rq)
      rw [List.size_toArray, ← r.length] at this
      exact this X.prog X.w
    · rw [decide_eq_false hl, Bool.false_and]
      exact SeqAt.RcNeAt.lists_lengths pl.isList pl2.isList (by simp only [List.size_toArray]; rw [← r.length, ← r2.length]; simpa using hl) (by omega) X.prog X.w
  · have z := rc X pins σ s A v u k I hu rv ru
    cases rv
    cases ru
    by_cases e0 : a = c
    · subst e0
      rw [hab rfl]
      exact SeqAt.EqAt.same _
    · exact SeqAt.EqAt.of_refs e0 z
theorem eg_tup {a c : Addr} {xs ys : List V} {e : Nat → Bool} (ha : SqT K H a xs) (hc : SqT K H c ys) (he : ∀ i p q, xs[i]? = some p → ys[i]? = some q → EqOk K H n p q (e i)) (hab : a = c → pairs e xs ys = true) : EqG K H (n + 1) (.ref a) (.ref c) (pairs e xs ys) := by
  have flag : ∀ {p q : Nat}, p = xs.length → q = ys.length → ((List.range (min p q)).all e && p == q) = pairs e xs ys := fun {p q} h1 h2 => by
    subst h1 h2
    unfold pairs
    by_cases hl : xs.length = ys.length
    · rw [← hl]; simp
    · simp [hl]
  have rc : ∀ (X : Cx) (pins : List (Addr × Obj)) (σ : L2.St) (s : Shared) (A : Around) (v u : Value), X.K = K → Inv X pins σ H s → A.units + (n + 1) < cLine → RelV (.ref a) v → RelV (.ref c) u → SeqAt.RcAt A s v u (pairs e xs ys) := fun X pins σ s A v u k I hu rv ru => by
    subst k
    cases rv
    cases ru
    obtain ⟨its, r, pl, _⟩ := I.tuple ha
    obtain ⟨its2, r2, pl2, _⟩ := I.tuple hc
    have := SeqAt.RcAt.tuples (A := A) (e := e) pl pl2 (by omega) (fun j h1 h2 => by
      obtain ⟨p, hp, rp⟩ := vals_at r (j := j) (by simpa using h1)
      obtain ⟨q, hq, rq⟩ := vals_at r2 (j := j) (by simpa using h2)
      simpa using he j p q hp hq X pins σ s A.in1 _ _ rfl I (by show A.units + 1 + n < cLine; omega) rp rq)
    rw [flag (by simp [r.length]) (by simp [r2.length])] at this
    exact this
  refine ⟨fun X pins σ s A v u k I hu rv ru => rc X pins σ s A v u k I hu rv ru X.prog X.w, fun X pins σ s A v u k I hu rv ru => ?_, fun X pins σ s A v u k I hu rv ru => ?_⟩
  · subst k
    cases rv
    cases ru
    obtain ⟨its, r, pl, _⟩ := I.tuple ha
    obtain ⟨its2, r2, pl2, _⟩ := I.tuple hc
    have := SeqAt.RcNeAt.tuples (A := A) (e := e) pl pl2 (by omega) (fun j h1 h2 => by
      obtain ⟨p, hp, rp⟩ := vals_at r (j := j) (by simpa using h1)
      obtain ⟨q, hq, rq⟩ := vals_at r2 (j := j) (by simpa using h2)
      simpa using he j p q hp hq X pins σ s A.in1 _ _ rfl I (by show A.units + 1 + n < cLine; omega) rp rq)
    rw [flag (by simp [r.length]) (by simp [r2.length])] at this
    exact this X.prog X.w
  · have z := rc X pins σ s A v u k I hu rv ru
    cases rv
    cases ru
    by_cases e0 : a = c
    · subst e0
      rw [hab rfl]
      exact SeqAt.EqAt.same _
    · exact SeqAt.EqAt.of_refs e0 z
/-- two dicts: as many keys, and each of the first at the second -/
def hitsV (f : V → V → Bool) (ks ls : List (Key × V)) : Bool := ks.all fun p => match valV ls p.1 with | some y => f p.2 y | none => false
theorem hits_G {A : Around} {s : Shared} {f : V → V → Bool} {ls : List (Key × V)} {vb : List (Key × Value)} (rb : KV ls vb) {ks : List (Key × V)} {va : List (Key × Value)} (ra : KV ks va) :
    (∀ p ∈ ks, ∀ z, valV ls p.1 = some z → ∀ v u, RelV p.2 v → RelV z u → SeqAt.EqAt A s v u (f p.2 z)) → PySem.W.KeqHits A s vb va (hitsV f ks ls) := by
  unfold KV at ra
  induction ra with
  | nil => intro _; exact .nil
  | @cons p q ps qs h t ih =>
    intro hp
    obtain ⟨h1, h2⟩ := h
    obtain ⟨k, v⟩ := q
    have h1' : p.1 = k := h1
    have ih := ih fun p' hm => hp p' (List.mem_cons_of_mem _ hm)
    unfold hitsV
    rw [List.all_cons]
    cases e : valV ls p.1 with
    | none =>
      have rr : RelO none (valueAt vb p.1) := by rw [← e]; exact rb.val p.1
      have hn : valueAt vb p.1 = none := by
        cases hv : valueAt vb p.1 with
        | none => rfl
        | some w => rw [hv] at rr; cases rr
      rw [h1'] at hn
      simp only [Bool.false_and]
      exact .miss hn
    | some z =>
      have rr : RelO (some z) (valueAt vb p.1) := by rw [← e]; exact rb.val p.1
      obtain ⟨y, hy, ry⟩ := rr.some_of
      rw [h1'] at hy
      exact .hit hy (hp p List.mem_cons_self z e v y h2 ry) ih
theorem eg_dict {a c : Addr} {ks ls : List (Key × V)} {f : V → V → Bool} (ha : H a = some (.dK ks)) (hc : H c = some (.dK ls)) (he : ∀ p ∈ ks, ∀ z, valV ls p.1 = some z → EqOk K H n p.2 z (f p.2 z)) :
    RcOk K H (n + 1) (.ref a) (.ref c) (decide (ks.length = ls.length) && hitsV f ks ls) ∧ NeOk K H (n + 1) (.ref a) (.ref c) (decide (ks.length = ls.length) && hitsV f ks ls) := by
  refine ⟨fun X pins σ s A v u k I hu rv ru E Q q => ?_, fun X pins σ s A v u k I hu rv ru E Q q => ?_⟩
  · cases rv
    cases ru
    obtain ⟨_, ya, va, ra, da⟩ := (show ObjOk X.prog X.w H s.heap a (.dK ks) from I.hok a _ ha)
    obtain ⟨_, yb, vb, rb, db⟩ := (show ObjOk X.prog X.w H s.heap c (.dK ls) from I.hok c _ hc)
    refine PySem.W.keq_eq (knd := mixKind X.prog X.w) (r := hitsV f ks ls) ya yb da db (by omega) (fun _ => hits_G rb ra fun p hp z hz v u rv ru => he p hp z hz X pins σ s A.in1 v u k I (by show A.units + 1 + n < cLine; omega) rv ru) ?_
    rw [← ra.length, ← rb.length]
    exact q
  · cases rv
    cases ru
    obtain ⟨_, ya, va, ra, da⟩ := (show ObjOk X.prog X.w H s.heap a (.dK ks) from I.hok a _ ha)
    obtain ⟨_, yb, vb, rb, db⟩ := (show ObjOk X.prog X.w H s.heap c (.dK ls) from I.hok c _ hc)
    refine PySem.W.keq_ne (knd := mixKind X.prog X.w) (r := hitsV f ks ls) ya yb da db (by omega) (fun _ => hits_G rb ra fun p hp z hz v u rv ru => he p hp z hz X pins σ s A.in1 v u k I (by show A.units + 1 + n < cLine; omega) rv ru) ?_
    rw [← ra.length, ← rb.length]
    exact q
def toV : Value → V
  | .none => .non
  | .bool b => .bl b
  | .int i _ => .int i
  | .str z _ => .str z
  | .bytes b _ => .byt b
  | .float b _ => .flt b
  | .ref a => .ref a
  | .type n => .ty n
  | _ => .non
theorem toV_of {x : V} {u : Value} (h : L2.RelV x u) : toV u = x := by cases x <;> first | (cases h; rfl) | (obtain ⟨t, rfl⟩ := h; rfl)
theorem relV_one {x y : V} {u : Value} (h : L2.RelV x u) (k : L2.RelV y u) : x = y := (toV_of h).symm.trans (toV_of k)
/-- x == y, x != y, by their parts -/
def rEqG (K : Frag) : R2 := fun x y H Q => ∃ n b, n ≤ 60 ∧ RcOk K H n x y b ∧ Q (.bl b) H
def rNeG (K : Frag) : R2 := fun x y H Q => ∃ n b, n ≤ 60 ∧ NeOk K H n x y b ∧ Q (.bl (!b)) H
theorem eqGK {X : Cx} (hK : X.K = K) (hu : X.A.units + 64 < cLine) : OpR X (compareOp .Eq) (rEqG K) := by
  intro pins s σ H x y v u Q I rx ry h
  obtain ⟨n, b, hn, h, q⟩ := h
  exact h X pins σ s X.A v u hK I (by omega) rx ry _ _ ⟨.bl b, H, I, rfl, q⟩
theorem neGK {X : Cx} (hK : X.K = K) (hu : X.A.units + 64 < cLine) : OpR X (compareOp .NotEq) (rNeG K) := by
  intro pins s σ H x y v u Q I rx ry h
  obtain ⟨n, b, hn, h, q⟩ := h
  exact h X pins σ s X.A v u hK I (by omega) rx ry _ _ ⟨.bl (!b), H, I, rfl, q⟩
/-- x in ys, a list or a tuple: f tells which item equals x -/
def rInG (K : Frag) (neg : Bool) : R2 := fun x y H Q => ∃ p ys n f, y = .ref p ∧ (SqL K H p ys ∨ SqT K H p ys) ∧ n ≤ 60 ∧ (∀ z ∈ ys, EqOk K H n z x (f z)) ∧ Q (.bl (if neg then !ys.any f else ys.any f)) H
def eU (_ : List V) (f : V → Bool) (u : Value) : Bool := f (toV u)
theorem eU_of {ys : List V} {f : V → Bool} {z : V} {u : Value} (hz : z ∈ ys) (r : L2.RelV z u) : eU ys f u = f z := by
  unfold eU
  rw [toV_of r]
theorem any_eU {f : V → Bool} {ys0 : List V} : ∀ {ys : List V} {us : List Value}, Vals ys us → (∀ z ∈ ys, z ∈ ys0) → us.any (eU ys0 f) = ys.any f
  | _, _, .nil, _ => rfl
  | y :: ys, u :: us, .cons r t, h => by
    rw [List.any_cons, List.any_cons, eU_of (h y List.mem_cons_self) r, any_eU t fun z hz => h z (List.mem_cons_of_mem _ hz)]
theorem vals_mem : ∀ {ys : List V} {us : List Value}, Vals ys us → ∀ u ∈ us, ∃ z ∈ ys, RelV z u
  | _, _, .nil, u, h => by cases h
  | y :: ys, u :: us, .cons r t, u', h => by
    rcases List.mem_cons.mp h with rfl | h
    · exact ⟨y, List.mem_cons_self, r⟩
    · obtain ⟨z, hz, q⟩ := vals_mem t u' h
      exact ⟨z, List.mem_cons_of_mem _ hz, q⟩
theorem inGK {X : Cx} (hK : X.K = K) (hu : X.A.units + 64 < cLine) : OpR X (compareOp .In) (rInG K false) := by
  intro pins s σ H x y v u Q I rx ry h
  subst hK
  obtain ⟨p, ys, n, f, rfl, hq, hn, he, q⟩ := h
  cases ry
  rcases hq with hq | hq
  · obtain ⟨its, r, pl, hz⟩ := I.list hq
    refine SeqAt.in_listAt (eU ys f) pl.isList (fun w hw => ?_) ⟨.bl _, H, I, rfl, ?_⟩
    · obtain ⟨z, hz, rz⟩ := vals_mem r w (by simpa using hw)
      rw [eU_of hz rz]
      exact he z hz X pins σ s X.A.in1 _ _ rfl I (by show X.A.units + 1 + n < cLine; omega) rz rx
    · rw [show its.toArray.any (eU ys f) = its.any (eU ys f) by simp, any_eU r fun _ h => h]
      exact q
  · obtain ⟨its, r, pl, hz⟩ := I.tuple hq
    refine SeqAt.in_tupleAt (eU ys f) pl (fun w hw => ?_) ⟨.bl _, H, I, rfl, ?_⟩
    · obtain ⟨z, hz, rz⟩ := vals_mem r w (by simpa using hw)
      rw [eU_of hz rz]
      exact he z hz X pins σ s X.A.in1 _ _ rfl I (by show X.A.units + 1 + n < cLine; omega) rz rx
    · rw [show its.toArray.any (eU ys f) = its.any (eU ys f) by simp, any_eU r fun _ h => h]
      exact q
theorem notInGK {X : Cx} (hK : X.K = K) (hu : X.A.units + 64 < cLine) : OpR X (compareOp .NotIn) (rInG K true) := by
  intro pins s σ H x y v u Q I rx ry h
  subst hK
  obtain ⟨p, ys, n, f, rfl, hq, hn, he, q⟩ := h
  cases ry
  rcases hq with hq | hq
  · obtain ⟨its, r, pl, hz⟩ := I.list hq
    refine SeqAt.notIn_listAt (eU ys f) pl.isList (fun w hw => ?_) ⟨.bl _, H, I, rfl, ?_⟩
    · obtain ⟨z, hz, rz⟩ := vals_mem r w (by simpa using hw)
      rw [eU_of hz rz]
      exact he z hz X pins σ s X.A.in1 _ _ rfl I (by show X.A.units + 1 + n < cLine; omega) rz rx
    · rw [show its.toArray.any (eU ys f) = its.any (eU ys f) by simp, any_eU r fun _ h => h]
      exact q
  · obtain ⟨its, r, pl, hz⟩ := I.tuple hq
    refine SeqAt.notIn_tupleAt (eU ys f) pl (fun w hw => ?_) ⟨.bl _, H, I, rfl, ?_⟩
    · obtain ⟨z, hz, rz⟩ := vals_mem r w (by simpa using hw)
      rw [eU_of hz rz]
      exact he z hz X pins σ s X.A.in1 _ _ rfl I (by show X.A.units + 1 + n < cLine; omega) rz rx
    · rw [show its.toArray.any (eU ys f) = its.any (eU ys f) by simp, any_eU r fun _ h => h]
      exact q
end
end S
namespace S
open PySem PySem.Spec PyProof.Rows L2
/-! ### a list or a tuple that stands still, walked -/
section
variable {X : Cx} {K : Frag}
abbrev SqX (K : Frag) (H : Hp) (a : Addr) (xs : List V) : Prop := SqL K H a xs ∨ SqT K H a xs
theorem SqX.same {H H' : Hp} {a : Addr} {xs : List V} (h : SqX K H a xs) (s : Same H H') : SqX K H' a xs := by
  rcases h with (h | h) | (h | h)
  · rcases h with h | ⟨o, h⟩
    · exact .inl (.inl (.inl (s _ _ h)))
    · exact .inl (.inl (.inr ⟨o, s _ _ h⟩))
  · exact .inl (.inr h)
  · rcases h with h | ⟨o, h⟩
    · exact .inr (.inl (.inl (s _ _ h)))
    · exact .inr (.inl (.inr ⟨o, s _ _ h⟩))
  · exact .inr (.inr h)
theorem sqL_same {H H' : Hp} {a : Addr} {xs : List V} (h : SqL K H a xs) (s : Same H H') : SqL K H' a xs := by
  rcases h with (h | ⟨o, h⟩) | h
  · exact .inl (.inl (s _ _ h))
  · exact .inl (.inr ⟨o, s _ _ h⟩)
  · exact .inr h
theorem sqT_same {H H' : Hp} {a : Addr} {xs : List V} (h : SqT K H a xs) (s : Same H H') : SqT K H' a xs := by
  rcases h with (h | ⟨o, h⟩) | h
  · exact .inl (.inl (s _ _ h))
  · exact .inl (.inr ⟨o, s _ _ h⟩)
  · exact .inr h
def iSeq (K : Frag) (tl : TE) : TI := fun σ H R => tl σ H fun x H1 => ∃ a xs, x = .ref a ∧ SqX K H1 a xs ∧ ∀ J, Walk J xs.length (fun H => Same H1 H) (YAt xs) → R J H1
theorem pi_seqK {tg l : Expr} {tl : TE} (hK : X.K = K) (hl : PE X l tl) : PI X tg l (iSeq K tl) := by
  subst hK
  refine ⟨fun pins s σ H R I h => ?_⟩
  refine thn (hl.run pins s σ H _ I h) fun v s1 ⟨x, H1, I1, r1, q1⟩ => ?_
  obtain ⟨a, xs, e, hq, q⟩ := q1
  subst e
  cases r1
  have fp : ∀ b ∈ [s1.heap.objs.size], FpOk X pins H1 b := fun b hb => by
    have e : b = s1.heap.objs.size := by simpa using hb
    subst e
    exact I1.fpOk (Nat.le_refl _) (I1.hok.fresh (Nat.le_refl _))
  rcases hq with hq | hq
  · obtain ⟨its, rv, p, hz⟩ := I1.list hq
    refine wpAny_pyIter_list p.isList ?_
    exact ⟨s1.heap.objs.size, [s1.heap.objs.size], _, Itl X.K a, H1, rfl, I1.kept (t' := s1.toks) fun b o e => Heap.get?_push_of_some _ e, turn_list a _, ⟨_, Heap.get?_push_size _ rfl, rfl, rfl⟩, fp, q _ (walk_list.mono (fun H s => sqL_same hq s) fun _ _ _ _ _ _ y => y)⟩
  · obtain ⟨its, rv, p, hz⟩ := I1.tuple hq
    refine wpAny_pyIter_tuple (show s1.heap.IsTuple a its.toArray from p) ?_
    exact ⟨s1.heap.objs.size, [s1.heap.objs.size], _, Itt X.K a, H1, rfl, I1.kept (t' := s1.toks) fun b o e => Heap.get?_push_of_some _ e, turn_tuple a _, ⟨_, Heap.get?_push_size _ rfl, rfl, rfl⟩, fp, q _ (walk_tup.mono (fun H s => sqT_same hq s) fun _ _ _ _ _ _ y => y)⟩
theorem slSeqK (hK : X.K = K) : SlR X (fun x lo hi H Q => rSlL K x lo hi H Q ∨ rSlT K x lo hi H Q) := hK ▸ sl_list.or sl_tup
/-- a for over what stands still: one turn reads the item at its place -/
theorem for_seq {J : It} {xs : List V} {H0 : Hp} (w : Walk J xs.length (fun H => Same H0 H) (YAt xs)) {g : TG} {tb : TS} {D : Ends} {σ : L2.St} {H : Hp} (Pv : Nat → L2.St → Hp → Prop) (h0 : Pv 0 σ H) (hG : ∀ i σ H, i ≤ xs.length → Pv i σ H → Same H0 H)
    (hs : ∀ i x σ H, xs[i]? = some x → Pv i σ H → g x σ H fun σ2 H2 => tb { D with nx := Pv (i + 1), ct := Pv (i + 1), bk := D.nx } σ2 H2) (hd : ∀ σ H, Pv xs.length σ H → D.nx σ H) :
    ∃ W : Nat → Nat → L2.St → Hp → Prop, (∃ m, W 0 m σ H) ∧ ∀ i m σ H, W i m σ H →
      (J.stop i H ∧ D.nx σ H) ∨ (J.go i H ∧ ∃ N : L2.St → Hp → Prop, (∀ σ' H', N σ' H' → ∃ m', m' < m ∧ W (i + 1) m' σ' H') ∧ ∀ x H', J.yld i H x H' → g x σ H' fun σ2 H2 => tb { D with nx := N, ct := N, bk := D.nx } σ2 H2) :=
  for_it w Pv h0 hG (fun i x σ H H' _ p y => by obtain ⟨rfl, e⟩ := y; exact hs i x σ _ e p) hd
theorem lc_seq {J : It} {xs : List V} {H0 : Hp} (w : Walk J xs.length (fun H => Same H0 H) (YAt xs)) {g : TG} {tt : TT} {te : TE} {vs : List Nat} {σ : L2.St} {H1 : Hp} {D : Addr} {Qd : Hp → Prop} (Pv : Nat → Hp → Prop) (h0 : Pv 0 (upd H1 D (.lst []))) (hG : ∀ i H, i ≤ xs.length → Pv i H → Same H0 H)
    (hs : ∀ i x H, xs[i]? = some x → Pv i H → g x (wipe σ vs) H fun σ2 H2 => wipe σ2 vs = wipe σ vs ∧ tt σ2 H2 fun b H3 =>
      if b = true then te σ2 H3 fun y H4 => ∃ acc, H4 D = some (.lst acc) ∧ acc.length < sizeLine ∧ Pv (i + 1) (upd H4 D (.lst (acc ++ [y]))) else Pv (i + 1) H3) (hd : ∀ H, Pv xs.length H → Qd H) :
    ∃ W : Nat → Nat → Hp → Prop, (∃ m, W 0 m (upd H1 D (.lst []))) ∧ ∀ i m H, W i m H →
      (J.stop i H ∧ Qd H) ∨ (J.go i H ∧ ∃ Nx : Hp → Prop, (∀ H', Nx H' → ∃ m', m' < m ∧ W (i + 1) m' H') ∧ ∀ x H', J.yld i H x H' → g x (wipe σ vs) H' fun σ2 H2 => wipe σ2 vs = wipe σ vs ∧ tt σ2 H2 fun b H3 =>
        if b = true then te σ2 H3 fun y H4 => ∃ acc, H4 D = some (.lst acc) ∧ acc.length < sizeLine ∧ Nx (upd H4 D (.lst (acc ++ [y]))) else Nx H3) :=
  lc_it w Pv h0 hG (fun i x H H' _ p y => by obtain ⟨rfl, e⟩ := y; exact hs i x _ e p) hd
theorem dc_it {J : It} {n : Nat} {G : Hp → Prop} {Y : Nat → Hp → V → Hp → Prop} (w : Walk J n G Y) {g : TG} {tt : TT} {tk tv : TE} {vs : List Nat} {σ : L2.St} {H1 : Hp} {D : Addr} {Qd : Hp → Prop} (Pv : Nat → Hp → Prop) (h0 : Pv 0 (upd H1 D (.dK []))) (hG : ∀ i H, i ≤ n → Pv i H → G H)
    (hs : ∀ i x H H', i < n → Pv i H → Y i H x H' → g x (wipe σ vs) H' fun σ2 H2 => wipe σ2 vs = wipe σ vs ∧ tt σ2 H2 fun b H3 =>
      if b = true then tk σ2 H3 fun y H4 => tv σ2 H4 fun z H5 => ∃ kvs k, y = kV k ∧ H5 D = some (.dK kvs) ∧ kvs.length < sizeLine ∧ Pv (i + 1) (upd H5 D (.dK (putK kvs k z))) else Pv (i + 1) H3) (hd : ∀ H, Pv n H → Qd H) :
    ∃ W : Nat → Nat → Hp → Prop, (∃ m, W 0 m (upd H1 D (.dK []))) ∧ ∀ i m H, W i m H →
      (J.stop i H ∧ Qd H) ∨ (J.go i H ∧ ∃ Nx : Hp → Prop, (∀ H', Nx H' → ∃ m', m' < m ∧ W (i + 1) m' H') ∧ ∀ x H', J.yld i H x H' → g x (wipe σ vs) H' fun σ2 H2 => wipe σ2 vs = wipe σ vs ∧ tt σ2 H2 fun b H3 =>
        if b = true then tk σ2 H3 fun y H4 => tv σ2 H4 fun z H5 => ∃ kvs k, y = kV k ∧ H5 D = some (.dK kvs) ∧ kvs.length < sizeLine ∧ Nx (upd H5 D (.dK (putK kvs k z))) else Nx H3) := by
  refine ⟨fun i m H => m = n - i ∧ i ≤ n ∧ Pv i H, ⟨n, by simp, Nat.zero_le _, h0⟩, ?_⟩
  rintro i m H ⟨rfl, hi, p⟩
  have q := hG i H hi p
  by_cases hlt : i < n
  · exact .inr ⟨w.goes i H hlt q, Pv (i + 1), fun H' p' => ⟨n - (i + 1), by omega, rfl, hlt, p'⟩, fun x H' y => hs i x H H' hlt p (w.yields i H x H' hlt q y)⟩
  · have e : i = n := by omega
    subst e
    exact .inl ⟨w.stops H q, hd H p⟩
end
/-! ### o[i], x in o, len(o), by own defs of a plain class -/
section
variable {X : Cx} {n : Nat} {C g : Addr} {sp : Sp} {E : L2.St → XK}
theorem run_in1 {pins : List (Addr × Obj)} {σ : L2.St} {H : Hp} {s : Shared} {Q : VK} {us : List Value} {vs : List V} (F : FnR X.prog X.w X.K X.mg X.base (L2.CX X.prog X.w) n g sp) (hr : Room n X.A.in1) (I : Inv X pins σ H s) (hx : PassesAt (L2.CX X.prog X.w) X σ (E σ)) (r : Vals vs us) (h : sp vs H Q (E σ)) :
    codeAny (model X.prog X.w) X.A.in1 (.call (.ref g) ⟨us, []⟩) (fun r s' => match r with | .ok (.ret v) => EP X pins σ Q v s' | .ok _ => False | .error e => X.xe e s') s := by
  refine codeAny_mono (F X.A.in1 X.stack s H us vs Q (E σ) hr I.env0.in1 r h) fun r s' hq => ?_
  cases r with
  | error e => exact hx pins H s e s' I hq
  | ok fl =>
    cases fl with
    | ret u => exact I.after hq
    | next => exact False.elim hq
    | brk => exact False.elim hq
    | cont => exact False.elim hq
theorem run_at0 {pins : List (Addr × Obj)} {σ : L2.St} {H : Hp} {s : Shared} {Q : VK} {us : List Value} {vs : List V} (F : FnR X.prog X.w X.K X.mg X.base (L2.CX X.prog X.w) n g sp) (hr : Room n X.A) (I : Inv X pins σ H s) (hx : PassesAt (L2.CX X.prog X.w) X σ (E σ)) (r : Vals vs us) (h : sp vs H Q (E σ)) :
    codeAny (model X.prog X.w) X.A (.call (.ref g) ⟨us, []⟩) (fun r s' => match r with | .ok (.ret v) => EP X pins σ Q v s' | .ok _ => False | .error e => X.xe e s') s := by
  refine codeAny_mono (F X.A X.stack s H us vs Q (E σ) hr I.env0 r h) fun r s' hq => ?_
  cases r with
  | error e => exact hx pins H s e s' I hq
  | ok fl =>
    cases fl with
    | ret u => exact I.after hq
    | next => exact False.elim hq
    | brk => exact False.elim hq
    | cont => exact False.elim hq
def tIxO (C : Addr) (sp : Sp) (E : L2.St → XK) (ta tb : TE) : TE := fun σ H Q => ta σ H fun x H1 => tb σ H1 fun y H2 => ∃ a dx fs, x = .ref a ∧ H2 a = some (.ins C dx fs) ∧ sp [.ref a, y] H2 Q (E σ)
theorem pe_ixO {a b : Expr} {ta tb : TE} {pos : Pos} (hs : PySem.W.findIn X.K (.ref C) "__getitem__" = some (some (.ref g))) (hf : PySem.W.fnIn X.K g = true) (hfn : PySem.W.isFn X.K (.ref g) = true)
    (F : FnR X.prog X.w X.K X.mg X.base (L2.CX X.prog X.w) n g sp) (hr : Room (n + 1) X.A) (hx : ∀ σ, PassesAt (L2.CX X.prog X.w) X σ (E σ)) (ha : PE X a ta) (hb : PE X b tb)
    (hsl : ∀ v i, subscripted b true v i = runValue (.builtin "lifetime.subscript" ⟨[v, i], []⟩) := by intro _ _; with_unfolding_all rfl) : PE X (.Subscript a b pos) (tIxO C sp E ta tb) := by
  refine ⟨fun pins s σ H Q I h => ?_⟩
  refine Subscript_ (binT ha hb I h fun v u s2 x y H2 I2 rx ry q => ?_)
  obtain ⟨p, dx, fs, rfl, ep, q⟩ := q
  cases (show v = Value.ref p from rx)
  obtain ⟨mA, O, _⟩ := ins_get I2.hok ep
  obtain ⟨od, J, _⟩ := O.look
  obtain ⟨m, hF⟩ := I2.fr
  refine PySem.W.sub_K hF I2.ok.mod.kin J hs hf hfn ?_ (hsl _ _)
  exact wpAny_call (run_in1 (us := [.ref p, u]) (vs := [.ref p, y]) F hr.in1 I2 (hx σ) (.cons rfl (.cons ry .nil)) q)
/-- x in o: the own def answers with a bool -/
def rInC (C : Addr) (sp : Sp) (neg : Bool) : R2 := fun x y H Q => ∃ a dx fs, y = .ref a ∧ H a = some (.ins C dx fs) ∧ sp [.ref a, x] H (fun z H2 => ∃ r, z = .bl r ∧ Q (.bl (if neg then !r else r)) H2) E0
theorem op_inC (hs : PySem.W.findIn X.K (.ref C) "__contains__" = some (some (.ref g))) (hfn : PySem.W.isFn X.K (.ref g) = true) (F : FnR X.prog X.w X.K X.mg X.base (L2.CX X.prog X.w) n g sp) (hr : Room n X.A) : OpR X (compareOp .In) (rInC C sp false) := by
  intro pins s σ H x y v u Q I rx ry h
  obtain ⟨a, dx, fs, rfl, ea, q⟩ := h
  cases (show u = Value.ref a from ry)
  obtain ⟨mA, O, _⟩ := ins_get I.hok ea
  obtain ⟨od, J, _⟩ := O.look
  obtain ⟨m, hF⟩ := I.fr
  refine PySem.W.in_K hF I.ok.mod.kin J hs hfn ?_
  refine wpAny_mono (wpAny_call (run_at0 (E := fun _ => E0) (us := [.ref a, v]) (vs := [.ref a, x]) F hr I (pas0 σ) (.cons rfl (.cons rx .nil)) q)) (fun w s' z => ?_) fun _ _ x => x
  obtain ⟨z2, H2, I2, rz, r, rfl, qz⟩ := z
  cases (show w = Value.bool r from rz)
  exact wpAny_truthy_bool ⟨.bl r, H2, I2, rfl, qz⟩
theorem op_notInC (hs : PySem.W.findIn X.K (.ref C) "__contains__" = some (some (.ref g))) (hfn : PySem.W.isFn X.K (.ref g) = true) (F : FnR X.prog X.w X.K X.mg X.base (L2.CX X.prog X.w) n g sp) (hr : Room n X.A) : OpR X (compareOp .NotIn) (rInC C sp true) := by
  intro pins s σ H x y v u Q I rx ry h
  obtain ⟨a, dx, fs, rfl, ea, q⟩ := h
  cases (show u = Value.ref a from ry)
  obtain ⟨mA, O, _⟩ := ins_get I.hok ea
  obtain ⟨od, J, _⟩ := O.look
  obtain ⟨m, hF⟩ := I.fr
  refine PySem.W.notIn_K hF I.ok.mod.kin J hs hfn ?_
  refine wpAny_mono (wpAny_call (run_at0 (E := fun _ => E0) (us := [.ref a, v]) (vs := [.ref a, x]) F hr I (pas0 σ) (.cons rfl (.cons rx .nil)) q)) (fun w s' z => ?_) fun _ _ x => x
  obtain ⟨z2, H2, I2, rz, r, rfl, qz⟩ := z
  cases (show w = Value.bool r from rz)
  exact wpAny_truthy_bool ⟨.bl (!r), H2, I2, rfl, qz⟩
def rLenO (C : Addr) (sp : Sp) : List V → Hp → VK → Prop := fun xs H Q => ∃ a dx fs, xs = [.ref a] ∧ H a = some (.ins C dx fs) ∧ sp [.ref a] H (fun z H2 => ∃ i : Int, z = .int i ∧ 0 ≤ i ∧ i < 2 ^ 63 ∧ Q (.int i) H2) E0
theorem call_lenO (hs : PySem.W.findIn X.K (.ref C) "__len__" = some (some (.ref g))) (hfn : PySem.W.isFn X.K (.ref g) = true) (F : FnR X.prog X.w X.K X.mg X.base (L2.CX X.prog X.w) n g sp) (hr : Room (n + 1) X.A) : CallR X (.builtin "len") (rLenO C sp) := by
  intro pins s σ H xs us Q I r h
  obtain ⟨a, dx, fs, rfl, ea, q⟩ := h
  cases r with
  | cons r1 r2 =>
    cases r2
    cases r1
    obtain ⟨mA, O, _⟩ := ins_get I.hok ea
    obtain ⟨od, J, _⟩ := O.look
    obtain ⟨m, hF⟩ := I.fr
    refine PySem.W.len_K hF I.ok.mod.kin J hs hfn ?_
    refine wpAny_mono (wpAny_call (run_in1 (E := fun _ => E0) (us := [.ref a]) (vs := [.ref a]) F hr.in1 I (pas0 σ) (.cons rfl .nil) q)) (fun w s' z => ?_) fun _ _ x => x
    obtain ⟨z2, H2, I2, rz, i, rfl, l0, l1, qz⟩ := z
    obtain ⟨t, rfl⟩ := (show ∃ t, w = Value.int i t from rz)
    exact ⟨⟨l0, l1⟩, .int i, H2, I2.tok _, ⟨_, rfl⟩, qz⟩
end
end S
namespace S
open PySem PySem.Spec PyProof.Rows L2
section
variable {X : Cx} {K : Frag}
theorem yesT {σ : L2.St} {H : Hp} {R : Bool → Hp → Prop} (h : R true H) : tYes σ H R := h
theorem listOfK (hK : X.K = K) : CallR X (.type "list") (fun xs H Q => ∃ p ys, xs = [.ref p] ∧ (SqL K H p ys ∨ SqT K H p ys) ∧ ∀ l, H l = none → Q (.ref l) (upd H l (.lst ys))) := hK ▸ call_list_of
theorem tupOfK (hK : X.K = K) : CallR X (.type "tuple") (fun xs H Q => ∃ p ys, xs = [.ref p] ∧ ((SqL K H p ys ∧ ∀ l, H l = none → Q (.ref l) (upd H l (.tup ys))) ∨ (SqT K H p ys ∧ Q (.ref p) H))) := hK ▸ call_tuple_of
/-! readings of a list or tuple that stands -/
theorem ixX {H : Hp} {a : Addr} {xs : List V} {v : V} {i : Int} {Q : VK} (h : SqX K H a xs) (e : atI xs i = some v) (q : Q v H) : rIx K (.ref a) (.int i) H Q := by
  rcases h with h | h
  · exact .inl ⟨a, _, _, _, rfl, rfl, h, e, q⟩
  · exact .inr (.inl ⟨a, _, _, _, rfl, rfl, h, e, q⟩)
theorem lenVX {H : Hp} {a : Addr} {xs : List V} (h : SqX K H a xs) : LenV K (.ref a) H xs.length := by
  rcases h with h | h
  · exact .inl ⟨_, h, rfl⟩
  · exact .inr ⟨_, h, rfl⟩
theorem sIx_nat {n d i : Nat} (h : i ≤ n) : HT.sIx n d (some (i : Int)) = i := by
  simp only [HT.sIx]
  split <;> omega
theorem cut_take (xs : List V) {i : Nat} (h : i ≤ xs.length) : cutV xs none (some (i : Int)) = xs.take i := by
  unfold cutV
  have e1 : HT.sIx xs.length 0 none = 0 := rfl
  have e2 : HT.sIx xs.length xs.length (some (i : Int)) = i := sIx_nat h
  rw [e1, e2]
  simp
theorem cut_drop (xs : List V) {i : Nat} (h : i ≤ xs.length) : cutV xs (some (i : Int)) none = xs.drop i := by
  unfold cutV
  have e1 : HT.sIx xs.length xs.length none = xs.length := rfl
  have e2 : HT.sIx xs.length 0 (some (i : Int)) = i := sIx_nat h
  rw [e1, e2]
  rw [List.take_of_length_le (by rw [List.length_drop]; exact Nat.le_refl _)]
theorem sl_takeX {H : Hp} {a : Addr} {xs : List V} {i : Nat} {Q : VK} (h : SqX K H a xs) (hi : i < xs.length) (q : ∀ p H', H p = none → Same H H' → SqX K H' p (xs.take i) → Q (.ref p) H') : rSlL K (.ref a) none (some (i : Int)) H Q ∨ rSlT K (.ref a) none (some (i : Int)) H Q := by
  rcases h with h | h
  · refine .inl ⟨a, xs, rfl, h, fun p hp => q p _ hp (Same.new hp) (.inl (.inl (.inl ?_)))⟩
    rw [cut_take xs (Nat.le_of_lt hi), upd_same]
  · refine .inr ⟨a, xs, rfl, h, ?_, fun p hp => q p _ hp (Same.new hp) (.inr (.inl (.inl ?_)))⟩
    · rintro ⟨_, e⟩
      have e2 : HT.sIx xs.length xs.length (some (i : Int)) = i := sIx_nat (Nat.le_of_lt hi)
      omega
    · rw [cut_take xs (Nat.le_of_lt hi), upd_same]
/-! flat things -/
theorem eg_str {H : Hp} {n : Nat} {a b : Str} : EqG K H n (.str a) (.str b) (decide (a = b)) := by
  have h := eg_dat (K := K) (H := H) (.str a) (.str b) rfl rfl
  refine (h.to ?_).up (by simp [PyData.depth])
  simp only [PyData.eqv]
  rw [Bool.eq_iff_iff]
  simp
theorem eg_int {H : Hp} {n : Nat} {a b : Int} : EqG K H n (.int a) (.int b) (decide (a = b)) := by
  have h := eg_dat (K := K) (H := H) (.int a) (.int b) rfl rfl
  refine (h.to ?_).up (by simp [PyData.depth])
  simp only [PyData.eqv]
  rw [Bool.eq_iff_iff]
  simp
theorem eg_bl {H : Hp} {n : Nat} {a b : Bool} : EqG K H n (.bl a) (.bl b) (decide (a = b)) := by
  have h := eg_dat (K := K) (H := H) (.bl a) (.bl b) rfl rfl
  refine (h.to ?_).up (by simp [PyData.depth])
  simp only [PyData.eqv]
  rw [Bool.eq_iff_iff]
  simp
/-- texts, pair by pair -/
theorem pairs_str {ws zs : List Str} : pairs (fun i => decide (ws[i]? = zs[i]?)) (ws.map V.str) (zs.map V.str) = decide (ws = zs) := by
  unfold pairs
  rw [List.length_map, List.length_map, Bool.eq_iff_iff]
  simp only [Bool.and_eq_true, decide_eq_true_eq, List.all_eq_true, List.mem_range]
  constructor
  · rintro ⟨hl, h⟩
    refine List.ext_getElem? fun i => ?_
    by_cases c : i < ws.length
    · exact h i c
    · rw [List.getElem?_eq_none (by omega), List.getElem?_eq_none (by omega)]
  · rintro rfl
    exact ⟨rfl, fun _ _ => rfl⟩
theorem str_pair {H : Hp} {n : Nat} {ws zs : List Str} (i : Nat) (p q : V) (hp : (ws.map V.str)[i]? = some p) (hq : (zs.map V.str)[i]? = some q) : EqOk K H n p q (decide (ws[i]? = zs[i]?)) := by
  rw [List.getElem?_map] at hp hq
  obtain ⟨a, ha, rfl⟩ := Option.map_eq_some_iff.mp hp
  obtain ⟨b, hb, rfl⟩ := Option.map_eq_some_iff.mp hq
  rw [ha, hb]
  refine eg_str.at_.to ?_
  simp
/-- two tuples of texts, two lists of texts -/
theorem eg_tups {H : Hp} {n : Nat} {a c : Addr} {ws zs : List Str} (ha : SqT K H a (ws.map V.str)) (hc : SqT K H c (zs.map V.str)) (hab : a = c → ws = zs) : EqG K H (n + 1) (.ref a) (.ref c) (decide (ws = zs)) :=
  (eg_tup ha hc str_pair fun e => by rw [pairs_str]; exact decide_eq_true (hab e)).to pairs_str
theorem eg_lsts {H : Hp} {n : Nat} {a c : Addr} {ws zs : List Str} (ha : SqL K H a (ws.map V.str)) (hc : SqL K H c (zs.map V.str)) (hab : a = c → ws = zs) : EqG K H (n + 1) (.ref a) (.ref c) (decide (ws = zs)) :=
  (eg_list ha hc str_pair fun e => by rw [pairs_str]; exact decide_eq_true (hab e)).to pairs_str
theorem mapS_inj {ws zs : List Str} (h : ws.map V.str = zs.map V.str) : ws = zs := (List.map_inj_right (fun _ _ e => by injection e)).mp h
theorem eg_flat {H : Hp} {n : Nat} {x y : V} (hx : flatV x = true) (hy : flatV y = true) : EqOk K H n x y (eqV x y) := fun X pins σ s A v u _ I hu rv ru => eqAt_V rv ru hx hy
end
end S
namespace S
open PySem PySem.Spec PyProof.Rows L2
section
variable {X : Cx} {K : Frag}
theorem slTwK (hK : X.K = K) : SlR X (rSlA K) := hK ▸ sl_tupA
theorem catTK (hK : X.K = K) : OpR X (binaryOp .Add) (rCatA K) := hK ▸ op_catA
theorem sl_Tt {H : Hp} {a : Addr} {xs : List V} {lo hi : Option Int} {Q : VK} (h : H a = some (.tup xs)) (q : ∀ p H', Same H H' → H' p = some (.tup (cutV xs lo hi)) → Q (.ref p) H') : rSlA K (.ref a) lo hi H Q := by
  refine ⟨a, xs, rfl, .inl (.inl h), fun e => q a H (fun _ _ z => z) ?_, fun _ p hp => q p _ (Same.new hp) upd_same⟩
  rw [h]
  unfold cutV
  rw [e.1, e.2]
  simp
theorem cat_Tt {H : Hp} {a b : Addr} {xs ys : List V} {Q : VK} (h : H a = some (.tup xs)) (h' : H b = some (.tup ys)) (hl : xs.length + ys.length ≤ 1000) (q : ∀ p H', Same H H' → H' p = some (.tup (xs ++ ys)) → Q (.ref p) H') : rCatA K (.ref a) (.ref b) H Q := by
  refine ⟨a, b, xs, ys, rfl, rfl, .inl (.inl h), .inl (.inl h'), Nat.le_trans hl (by decide), fun e => q b H (fun _ _ z => z) ?_, fun _ e => q a H (fun _ _ z => z) ?_, fun _ _ p hp => q p _ (Same.new hp) upd_same⟩
  · rw [h', e]; rfl
  · rw [h, e, List.append_nil]
end
end S
namespace S
open PySem PySem.Spec PyProof.Rows L2
/-! ### several except clauses, each with a name or with none -/
/-- an error of the body has come to the clauses -/
structure Lnd (X : Cx) (pins : List (Addr × Obj)) (σ : L2.St) (H : Hp) (a : Addr) (cls : Value) (d : Option Addr) (B : Heap) (t s : Shared) : Prop where
  inv : Inv X pins σ H t
  nb : ∀ b o, t.heap.get? b = some o → b ∉ frs X.stack → B.get? b = some o
  up : t.heap.UpToSlots s.heap
  fl : HandSPX.FlyingZ B (X.env :: X.outer) a (Zc cls d) s.heap
  na : H a = none
  os : s.os = t.os
  ag : AllBare s.gens
section
variable {X : Cx} {pins : List (Addr × Obj)} {σ : L2.St} {H : Hp} {a : Addr} {cls : Value} {d : Option Addr} {B : Heap} {t s : Shared}
theorem Lnd.here (l : Lnd X pins σ H a cls d B t s) : Inv X pins σ H s := by
  exact l.inv.landed l.nb l.fl.1 l.up l.os l.ag
theorem Lnd.lay (hs : X.stack = X.env :: X.outer) (hf : X.env.frame = some X.env.locals) (l : Lnd X pins σ H a cls d B t s) :
    ∃ o, s.heap.get? a = some o ∧ Zc cls d o ∧ (∃ vs, o.data = .fields vs) ∧ Inv (X.suite a ((a, o) :: (X.pn ++ pins))) [] σ H s := by
  obtain ⟨o, vs, e1, e2, e3⟩ := l.fl.there
  have out : a ∉ frs (X.env :: X.outer) := fun m => by
    obtain ⟨_, o2, e4, no⟩ := l.fl.2.2.1.mem m
    rw [e1] at e4
    cases e4
    exact no _ e3
  have n1 : a ≠ X.env.locals := fun z => out (List.mem_filterMap.mpr ⟨X.env, List.mem_cons_self, by rw [hf, z]⟩)
  have n2 : a ∉ X.fs := fun m => by
    obtain ⟨v, hv, z⟩ := List.mem_filterMap.mp m
    exact out (List.mem_filterMap.mpr ⟨v, List.mem_cons_of_mem _ hv, z⟩)
  exact ⟨o, e1, e2, ⟨vs, e3⟩, l.here.suite e1 e3 l.na n1 n2⟩
theorem Lnd.again {M : Model} {A : Around} {E : Value → Shared → Prop} {Q : Unit → Shared → Prop} (l : Lnd X pins σ H a cls d B t s)
    (q : ∀ h', Lnd X pins σ H a cls d B t { s with heap := h' } → Q () { s with heap := h' }) : wpAny M A (setFlight (.ref a) none) Q E s :=
  HandSPX.lands_againZ l.fl fun h' f u => q h' ⟨l.inv, l.nb, l.up.trans u, f, l.na, l.os, l.ag⟩
theorem Lnd.pass {W : WX} {D : Ends} (hs : X.stack = X.env :: X.outer) (hf : X.env.frame = some X.env.locals) (tk : Takes X W) (l : Lnd X pins σ H a cls d B t s) (w : W cls d σ H) :
    wpAny (model X.prog X.w) X.A (handleBy (.ref a) X.env []) (SP X pins D) X.xe s := by
  refine wpAny_handleBy_nil ?_
  obtain ⟨_, _, _, _, vs, T, _, _, g1, _, g2, g3, _⟩ := id l.fl
  unfold PySem.passOn
  refine wpAny_bind (wpAny_field g1 g2 g3 ?_)
  rw [if_neg (by simp : ¬ ((Value.ref T == Value.none) = true))]
  have last : wpAny (model X.prog X.w) X.A (setFlight (.ref a) X.env.frame) (fun _ s4 => wpAny (model X.prog X.w) X.A (throw (.ref a) : Sem Flow) (SP X pins D) X.xe s4) X.xe s := by
    rw [hf]
    exact HandSPX.setFlight_upZ l.fl fun h4 g u => wpAny_throw (tk _ _ ⟨a, B, t, pins, σ, H, cls, d, rfl, l.inv, l.nb, l.up.trans u, .inr (.inr (by rw [hs]; exact g)), l.na, l.os, l.ag, w⟩)
  first
    | exact wpAny_bind last
    | exact wpAny_bind (wpAny_pure (wpAny_bind last))
end
/-- a clause: its class, the slot of its name, its suite -/
structure Cl where
  c : Value
  i : Option Nat
  ts : Addr → Value → Option Addr → TS
/-- what the clauses wish of an error of the body -/
def wCl (K : Frag) (W : WX) (D : Ends) : List Cl → WX
  | [] => W
  | ⟨c, some i, ts⟩ :: r => fun cls d σ H => ∃ b, PySem.W.exmOne K cls c = some b ∧
      (b = true → ∀ a, H a = none → ts a cls d { nx := fun τ J => D.nx (τ.set i none) J, rt := D.rt, bk := fun τ J => D.bk (τ.set i none) J, ct := fun τ J => D.ct (τ.set i none) J } (σ.set i (some (.ref a))) H) ∧ (b = false → wCl K W D r cls d σ H)
  | ⟨c, none, ts⟩ :: r => fun cls d σ H => ∃ b, PySem.W.exmOne K cls c = some b ∧ (b = true → ∀ a, H a = none → ts a cls d D σ H) ∧ (b = false → wCl K W D r cls d σ H)
inductive ClOk (X : Cx) : List ExceptHandler → List Cl → Prop
  | nil : ClOk X [] []
  | as_ {x n : Str} {c : Value} {i : Nat} {ts : Addr → Value → Option Addr → TS} {b : Stmt} {bs : List Stmt} {np p : Pos} {hds : List ExceptHandler} {l : List Cl} (hN : X.N.Nodup) (hi : X.N[i]? = some n) (hl : X.env.kindOf n = some .local) (hc : Names X x c)
      (hsu : ∀ (a : Addr) (oe : Obj) (cls : Value) (d : Option Addr) (pn : List (Addr × Obj)), Zc cls d oe → (∃ vs, oe.data = .fields vs) → PSs (X.suite a ((a, oe) :: pn)) (b :: bs) (ts a cls d)) (r : ClOk X hds l) :
      ClOk X (.ExceptHandler (some (.Name x np)) (some n) (b :: bs) p :: hds) (⟨c, some i, ts⟩ :: l)
  | only {x : Str} {c : Value} {ts : Addr → Value → Option Addr → TS} {b : Stmt} {bs : List Stmt} {np p : Pos} {hds : List ExceptHandler} {l : List Cl} (hc : Names X x c)
      (hsu : ∀ (a : Addr) (oe : Obj) (cls : Value) (d : Option Addr) (pn : List (Addr × Obj)), Zc cls d oe → (∃ vs, oe.data = .fields vs) → PSs (X.suite a ((a, oe) :: pn)) (b :: bs) (ts a cls d)) (r : ClOk X hds l) :
      ClOk X (.ExceptHandler (some (.Name x np)) none (b :: bs) p :: hds) (⟨c, none, ts⟩ :: l)
section
variable {X : Cx} {pins : List (Addr × Obj)} {σ : L2.St} {H : Hp} {a : Addr} {cls : Value} {d : Option Addr} {B : Heap} {t s : Shared}
/-- the class that a clause names is looked at -/
theorem Lnd.name {x : Str} {np : Pos} {c : Value} {Q : Value → Shared → Prop} {E : Value → Shared → Prop} (hs : X.stack = X.env :: X.outer) (hf : X.env.frame = some X.env.locals) (l : Lnd X pins σ H a cls d B t s) (hc : Names X x c) (q : Q c s) :
    wpAny (model X.prog X.w) (X.A.mark (some (.ref a))) (eval (.Name x np) X.env) Q E s := by
  obtain ⟨o, e1, e2, _, I⟩ := l.lay hs hf
  obtain ⟨g1, g2, g3 | ⟨g3, g4, g5⟩⟩ := hc
  · exact ld_glob (X := X.suite a ((a, o) :: (X.pn ++ pins))) I g1 g3 q g2
  · exact ld_blt (X := X.suite a ((a, o) :: (X.pn ++ pins))) I g1 g3 g4 q g5 g2
theorem Lnd.asks {A : Around} {c : Value} {b : Bool} {Q : Bool → Shared → Prop} {E : Value → Shared → Prop} (hs : X.stack = X.env :: X.outer) (hf : X.env.frame = some X.env.locals) (l : Lnd X pins σ H a cls d B t s) (e : PySem.W.exmOne X.K cls c = some b) (q : Q b s) :
    wpAny (model X.prog X.w) A (excMatches (.ref a) c) Q E s := by
  obtain ⟨o, e1, e2, _, I⟩ := l.lay hs hf
  have ty : PySem.W.Looks (model X.prog X.w) s.heap (typeOf (.ref a)) cls := fun A Q E s' k z => wpAny_typeOf_ref (k _ _ e1) (by rw [e2.1]; exact z)
  exact (PySem.W.exm_one (M := model X.prog X.w) l.here.kIn ty e).here q
theorem Lnd.by_ {W : WX} {D : Ends} (hs : X.stack = X.env :: X.outer) (hf : X.env.frame = some X.env.locals) (tk : Takes X W) :
    ∀ {hds : List ExceptHandler} {l : List Cl}, ClOk X hds l → ∀ {s : Shared}, Lnd X pins σ H a cls d B t s → wCl X.K W D l cls d σ H → wpAny (model X.prog X.w) X.A (handleBy (.ref a) X.env hds) (SP X pins D) X.xe s := by
  intro hds l hk
  induction hk with
  | nil => exact fun L w => L.pass hs hf tk w
  | as_ hN hi hl hc hsu r ih =>
    intro s L w
    obtain ⟨b, e, yes, no⟩ := w
    refine wpAny_handleBy_cons (codeAny_handlers_test (L.name hs hf hc (L.asks hs hf e ?_))) (by intro q; cases q)
    cases b with
    | false => exact ih L (no rfl)
    | true =>
      refine codeAny_handlers_suite_as (L.again fun h' L' => ?_)
      obtain ⟨o, _, hz, hv, I⟩ := L'.lay hs hf
      refine store_ok (X := X.suite a ((a, o) :: (X.pn ++ pins))) (v := .ref a) I hN hi (.inl hl) rfl (fun s5 I5 => ?_) (.inr hl)
      refine wpAny_mono ((hsu a o cls d _ hz hv).run [] s5 _ H _ I5 (yes rfl a L.na)) (fun f s6 z => ?_) fun _ _ z => False.elim z
      match f, z with
      | .next, ⟨τ, J, I6, k⟩ => exact gone_ok (I6.unsuite L.inv.ok) hN hi hl fun s7 I7 => ⟨_, _, I7, k⟩
      | .brk, ⟨τ, J, I6, k⟩ => exact gone_ok (I6.unsuite L.inv.ok) hN hi hl fun s7 I7 => ⟨_, _, I7, k⟩
      | .cont, ⟨τ, J, I6, k⟩ => exact gone_ok (I6.unsuite L.inv.ok) hN hi hl fun s7 I7 => ⟨_, _, I7, k⟩
      | .ret u, ⟨v, τ, J, I6, rv, k⟩ => exact gone_ok (I6.unsuite L.inv.ok) hN hi hl fun s7 I7 => ⟨_, _, _, I7, rv, k⟩
  | only hc hsu r ih =>
    intro s L w
    obtain ⟨b, e, yes, no⟩ := w
    refine wpAny_handleBy_cons (codeAny_handlers_test (L.name hs hf hc (L.asks hs hf e ?_))) (by intro q; cases q)
    cases b with
    | false => exact ih L (no rfl)
    | true =>
      refine codeAny_handlers_suite (L.again fun h' L' => ?_)
      obtain ⟨o, _, hz, hv, I⟩ := L'.lay hs hf
      refine wpAny_mono ((hsu a o cls d _ hz hv).run [] _ _ H _ I (yes rfl a L.na)) (fun f s6 z => ?_) fun _ _ z => False.elim z
      match f, z with
      | .next, ⟨τ, J, I6, k⟩ => exact ⟨_, _, I6.unsuite L.inv.ok, k⟩
      | .brk, ⟨τ, J, I6, k⟩ => exact ⟨_, _, I6.unsuite L.inv.ok, k⟩
      | .cont, ⟨τ, J, I6, k⟩ => exact ⟨_, _, I6.unsuite L.inv.ok, k⟩
      | .ret u, ⟨v, τ, J, I6, rv, k⟩ => exact ⟨_, _, _, I6.unsuite L.inv.ok, rv, k⟩
theorem ps_try_cl {W : WX} {body : List Stmt} {h0 : ExceptHandler} {hds : List ExceptHandler} {l : List Cl} {tb : WX → TS} {pos : Pos} (hs : X.stack = X.env :: X.outer) (hf : X.env.frame = some X.env.locals) (tk : Takes X W)
    (hb : ∀ (W' : WX) (pn : List (Addr × Obj)) (xe : Value → Shared → Prop), Takes (X.tr pn xe) W' → PassesOwn (model X.prog X.w) X.A X.env xe → PSs (X.tr pn xe) body (tb W'))
    (hh : ClOk X (h0 :: hds) l) : PS X (.Try body (h0 :: hds) [] [] pos) (fun D σ H => tb (wCl X.K W D l) D σ H) := by
  refine ⟨fun pins s σ H D I h => wpAny_Try_except ?_⟩
  have fr : X.A.frames = some (X.env :: X.outer) := by rw [I.ok.frames, hs]
  refine wpAny_mono ((hb (wCl X.K W D l) (X.pn ++ pins) (fun e s1 => wpAny (model X.prog X.w) X.A (noteFrame e X.env) (fun _ s2 => wpAny (model X.prog X.w) X.A (setFlight e none) (fun _ s3 =>
    wpAny (model X.prog X.w) X.A (handleBy e X.env (h0 :: hds)) (SP X pins D) X.xe s3) X.xe s2) X.xe s1) (fun u s' xx => ?_) PassesOwn.looking).run [] s σ H D (I.toTry _) h) (fun f s1 z => ?_) fun _ _ z => z
  · obtain ⟨a, B, t, pins2, τ, J, cls, d, rfl, I2, nb, up, sky, na, os, ag, w⟩ := xx
    refine Sky.land Zc.steady fr hf (by rw [← hs]; exact sky) fun h3 f3 u3 => ?_
    exact Lnd.by_ (a := a) (cls := cls) (d := d) (B := B) (t := t) hs hf tk hh ⟨I2.ofTry I.ok, nb, up.trans u3, f3, na, os, ag⟩ w
  · match f, z with
    | .next, ⟨τ, J, I2, k⟩ => exact wpAny_execs_nil ⟨τ, J, I2.ofTry I.ok, k⟩
    | .brk, ⟨τ, J, I2, k⟩ => exact ⟨τ, J, I2.ofTry I.ok, k⟩
    | .cont, ⟨τ, J, I2, k⟩ => exact ⟨τ, J, I2.ofTry I.ok, k⟩
    | .ret u, ⟨v, τ, J, I2, rv, k⟩ => exact ⟨v, τ, J, I2.ofTry I.ok, rv, k⟩
end
end S
namespace S
open PySem PySem.Spec PyProof.Rows L2
/-! ### a dict beside a thing of another kind: not equal -/
section
open PySem.SeqAt
variable {prog : Program} {w : World} {A : Around} {E : Value → Shared → Prop} {s : Shared}
/-- a dict stands at d -/
def DkO (s : Shared) (d : Addr) : Prop := ∃ es ep, s.heap.get? d = some ⟨.type "dict", none, .dict es ep, #[]⟩
theorem DkO.ty {d : Addr} (h : DkO s d) : s.TypeIs (.ref d) "dict" := by
  obtain ⟨es, ep, e⟩ := h
  exact ⟨_, e, rfl⟩
theorem dict_no {d : Addr} {y : Value} {T : String} {Q : Value → Shared → Prop} (hd : s.TypeIs (.ref d) "dict") (hy : s.TypeIs y T) (hs : isSubtype (.type T) (.type "dict") = pure false) (q : Q .notImplemented s)
    {name : Str} (sl : Slot "dict" name "dict.__eq__") : wpAny (model prog w) A (call (.builtin "dict.__eq__") [.ref d, y]) Q E s := by
  refine wpAny_call_entry sl hd PySem.F.entry_dict_eq ?_ (PySem.F.args_dict_eq_2 _ _)
  show wpAny _ _ (Builtin.Dict.dictSlotArgs "__eq__" ⟨[.ref d, y], []⟩ >>= _) _ _ s
  refine wpAny_bind ?_
  unfold Builtin.Dict.dictSlotArgs
  refine wpAny_bind (wpAny_notOrdered_dict hd ?_)
  show wpAny _ _ (pure (Value.ref d, y)) _ _ s
  refine wpAny_pure (wpAny_bind (wpAny_isInstance (T := T) hy hs ?_))
  simp only [Bool.not_false, if_true]
  exact wpAny_bind (wpAny_rule (wpAny_pure ⟨_, rfl, q⟩))
theorem no_int (i : Int) (u : Tok) {d : Addr} {es : Array DictEntry} {ep : Nat} : Meets (Builtin.«int.__eq__» ⟨[.int i u, .ref d], []⟩) (fun _ R s => s.heap.get? d = some ⟨.type "dict", none, .dict es ep, #[]⟩ ∧ R (.ok (.ret .notImplemented)) s) :=
  .of_wp fun prog w A R s ⟨hl, h⟩ => by obtain ⟨hp, g, dd, tk, os⟩ := s; wp_walk using wpAny_loadPart' hl, wpAny_load hl; exact ⟨_, rfl, h⟩
theorem no_bool (b : Bool) {d : Addr} {es : Array DictEntry} {ep : Nat} : Meets (Builtin.«int.__eq__» ⟨[.bool b, .ref d], []⟩) (fun _ R s => s.heap.get? d = some ⟨.type "dict", none, .dict es ep, #[]⟩ ∧ R (.ok (.ret .notImplemented)) s) :=
  .of_wp fun prog w A R s ⟨hl, h⟩ => by obtain ⟨hp, g, dd, tk, os⟩ := s; wp_walk using wpAny_loadPart' hl, wpAny_load hl; exact ⟨_, rfl, h⟩
theorem no_str (z : Str) (u : Tok) {d : Addr} {es : Array DictEntry} {ep : Nat} : Meets (Builtin.«str.__eq__» ⟨[.str z u, .ref d], []⟩) (fun _ R s => s.heap.get? d = some ⟨.type "dict", none, .dict es ep, #[]⟩ ∧ R (.ok (.ret .notImplemented)) s) :=
  .of_wp fun prog w A R s ⟨hl, h⟩ => by obtain ⟨hp, g, dd, tk, os⟩ := s; wp_walk using wpAny_loadPart' hl, wpAny_load hl; exact ⟨_, rfl, h⟩
theorem no_list {l : Addr} {d : Addr} {es : Array DictEntry} {ep : Nat} : Meets (Builtin.«list.__eq__» ⟨[.ref l, .ref d], []⟩) (fun _ R s => s.heap.get? d = some ⟨.type "dict", none, .dict es ep, #[]⟩ ∧ R (.ok (.ret .notImplemented)) s) :=
  .of_wp fun prog w A R s ⟨hl, h⟩ => by obtain ⟨hp, g, dd, tk, os⟩ := s; have f1 := PySem.F.sub_dict_list; wp_walk using wpAny_loadPart' hl, wpAny_load hl; exact ⟨_, rfl, h⟩
theorem no_tuple {l : Addr} {d : Addr} {es : Array DictEntry} {ep : Nat} : Meets (Builtin.«tuple.__eq__» ⟨[.ref l, .ref d], []⟩) (fun _ R s => s.heap.get? d = some ⟨.type "dict", none, .dict es ep, #[]⟩ ∧ R (.ok (.ret .notImplemented)) s) :=
  .of_wp fun prog w A R s ⟨hl, h⟩ => by obtain ⟨hp, g, dd, tk, os⟩ := s; have f1 := PySem.F.sub_dict_tuple; wp_walk using wpAny_loadPart' hl, wpAny_load hl; exact ⟨_, rfl, h⟩
/-- no dict, and its == leaves dicts alone -/
structure NoD (s : Shared) (v : Value) (T id : String) : Prop where
  ty : s.TypeIs v T
  n1 : (Value.type T != Value.type "dict") = true
  n2 : (Value.type "dict" != Value.type T) = true
  s1 : isSubtype (.type T) (.type "dict") = pure false
  s2 : isSubtype (.type "dict") (.type T) = pure false
  sl : Slot T (cmpInfo .Eq).2.1 id
  sr : Slot T (cmpInfo .Eq).2.2 id
  is_ : ∀ d, (∃ l, v = .ref l) ∨ (isSame (.ref d) v = pure false ∧ isSame v (.ref d) = pure false)
  no : ∀ (prog : Program) (w : World) (A : Around) (E : Value → Shared → Prop) (Q : Value → Shared → Prop) (d : Addr) (name : Str), Slot T name id → DkO s d → Q .notImplemented s → wpAny (model prog w) A (call (.builtin id) [v, .ref d]) Q E s
theorem noD_non : NoD s .none "NoneType" "NoneType.__eq__" := ⟨rfl, by decide, by decide, PySem.F.sub_NoneType_dict, PySem.F.sub_dict_NoneType, PySem.F.slot_NoneType_eq, PySem.F.slot_NoneType_eq_refl, (fun _ => .inr ⟨rfl, rfl⟩),
  fun prog w A E Q d name sl _ q => call_gives sl rfl PySem.F.entry_NoneType_eq (PySem.F.args_NoneType_eq_2 _ _) (NoneType___eq___none_ref_0 d) q⟩
theorem noD_bool (b : Bool) : NoD s (.bool b) "bool" "int.__eq__" := ⟨rfl, by decide, by decide, PySem.F.sub_bool_dict, PySem.F.sub_dict_bool, PySem.F.slot_bool_eq, PySem.F.slot_bool_eq_refl, (fun _ => .inr ⟨rfl, rfl⟩),
  fun prog w A E Q d name sl ⟨es, ep, e⟩ q => call_meets sl rfl PySem.F.entry_int_eq (PySem.F.args_int_eq_2 _ _) (no_bool b) ⟨e, q⟩⟩
theorem noD_int (i : Int) (u : Tok) : NoD s (.int i u) "int" "int.__eq__" := ⟨rfl, by decide, by decide, PySem.F.sub_int_dict, PySem.F.sub_dict_int, PySem.F.slot_int_eq, PySem.F.slot_int_eq_refl, (fun _ => .inr ⟨rfl, rfl⟩),
  fun prog w A E Q d name sl ⟨es, ep, e⟩ q => call_meets sl rfl PySem.F.entry_int_eq (PySem.F.args_int_eq_2 _ _) (no_int i u) ⟨e, q⟩⟩
theorem noD_str (z : Str) (u : Tok) : NoD s (.str z u) "str" "str.__eq__" := ⟨rfl, by decide, by decide, PySem.F.sub_str_dict, PySem.F.sub_dict_str, PySem.F.slot_str_eq, PySem.F.slot_str_eq_refl, (fun _ => .inr ⟨rfl, rfl⟩),
  fun prog w A E Q d name sl ⟨es, ep, e⟩ q => call_meets sl rfl PySem.F.entry_str_eq (PySem.F.args_str_eq_2 _ _) (no_str z u) ⟨e, q⟩⟩
theorem noD_list {l : Addr} (h : s.TypeIs (.ref l) "list") : NoD s (.ref l) "list" "list.__eq__" := ⟨h, by decide, by decide, PySem.F.sub_list_dict, PySem.F.sub_dict_list, PySem.F.slot_list_eq, PySem.F.slot_list_eq_refl, (fun _ => .inl ⟨_, rfl⟩),
  fun prog w A E Q d name sl ⟨es, ep, e⟩ q => call_meets sl h PySem.F.entry_list_eq (PySem.F.args_list_eq_2 _ _) no_list ⟨e, q⟩⟩
theorem noD_tuple {l : Addr} (h : s.TypeIs (.ref l) "tuple") : NoD s (.ref l) "tuple" "tuple.__eq__" := ⟨h, by decide, by decide, PySem.F.sub_tuple_dict, PySem.F.sub_dict_tuple, PySem.F.slot_tuple_eq, PySem.F.slot_tuple_eq_refl, (fun _ => .inl ⟨_, rfl⟩),
  fun prog w A E Q d name sl ⟨es, ep, e⟩ q => call_meets sl h PySem.F.entry_tuple_eq (PySem.F.args_tuple_eq_2 _ _) no_tuple ⟨e, q⟩⟩
/-- no thing of another kind is the dict itself -/
theorem notD {v : Value} {T id : String} {d : Addr} {R : Bool → Shared → Prop} (h : NoD s v T id) (hd : DkO s d) (r : R false s) : wpAny (model prog w) A (isSame (.ref d) v) R E s ∧ wpAny (model prog w) A (isSame v (.ref d)) R E s := by
  obtain ⟨es, ep, e⟩ := hd
  rcases h.is_ d with ⟨l, rfl⟩ | ⟨i1, i2⟩
  · obtain ⟨o, ho, hc⟩ := h.ty
    have ne : d ≠ l := fun z => by
      subst z
      rw [e] at ho
      cases ho
      have := h.n1
      rw [← hc] at this
      simp at this
    constructor
    · show wpAny _ A (if (d == l) = true then pure true else _) R E s
      rw [if_neg (by simpa using ne)]
      refine wpAny_bind (wpAny_load e (wpAny_bind (wpAny_load ho ?_)))
      split
      · rename_i h1 _ _ _; injection h1 with z; exact absurd z (by decide)
      · exact wpAny_pure r
    · show wpAny _ A (if (l == d) = true then pure true else _) R E s
      rw [if_neg (by simpa using ne.symm)]
      refine wpAny_bind (wpAny_load ho (wpAny_bind (wpAny_load e ?_)))
      split
      · rename_i _ h1 _ _; injection h1 with z; exact absurd z (by decide)
      · exact wpAny_pure r
  · exact ⟨wpAny_of_eq i1 r, wpAny_of_eq i2 r⟩
theorem rcD1 {v : Value} {T id : String} {d : Addr} (h : NoD s v T id) (hd : DkO s d) (hu : A.units < cLine) : RcAt A s (.ref d) v false := fun prog w E Q q =>
  rc_eq_decline_or (k := false) hd.ty h.ty h.n2 h.s1 PySem.F.slot_dict_eq h.sr (fun _ z => dict_no hd.ty h.ty h.s1 z PySem.F.slot_dict_eq) (fun _ z => h.no prog w A E _ d _ h.sr hd z) (fun _ z => (notD h hd z).1) (.inr hu) q
theorem rcD2 {v : Value} {T id : String} {d : Addr} (h : NoD s v T id) (hd : DkO s d) (hu : A.units < cLine) : RcAt A s v (.ref d) false := fun prog w E Q q =>
  rc_eq_decline_or (k := false) h.ty hd.ty h.n1 h.s2 h.sl PySem.F.slot_dict_eq_refl (fun _ z => h.no prog w A E _ d _ h.sl hd z) (fun _ z => dict_no hd.ty h.ty h.s1 z PySem.F.slot_dict_eq_refl) (fun _ z => (notD h hd z).2) (.inr hu) q
theorem neD {v : Value} {T id : String} {d : Addr} (h : NoD s v T id) (hd : DkO s d) : v ≠ .ref d := fun z => by
  subst z
  obtain ⟨o, ho, hc⟩ := h.ty
  obtain ⟨es, ep, e⟩ := hd
  rw [e] at ho
  cases ho
  have := h.n1
  rw [← hc] at this
  simp at this
theorem eqD1 {v : Value} {T id : String} {d : Addr} (h : NoD s v T id) (hd : DkO s d) (hu : A.units < cLine) : EqAt A s (.ref d) v false := fun prog w E Q q => by
  unfold eqBool
  refine wpAny_holding (wpAny_ite_split (fun hab => absurd (eq_of_beq hab).symm (neD h hd)) fun _ => ?_)
  exact wpAny_bind (rcD1 h hd hu prog w E _ (wpAny_truthy_bool q))
theorem eqD2 {v : Value} {T id : String} {d : Addr} (h : NoD s v T id) (hd : DkO s d) (hu : A.units < cLine) : EqAt A s v (.ref d) false := fun prog w E Q q => by
  unfold eqBool
  refine wpAny_holding (wpAny_ite_split (fun hab => absurd (eq_of_beq hab) (neD h hd)) fun _ => ?_)
  cases v <;> exact wpAny_bind (rcD2 h hd hu prog w E _ (wpAny_truthy_bool q))
end
end S
namespace S
open PySem PySem.Spec PyProof.Rows L2
/-! ### plain data, or the empty dict -/
inductive Mx (K : Frag) (H : Hp) : V → PyData → Prop where
  | dat {x : V} {d : PyData} (h : Dp K H x d) (p : d.plain = true) (l : d.depth ≤ 20) : Mx K H x d
  | dk {a : Addr} (h : H a = some (.dK [])) : Mx K H (.ref a) (.dict [])
def mixEq : PyData → PyData → Bool
  | .dict _, .dict _ => true
  | .dict _, _ => false
  | _, .dict _ => false
  | d, e => PyData.eqv d e
section
variable {X : Cx} {K : Frag} {pins : List (Addr × Obj)} {σ : L2.St} {H : Hp} {s : Shared} {a b : Addr} {x y : V} {d e : PyData}
theorem dkO_of {ks : List (Key × V)} (I : Inv X pins σ H s) (h : H a = some (.dK ks)) : DkO s a := by
  obtain ⟨_, _, va, _, o, es, ep, e1, ⟨e2, e3, e4⟩, e5, _⟩ := (show ObjOk X.prog X.w H s.heap a (.dK ks) from I.hok a _ h)
  obtain ⟨c, dd, dt, sl⟩ := o
  simp only at e2 e3 e4 e5
  subst e2 e3 e4 e5
  exact ⟨es, ep, e1⟩
theorem dk0_any (I : Inv X pins σ H s) (h : H a = some (.dK [])) (P : Program) (w : World) : s.heap.DictOf (mixKind P w) a ([] : List (Key × Value)) ∧ (a == sysModules) = false := by
  obtain ⟨_, ya, va, ra, o, es, ep, e1, e2, e3, e4, e5, e6⟩ := (show ObjOk X.prog X.w H s.heap a (.dK []) from I.hok a _ h)
  have hv : va = [] := by
    have := ra.length
    exact List.length_eq_zero_iff.mp this.symm
  subst hv
  generalize hl : es.toList = l at e5
  cases e5
  refine ⟨⟨o, es, ep, e1, e2, e3, fun q hq => ?_, by rw [hl]; exact .nil, List.nodup_nil⟩, ya⟩
  have : q ∈ es.toList := by simpa using hq
  rw [hl] at this
  cases this
theorem noD_of (I : Inv X pins σ H s) (h : Dp X.K H x d) {v : Value} (r : RelV x v) : ∃ T id, NoD s v T id := by
  cases h with
  | non => cases r; exact ⟨_, _, noD_non⟩
  | bl b => cases r; exact ⟨_, _, noD_bool b⟩
  | int i => obtain ⟨t, rfl⟩ := r; exact ⟨_, _, noD_int i t⟩
  | str z => obtain ⟨t, rfl⟩ := r; exact ⟨_, _, noD_str z t⟩
  | lst hl _ =>
    cases r
    obtain ⟨its, _, pl, _⟩ := I.list hl
    obtain ⟨o, e1, e2, _⟩ := pl.isList
    exact ⟨_, _, noD_list ⟨o, e1, e2⟩⟩
  | tup hl _ =>
    cases r
    obtain ⟨its, _, pl, _⟩ := I.tuple hl
    obtain ⟨o, e1, e2, _⟩ := pl
    exact ⟨_, _, noD_tuple ⟨o, e1, e2⟩⟩
theorem mix_plain (hd : d.plain = true) (he : e.plain = true) : mixEq d e = PyData.eqv d e := by
  cases d <;> cases e <;> first | rfl | cases hd | cases he
theorem mix_dL (he : e.plain = true) : mixEq (.dict []) e = false := by
  cases e <;> first | rfl | cases he
theorem mix_dR (he : d.plain = true) : mixEq d (.dict []) = false := by
  cases d <;> first | rfl | cases he
theorem Mx.eq (hx : Mx K H x d) (hy : Mx K H y e) : EqOk K H 30 x y (mixEq d e) := by
  cases hx with
  | dat h1 p1 l1 =>
    cases hy with
    | dat h2 p2 l2 =>
      rw [mix_plain p1 p2]
      exact (eg_dat h1 h2 p1 p2).at_.up (by omega)
    | dk h2 =>
      rw [mix_dR p1]
      intro X pins σ s A v u k I hu rv ru
      subst k
      cases ru
      obtain ⟨T, id, n⟩ := noD_of I h1 rv
      exact eqD2 n (dkO_of I h2) (by omega)
  | dk h1 =>
    cases hy with
    | dat h2 p2 l2 =>
      rw [mix_dL p2]
      intro X pins σ s A v u k I hu rv ru
      subst k
      cases rv
      obtain ⟨T, id, n⟩ := noD_of I h2 ru
      exact eqD1 n (dkO_of I h1) (by omega)
    | dk h2 =>
      rename_i a b
      intro X pins σ s A v u k I hu rv ru
      subst k
      cases rv
      cases ru
      show SeqAt.EqAt A s _ _ true
      by_cases e0 : a = b
      · subst e0
        exact SeqAt.EqAt.same _
      · refine SeqAt.EqAt.of_refs e0 fun prog w E Q q => ?_
        obtain ⟨d1, y1⟩ := dk0_any I h1 prog w
        obtain ⟨d2, y2⟩ := dk0_any I h2 prog w
        exact PySem.W.keq_eq (knd := mixKind prog w) (r := true) y1 y2 d1 d2 (by omega) (fun _ => .nil) q
theorem dp_same {H' : Hp} (s : Same H H') : ∀ {x : V} {d : PyData}, Dp K H x d → Dp K H' x d := by
  intro x d h
  refine Dp.rec (motive_1 := fun x d _ => Dp K H' x d) (motive_2 := fun xs ds _ => DpAll K H' xs ds) ?_ ?_ ?_ ?_ ?_ ?_ ?_ ?_ h
  · exact .non
  · exact fun b => .bl b
  · exact fun i => .int i
  · exact fun z => .str z
  · exact fun h _ ih => .lst (sqL_same h s) ih
  · exact fun h _ ih => .tup (sqT_same h s) ih
  · exact .nil
  · exact fun _ _ a b => .cons a b
theorem Mx.same {H' : Hp} (h : Mx K H x d) (s : Same H H') : Mx K H' x d := by
  cases h with
  | dat h p l => exact .dat (dp_same s h) p l
  | dk h => exact .dk (s _ _ h)
open Classical in
/-- the data that stands there -/
noncomputable def rdM (K : Frag) (H : Hp) (x : V) : PyData := if h : ∃ d, Mx K H x d then h.choose else .none
theorem rdM_of (h : ∃ d, Mx K H x d) : Mx K H x (rdM K H x) := by
  unfold rdM
  rw [dif_pos h]
  exact h.choose_spec
end
end S
namespace S
open PySem PySem.Spec PyProof.Rows L2
/-! ### [f(x) for x in xs if c(x)] over what stands -/
section
variable {J : It} {xs : List V} {H0 : Hp} {D : Addr} {tt : TT} {te : TE} {vs : List Nat} {σ : L2.St} {Qd : Hp → Prop} {i : Nat}
theorem lc_fm (wk : Walk J xs.length (fun H => Same H0 H) (YAt xs)) (c : V → Bool) (f : V → V) (hD : H0 D = none) (ln : xs.length ≤ 1000) (w0 : ∀ x, wipe ((wipe σ vs).set i (some x)) vs = wipe σ vs)
    (tst : ∀ (x : V) (H : Hp) (B : Bool → Hp → Prop), x ∈ xs → Same H0 H → (∀ H', Same H H' → B (c x) H') → tt ((wipe σ vs).set i (some x)) H B)
    (el : ∀ (x : V) (H : Hp) (Z : V → Hp → Prop), x ∈ xs → Same H0 H → (∀ H', Same H H' → Z (f x) H') → te ((wipe σ vs).set i (some x)) H Z)
    (q : ∀ H, Same H0 H → H D = some (.lst ((xs.filter c).map f)) → Qd H) :
    ∃ W : Nat → Nat → Hp → Prop, (∃ m, W 0 m (upd H0 D (.lst []))) ∧ ∀ k m H, W k m H →
      (J.stop k H ∧ Qd H) ∨ (J.go k H ∧ ∃ Nx : Hp → Prop, (∀ H', Nx H' → ∃ m', m' < m ∧ W (k + 1) m' H') ∧ ∀ x H', J.yld k H x H' → gName i x (wipe σ vs) H' fun σ2 H2 => wipe σ2 vs = wipe σ vs ∧ tt σ2 H2 fun b H3 =>
        if b = true then te σ2 H3 fun y H4 => ∃ acc, H4 D = some (.lst acc) ∧ acc.length < sizeLine ∧ Nx (upd H4 D (.lst (acc ++ [y]))) else Nx H3) := by
  refine lc_seq wk (fun k J => Same H0 J ∧ J D = some (.lst (((xs.take k).filter c).map f))) ⟨Same.new hD, upd_same⟩ (fun k J _ h => h.1) ?_ ?_
  · rintro k x J hx ⟨sJ, eD⟩
    have mx := List.mem_of_getElem? hx
    refine ⟨w0 x, tst x J _ mx sJ fun J2 s2 => ?_⟩
    have et : xs.take (k + 1) = xs.take k ++ [x] := by rw [List.take_add_one, hx]; rfl
    cases e : c x with
    | true =>
      refine iteT (el x J2 _ mx (sJ.trans s2) fun J3 s3 => ⟨_, (s2.trans s3) _ _ eD, ?_, Same.upd ((sJ.trans s2).trans s3) hD, ?_⟩)
      · rw [List.length_map]
        have h1 := List.length_filter_le c (xs.take k)
        rw [List.length_take] at h1
        exact Nat.lt_of_le_of_lt (show ((xs.take k).filter c).length ≤ 1000 by omega) (by decide)
      · rw [upd_same, et, List.filter_append, List.map_append]
        simp [e]
    | false =>
      refine iteF ⟨sJ.trans s2, ?_⟩
      rw [et, List.filter_append, List.map_append]
      simp [e]
      simpa using s2 _ _ eD
  · rintro J ⟨sJ, eD⟩
    rw [List.take_length] at eD
    exact q J sJ eD
theorem lc_map (wk : Walk J xs.length (fun H => Same H0 H) (YAt xs)) (f : V → V) (hD : H0 D = none) (ln : xs.length ≤ 1000) (w0 : ∀ x, wipe ((wipe σ vs).set i (some x)) vs = wipe σ vs)
    (el : ∀ (x : V) (H : Hp) (Z : V → Hp → Prop), x ∈ xs → Same H0 H → (∀ H', Same H H' → Z (f x) H') → te ((wipe σ vs).set i (some x)) H Z)
    (q : ∀ H, Same H0 H → H D = some (.lst (xs.map f)) → Qd H) :
    ∃ W : Nat → Nat → Hp → Prop, (∃ m, W 0 m (upd H0 D (.lst []))) ∧ ∀ k m H, W k m H →
      (J.stop k H ∧ Qd H) ∨ (J.go k H ∧ ∃ Nx : Hp → Prop, (∀ H', Nx H' → ∃ m', m' < m ∧ W (k + 1) m' H') ∧ ∀ x H', J.yld k H x H' → gName i x (wipe σ vs) H' fun σ2 H2 => wipe σ2 vs = wipe σ vs ∧ tYes σ2 H2 fun b H3 =>
        if b = true then te σ2 H3 fun y H4 => ∃ acc, H4 D = some (.lst acc) ∧ acc.length < sizeLine ∧ Nx (upd H4 D (.lst (acc ++ [y]))) else Nx H3) :=
  lc_fm wk (fun _ => true) f hD ln w0 (fun _ _ _ _ _ b => yesT (b _ fun _ _ z => z)) el fun H s e => q H s (by rw [List.filter_eq_self.mpr (fun _ _ => rfl)] at e; exact e)
/-- the same from rows of data: the values are a ↦ v a -/
theorem lc_mapA {α : Type} {as : List α} {v : α → V} (wk : Walk J (as.map v).length (fun H => Same H0 H) (YAt (as.map v))) (f : α → V) (hf : ∀ a ∈ as, ∀ b ∈ as, v a = v b → f a = f b) (hD : H0 D = none) (ln : as.length ≤ 1000) (w0 : ∀ x, wipe ((wipe σ vs).set i (some x)) vs = wipe σ vs)
    (el : ∀ (a : α) (H : Hp) (Z : V → Hp → Prop), a ∈ as → Same H0 H → (∀ H', Same H H' → Z (f a) H') → te ((wipe σ vs).set i (some (v a))) H Z)
    (q : ∀ H, Same H0 H → H D = some (.lst (as.map f)) → Qd H) :
    ∃ W : Nat → Nat → Hp → Prop, (∃ m, W 0 m (upd H0 D (.lst []))) ∧ ∀ k m H, W k m H →
      (J.stop k H ∧ Qd H) ∨ (J.go k H ∧ ∃ Nx : Hp → Prop, (∀ H', Nx H' → ∃ m', m' < m ∧ W (k + 1) m' H') ∧ ∀ x H', J.yld k H x H' → gName i x (wipe σ vs) H' fun σ2 H2 => wipe σ2 vs = wipe σ vs ∧ tYes σ2 H2 fun b H3 =>
        if b = true then te σ2 H3 fun y H4 => ∃ acc, H4 D = some (.lst acc) ∧ acc.length < sizeLine ∧ Nx (upd H4 D (.lst (acc ++ [y]))) else Nx H3) := by
  classical
  let F : V → V := fun x => if h : ∃ a ∈ as, v a = x then f h.choose else .non
  have hF : ∀ a ∈ as, F (v a) = f a := fun a ha => by
    have h : ∃ b ∈ as, v b = v a := ⟨a, ha, rfl⟩
    show (if h : ∃ b ∈ as, v b = v a then f h.choose else .non) = f a
    rw [dif_pos h]
    exact hf _ h.choose_spec.1 _ ha h.choose_spec.2
  refine lc_map wk F hD (by rw [List.length_map]; exact ln) w0 (fun x H Z hx s z => ?_) fun H s e => q H s ?_
  · obtain ⟨a, ha, rfl⟩ := List.mem_map.mp hx
    rw [hF a ha] at z
    exact el a H Z ha s z
  · rw [List.map_map] at e
    rw [e]
    congr 2
    exact List.map_congr_left fun a ha => hF a ha
end
/-- two tuples of like items -/
theorem tup_ne {K : Frag} {H : Hp} {n : Nat} {o t : Addr} {xs : List V} (h1 : H o = some (.tup xs)) (h2 : H t = some (.tup xs)) (hx : ∀ z ∈ xs, EqOk K H n z z true) : EqG K H (n + 1) (.ref o) (.ref t) true :=
  (eg_tup (e := fun _ => true) (.inl (.inl h1)) (.inl (.inl h2)) (fun i p q hp hq => by rw [hp] at hq; cases hq; exact hx p (List.mem_of_getElem? hp)) (fun _ => by simp [pairs])).to (by simp [pairs])
theorem mix_refl {K : Frag} {H : Hp} {x : V} {d : PyData} (h : Mx K H x d) : mixEq d d = true := by
  cases h with
  | dat h p l => rw [mix_plain p p]; exact SeqAt.eqv_refl_plain d p
  | dk h => rfl
end S
namespace S
open PySem PySem.Spec PyProof.Rows L2
def Sp6 (f : V → V → V → V → V → V → Hp → VK → XK → Prop) : Sp := fun vs H Q E => ∃ x y z u v w, vs = [x, y, z, u, v, w] ∧ f x y z u v w H Q E
theorem splen6 {vs : List V} {H : Hp} {Q : VK} {E : XK} {f} (h : Sp6 f vs H Q E) : vs.length = 6 := by obtain ⟨_, _, _, _, _, _, rfl, _⟩ := h; rfl
/-! ### x < y of like data -/
def rLtD (K : Frag) : R2 := fun x y H Q => ∃ d e, Dp K H x d ∧ Dp K H y e ∧ PySem.W.alike d e = true ∧ d ≠ .none ∧ d.depth ≤ 20 ∧ Q (.bl (PySem.W.dataLt d e)) H
theorem ltDK {X : Cx} {K : Frag} (hK : X.K = K) (hu : X.A.units + 64 < cLine) : OpR X (compareOp .Lt) (rLtD K) := by
  intro pins s σ H x y v u Q I rx ry h
  subst hK
  obtain ⟨d, e, hd, he, al, nn, dp, q⟩ := h
  obtain ⟨as, r1⟩ := Dp.reads I d x v hd rx
  obtain ⟨bs, r2⟩ := Dp.reads I e y u he ry
  exact PySem.W.rcLt_alike d e X.A s v u as bs r1 r2 al nn (by omega) X.prog X.w _ _ ⟨.bl _, H, I, rfl, q⟩
/-! ### a or b, a and b of bools, as values -/
theorem orQ {c d : Bool} {Q : V → Hp → Prop} {H : Hp} {B : Prop} (q : Q (.bl (c || d)) H) (hB : Q (.bl d) H → B) : if c = true then Q (.bl true) H else B := by
  cases c with
  | true => exact q
  | false => exact hB q
theorem andQ {c d : Bool} {Q : V → Hp → Prop} {H : Hp} {B : Prop} (q : Q (.bl (c && d)) H) (hB : Q (.bl d) H → B) : if c = true then B else Q (.bl false) H := by
  cases c with
  | true => exact hB q
  | false => exact q
/-! ### the sort by steps from the end -/
section
variable {α β : Type}
def ltAt (lt : α → α → Bool) (x : α) (out : List α) (k : Nat) : Bool := match out[k]? with
  | some y => lt x y
  | none => false
/-- x goes down from k past what is above it -/
def posR (lt : α → α → Bool) (x : α) (out : List α) : Nat → Nat
  | 0 => 0
  | k + 1 => if ltAt lt x out k then posR lt x out k else k + 1
def insR (lt : α → α → Bool) (out : List α) (x : α) : List α := out.take (posR lt x out out.length) ++ [x] ++ out.drop (posR lt x out out.length)
def sortR (lt : α → α → Bool) (l : List α) : List α := l.foldl (insR lt) []
theorem posR_le (lt : α → α → Bool) (x : α) (out : List α) : ∀ k, posR lt x out k ≤ k
  | 0 => Nat.le_refl _
  | k + 1 => by
    unfold posR
    split
    · exact Nat.le_succ_of_le (posR_le lt x out k)
    · exact Nat.le_refl _
theorem insR_perm (lt : α → α → Bool) (out : List α) (x : α) : (insR lt out x).Perm (x :: out) := by
  unfold insR
  have h1 : (out.take (posR lt x out out.length) ++ [x] ++ out.drop (posR lt x out out.length)).Perm ([x] ++ out.take (posR lt x out out.length) ++ out.drop (posR lt x out out.length)) := List.Perm.append_right _ List.perm_append_comm
  refine h1.trans ?_
  rw [List.append_assoc, List.take_append_drop]
  exact List.Perm.refl _
theorem foldR_perm (lt : α → α → Bool) : ∀ (l out : List α), (l.foldl (insR lt) out).Perm (l ++ out)
  | [], out => List.Perm.refl _
  | x :: l, out => by
    rw [List.foldl_cons]
    refine (foldR_perm lt l _).trans ?_
    refine (List.Perm.append_left l (insR_perm lt out x)).trans ?_
    exact List.perm_middle
theorem sortR_perm (lt : α → α → Bool) (l : List α) : (sortR lt l).Perm l := by
  have := foldR_perm lt l []
  rwa [List.append_nil] at this
theorem posR_congr {lt lt' : α → α → Bool} {x : α} {out : List α} (h : ∀ y ∈ out, lt x y = lt' x y) : ∀ k, posR lt x out k = posR lt' x out k
  | 0 => rfl
  | k + 1 => by
    unfold posR
    have e : ltAt lt x out k = ltAt lt' x out k := by
      unfold ltAt
      cases hk : out[k]? with
      | none => rfl
      | some y => exact h y (List.mem_of_getElem? hk)
    rw [e, posR_congr h k]
theorem foldR_congr {lt lt' : α → α → Bool} : ∀ {l out : List α}, (∀ x ∈ l, ∀ y ∈ out, lt x y = lt' x y) → l.Pairwise (fun y x => lt x y = lt' x y) → l.foldl (insR lt) out = l.foldl (insR lt') out
  | [], _, _, _ => rfl
  | x :: l, out, h, p => by
    have e : insR lt out x = insR lt' out x := by
      unfold insR
      rw [posR_congr (h x List.mem_cons_self)]
    rw [List.foldl_cons, List.foldl_cons, e]
    have hp := List.pairwise_cons.mp p
    refine foldR_congr (fun z hz y hy => ?_) hp.2
    rcases List.mem_cons.mp ((insR_perm lt' out x).mem_iff.mp hy) with rfl | hy
    · exact hp.1 z hz
    · exact h z (List.mem_cons_of_mem _ hz) y hy
theorem sortR_congr {lt lt' : α → α → Bool} {l : List α} (p : l.Pairwise (fun y x => lt x y = lt' x y)) : sortR lt l = sortR lt' l := foldR_congr (fun _ _ _ h => by cases h) p
theorem posR_map {lt : α → α → Bool} {lt' : β → β → Bool} {f : α → β} (h : ∀ x y, lt x y = lt' (f x) (f y)) (x : α) (out : List α) : ∀ k, posR lt x out k = posR lt' (f x) (out.map f) k
  | 0 => rfl
  | k + 1 => by
    unfold posR
    have e : ltAt lt x out k = ltAt lt' (f x) (out.map f) k := by
      unfold ltAt
      rw [List.getElem?_map]
      cases out[k]? with
      | none => rfl
      | some y => exact h x y
    rw [e, posR_map h x out k]
theorem insR_map {lt : α → α → Bool} {lt' : β → β → Bool} {f : α → β} (h : ∀ x y, lt x y = lt' (f x) (f y)) (x : α) (out : List α) : (insR lt out x).map f = insR lt' (out.map f) (f x) := by
  unfold insR
  rw [List.map_append, List.map_append, List.map_take, List.map_drop, posR_map h, List.length_map]
  rfl
theorem foldR_map {lt : α → α → Bool} {lt' : β → β → Bool} {f : α → β} (h : ∀ x y, lt x y = lt' (f x) (f y)) : ∀ (l out : List α), (l.foldl (insR lt) out).map f = (l.map f).foldl (insR lt') (out.map f)
  | [], _ => rfl
  | x :: l, out => by
    rw [List.foldl_cons, List.map_cons, List.foldl_cons, foldR_map h l, insR_map h]
theorem sortR_map {lt : α → α → Bool} {lt' : β → β → Bool} {f : α → β} (h : ∀ x y, lt x y = lt' (f x) (f y)) (l : List α) : (sortR lt l).map f = sortR lt' (l.map f) := foldR_map h l []
theorem sortR_take {lt : α → α → Bool} {l : List α} {i : Nat} {x : α} (h : l[i]? = some x) : sortR lt (l.take (i + 1)) = insR lt (sortR lt (l.take i)) x := by
  unfold sortR
  rw [List.take_add_one, h, List.foldl_append]
  rfl
end
end S
namespace S
open PySem PySem.Spec PyProof.Rows L2
section
variable {X : Cx} {K : Frag}
theorem ps_fldaugK {o value : Expr} {f : Str} {tpos pos : Pos} {ta tv : TE} {op : Operator} {rd : V → V → Hp → VK → Prop} (hK : X.K = K) (ha : PE X o ta) (hv : PE X value tv) (hop : InOp X op rd) : PS X (.AugAssign (.Attribute o f tpos) op value pos) (sFldAug K ta tv rd f) := hK ▸ ps_fldaug ha hv hop
theorem pi_enumK {e : Expr} {ta : TA} {p pos tpos : Pos} {elts : List Expr} {kk : Nat} (hK : X.K = K) (hg : Gl X "enumerate") (hm : X.mg "enumerate" = none) (ha : PA X [e] ta) (hs : starEach [e] X.env = [(false, eval e X.env)] := by rfl) :
    PI X (.Tuple elts kk tpos) (.Call (.Name "enumerate" p) [e] [] pos) (iEnum K ta) := hK ▸ pi_enum hg hm ha hs
end
end S
namespace S
open PySem PySem.Spec PyProof.Rows L2
/-! list(d.values()) -/
def rListVals : V → Hp → VK → Prop := fun x H Q => ∃ (d : Addr) (kvs : List (Key × V)), x = .ref d ∧ H d = some (.dK kvs) ∧ ∀ p, H p = none → Q (.ref p) (upd H p (.lst (kvs.map Prod.snd)))
theorem LiIx.paired_get {α β : Type} {F : α → β → Prop} : ∀ {xs : List α} {ys : List β}, Paired F xs ys → ∀ {i : Nat} {x : α}, xs[i]? = some x → ∃ y, ys[i]? = some y ∧ F x y
  | _, _, .nil, i, x, h => by cases h
  | _, _, .cons r t, 0, x, h => by
    have e := Option.some.inj h
    subst e
    exact ⟨_, rfl, r⟩
  | _, _, .cons r t, i + 1, x, h => LiIx.paired_get t h
def tListVals (te : TE) : TE := fun σ H Q => te σ H fun x H1 => rListVals x H1 Q
theorem pe_listVals {X : Cx} {e : Expr} {te : TE} {p apos cpos pos : Pos} (hc : X.calm = true) (hg : Gl X "list") (hm : X.mg "list" = none) (he : PE X e te) (hbase : attributeBase e "values" X.env (eval e X.env) = eval e X.env := by rfl) (hline : (apos.endLine == cpos.line) = true := by rfl)
    (hs : starEach [.Call (.Attribute e "values" apos) [] [] cpos] X.env = (false, eval (.Call (.Attribute e "values" apos) [] [] cpos) X.env) :: starEach [] X.env := by rfl) :
    PE X (.Call (.Name "list" p) [.Call (.Attribute e "values" apos) [] [] cpos] [] pos) (tListVals te) := by
  refine ⟨fun pins s σ H Q I hq => ?_⟩
  refine wpAny_Call_Name_kw (ld_blt I hg hm boot_list ?_)
  refine PyProof.Rows.callWith_type1 ?_ hs rfl
  rw [hs]
  show wpAny _ _ (spliced ((false, eval (.Call (.Attribute e "values" apos) [] [] cpos) X.env) :: backTo pos (starEach [] X.env))) _ _ s
  refine Calls.spliced_cons ?_
  refine wpAny_Call_method (T := "dict") (id := "dict.values") hbase rfl hline F.plainAttrs_dict F.slot_dict_values F.type_dict_values (thn (he.run pins s σ H _ I hq) fun u s1 ⟨x, H1, I1, rx, d, kvs, ex, hd, q⟩ => ?_)
  subst ex
  obtain rfl : u = Value.ref d := rx
  obtain ⟨hz, hs0, vs, kv, hdo⟩ := I1.hok d _ hd
  obtain ⟨ep, hat⟩ := hdo.dictAt
  have lk : kvs.length = vs.length := Paired.length kv
  have I2 : Inv X pins σ H1 { s1 with heap := s1.heap.push { cls := .type "dict_values", data := .fields #[.ref d] } } := I1.kept (t' := s1.toks) fun b ob q => Heap.get?_push_of_some _ q
  refine ⟨hdo.typeIs, hdo.mapOf.noDict, ?_⟩
  show wpAny _ _ (callWith cpos (.builtin "dict.values") [.ref d] [] []) _ X.xe s1
  refine method_meetsIn F.slot_dict_values F.entry_dict_values rfl (PySem.evalArgs_none ⟨rfl, hdo.typeIs, F.args_dict_values_1 _, _, meets_dict_values (mixKind X.prog X.w) d hs0, ⟨vs, hdo⟩, ?_⟩)
  refine Calls.spliced_nil ?_
  refine PySem.W.kdl_call (PySem.W.kdl_values (knd := mixKind X.prog X.w) (kvs := vs) (ep := ep)) (I1.ok.hd hc) ⟨⟨_, Heap.get?_push_size _ rfl, rfl, rfl⟩, hat.push _⟩ (by rw [← lk]; exact hz) fun h' tk acc' c' hkeep hS hacc => ?_
  refine ⟨.ref _, upd H1 _ (.lst (kvs.map Prod.snd)), I2.laid hkeep (Nat.le_refl _) (show ObjOk X.prog X.w _ _ _ (.lst (kvs.map Prod.snd)) from ⟨?_, acc'.toList, c', ?_, ?_⟩), rfl, q _ (I2.hok.fresh (Nat.le_refl _))⟩
  · rw [List.length_map]; exact hz
  · have el : acc'.toList.length = acc'.size := by simp
    refine vals_of_at (by rw [List.length_map, el, hacc.1, lk]) fun j x w h1 h2 => ?_
    obtain ⟨k, hky⟩ := hacc.2 j w (by rw [← Array.getElem?_toList]; exact h2)
    rw [List.getElem?_map] at h1
    obtain ⟨pk, hpk, rfl⟩ := Option.map_eq_some_iff.mp h1
    obtain ⟨qv, g1, g2, g3⟩ := LiIx.paired_get kv hpk
    rw [hky] at g1
    cases g1
    exact g3
  · rw [Array.toArray_toList]; exact hS
/-! [f a for x in xs if c a], from rows of data -/
section
variable {J : It} {H0 : Hp} {D : Addr} {tt : TT} {te : TE} {vs : List Nat} {σ : L2.St} {Qd : Hp → Prop} {i : Nat}
theorem lc_fmA {α : Type} {as : List α} {v : α → V} (wk : Walk J (as.map v).length (fun H => Same H0 H) (YAt (as.map v))) (c : α → Bool) (f : α → V) (hf : ∀ a ∈ as, ∀ b ∈ as, v a = v b → c a = c b ∧ f a = f b) (hD : H0 D = none) (ln : as.length ≤ 1000) (w0 : ∀ x, wipe ((wipe σ vs).set i (some x)) vs = wipe σ vs)
    (tst : ∀ (a : α) (H : Hp) (B : Bool → Hp → Prop), a ∈ as → Same H0 H → (∀ H', Same H H' → B (c a) H') → tt ((wipe σ vs).set i (some (v a))) H B)
    (el : ∀ (a : α) (H : Hp) (Z : V → Hp → Prop), a ∈ as → Same H0 H → (∀ H', Same H H' → Z (f a) H') → te ((wipe σ vs).set i (some (v a))) H Z)
    (q : ∀ H, Same H0 H → H D = some (.lst ((as.filter c).map f)) → Qd H) :
    ∃ W : Nat → Nat → Hp → Prop, (∃ m, W 0 m (upd H0 D (.lst []))) ∧ ∀ k m H, W k m H →
      (J.stop k H ∧ Qd H) ∨ (J.go k H ∧ ∃ Nx : Hp → Prop, (∀ H', Nx H' → ∃ m', m' < m ∧ W (k + 1) m' H') ∧ ∀ x H', J.yld k H x H' → gName i x (wipe σ vs) H' fun σ2 H2 => wipe σ2 vs = wipe σ vs ∧ tt σ2 H2 fun b H3 =>
        if b = true then te σ2 H3 fun y H4 => ∃ acc, H4 D = some (.lst acc) ∧ acc.length < sizeLine ∧ Nx (upd H4 D (.lst (acc ++ [y]))) else Nx H3) := by
  classical
  let F : V → V := fun x => if h : ∃ a ∈ as, v a = x then f h.choose else .non
  let C : V → Bool := fun x => if h : ∃ a ∈ as, v a = x then c h.choose else false
  have hF : ∀ a ∈ as, F (v a) = f a := fun a ha => by
    have h : ∃ b ∈ as, v b = v a := ⟨a, ha, rfl⟩
    show (if h : ∃ b ∈ as, v b = v a then f h.choose else .non) = f a
    rw [dif_pos h]
    exact (hf _ h.choose_spec.1 _ ha h.choose_spec.2).2
  have hC : ∀ a ∈ as, C (v a) = c a := fun a ha => by
    have h : ∃ b ∈ as, v b = v a := ⟨a, ha, rfl⟩
    show (if h : ∃ b ∈ as, v b = v a then c h.choose else false) = c a
    rw [dif_pos h]
    exact (hf _ h.choose_spec.1 _ ha h.choose_spec.2).1
  refine lc_fm wk C F hD (by rw [List.length_map]; exact ln) w0 (fun x H Z hx s z => ?_) (fun x H Z hx s z => ?_) fun H s e => q H s ?_
  · obtain ⟨a, ha, rfl⟩ := List.mem_map.mp hx
    rw [hC a ha] at z
    exact tst a H Z ha s z
  · obtain ⟨a, ha, rfl⟩ := List.mem_map.mp hx
    rw [hF a ha] at z
    exact el a H Z ha s z
  · rw [e, List.filter_map, List.map_map]
    congr 2
    have e1 : as.filter (C ∘ v) = as.filter c := List.filter_congr fun a ha => hC a ha
    rw [e1]
    exact List.map_congr_left fun a ha => hF a ((List.mem_filter.mp ha).1)
end
end S
namespace S
open PySem PySem.Spec PyProof.Rows L2
/-! ### enumerate over a list or a tuple that stands -/
section
open PySem.Calls
set_option maxHeartbeats 1000000 in
theorem meets_enum1 {v : Value} {o : Obj} {H : Heap → Prop} (B : Begins v o H) :
    Meets (Builtin.«enumerate.__new__» ⟨[.type "enumerate", v], []⟩) (fun _ R s => H s.heap ∧
      R (.ok (.ret (.ref (s.heap.push o).objs.size))) { s with heap := (s.heap.push o).push { cls := .type "enumerate", data := .fields #[.none, .bool false, .ref s.heap.objs.size, rawInt 0, .none, .none] } }) :=
  .of_wp fun prog w A R s h => by
    obtain ⟨hp, g, d, tk, os⟩ := s; obtain ⟨h1, h⟩ := h
    have hsub := sub_enumerate
    have q1 : ∀ {A' : Around} {E : Value → Shared → Prop} {Q : Value → Shared → Prop}, Q (.ref hp.objs.size) ⟨hp.push o, g, d, tk, os⟩ → wpAny (model prog w) A' (pyIter v) Q E ⟨hp, g, d, tk, os⟩ :=
      fun q => B.iter prog w _ _ ⟨hp, g, d, tk, os⟩ _ h1 q
    wp_walk using q1
    refine wpAny_stack_any fun st => wpAny_pure ?_
    split
    · rename_i c _ _ _ _ _
      cases (c == Value.type "enumerate")
      · wp_walk using q1
        exact ⟨_, rfl, h⟩
      · wp_walk using q1
        exact ⟨_, rfl, h⟩
    · wp_walk using q1
      exact ⟨_, rfl, h⟩
theorem enum_begins1 {prog : Program} {w : World} {A : Around} {E : Value → Shared → Prop} {s : Shared} {v : Value} {o : Obj} {H : Heap → Prop} {Q : Value → Shared → Prop} (B : Begins v o H) (h1 : H s.heap)
    (h : ∀ h', IsEnum h' (s.heap.objs.size + 1) s.heap.objs.size 0 .none → h'.get? s.heap.objs.size = some o → h'.objs.size = s.heap.objs.size + 2 →
      (∀ b o, s.heap.get? b = some o → h'.get? b = some o) → Q (.ref (s.heap.objs.size + 1)) { s with heap := h' }) :
    wpAny (model prog w) A (call (.type "enumerate") [v]) Q E s := by
  refine callType_new F.called_enumerate (by decide) (F.typeCall_enumerate_1 _) (F.newCall_enumerate_1 _) (fun obj => F.args_object_init_2 obj _) F.entry_enumerate_new (meets_enum1 B) ⟨h1, ?_⟩
  have hz : (s.heap.push o).objs.size = s.heap.objs.size + 1 := Heap.size_push ..
  show _ ∧ _
  rw [hz]
  have he : IsEnum ((s.heap.push o).push { cls := .type "enumerate", data := .fields #[.none, .bool false, .ref s.heap.objs.size, rawInt 0, .none, .none] }) (s.heap.objs.size + 1) s.heap.objs.size 0 .none := by
    have := Heap.get?_push_size (s.heap.push o) (o := { cls := .type "enumerate", data := .fields #[.none, .bool false, .ref s.heap.objs.size, rawInt 0, .none, .none] }) rfl
    rw [hz] at this; exact this
  exact ⟨⟨_, he, rfl⟩, h _ he (Heap.get?_push_of_some _ (Heap.get?_push_size _ B.free)) (by rw [Heap.size_push, hz]) fun b o x => Heap.get?_push_of_some _ (Heap.get?_push_of_some _ x)⟩
end
section
variable {K : Frag}
/-- a list (false) or a tuple (true) -/
def SqB (K : Frag) (b : Bool) (H : Hp) (a : Addr) (xs : List V) : Prop := if b then SqT K H a xs else SqL K H a xs
/-- the items as they stand at each turn, each in a new pair with its number from c on -/
def IteC (K : Frag) (b : Bool) (a : Addr) (c : Int) : It :=
  ⟨fun i H => ∃ (xs : List V) (x : V), SqB K b H a xs ∧ xs[i]? = some x, fun i H v H' => ∃ T x, v = .ref T ∧ H T = none ∧ H' = upd H T (.tup [.int (c + (i : Nat)), x]) ∧ ∀ xs, SqB K b H a xs → xs[i]? = some x, fun i H => ∃ xs : List V, SqB K b H a xs ∧ xs.length = i⟩
def srcAt (b : Bool) (it a : Addr) (i : Nat) (h : Heap) : Prop := if b then h.IsTupleIter it a i else h.IsListIter it a i
def srcOf (b : Bool) (a : Addr) (items : Array Value) (h : Heap) : Prop := if b then h.IsTuple a items else h.IsList a items
theorem src_draws {prog : Program} {w : World} {A : Around} (b : Bool) (hh : A.handled = none) (it a : Addr) (hne : a ≠ it) (items : Array Value) :
    Draws prog w A it [it, a] items.size (fun i v => items[i]? = some v) (fun i h => srcAt b it a i h ∧ srcOf b a items h) := by
  cases b with
  | true => exact Draws.tuple hh it a hne items
  | false => exact Draws.list hh it a hne items
theorem src_inv {X : Cx} {pins : List (Addr × Obj)} {σ : L2.St} {H : Hp} {s : Shared} {b : Bool} {a : Addr} {xs : List V} (I : Inv X pins σ H s) (h : SqB X.K b H a xs) : ∃ its, Vals xs its ∧ srcOf b a its.toArray s.heap := by
  cases b with
  | true =>
    obtain ⟨its, rv, p, hz⟩ := I.tuple h
    exact ⟨its, rv, p⟩
  | false =>
    obtain ⟨its, rv, p, hz⟩ := I.list h
    exact ⟨its, rv, p.isList⟩
theorem srcAt.at {b : Bool} {it a : Addr} {i : Nat} {h h' : Heap} (x : srcAt b it a i h) (k : ∀ o, h.get? it = some o → h'.get? it = some o) : srcAt b it a i h' := by
  cases b with
  | true => exact Heap.IsTupleIter.at x k
  | false => exact Heap.IsListIter.at x k
theorem srcAt.obj {b : Bool} {it a : Addr} {i : Nat} {h : Heap} (x : srcAt b it a i h) : ∃ o, h.get? it = some o ∧ ∀ v, o.data ≠ .cell v := by
  cases b with
  | true =>
    obtain ⟨o, ho, hc, hd⟩ := x
    exact ⟨o, ho, fun v q => by rw [hd] at q; cases q⟩
  | false =>
    obtain ⟨o, ho, hc, hd⟩ := x
    exact ⟨o, ho, fun v q => by rw [hd] at q; cases q⟩
theorem sqB_inj {X : Cx} {pins : List (Addr × Obj)} {σ : L2.St} {H : Hp} {s : Shared} {b : Bool} {a : Addr} {xs ys : List V} (I : Inv X pins σ H s) (h : SqB X.K b H a xs) (h' : SqB X.K b H a ys) : xs = ys := by
  cases b with
  | true => exact I.tuple_inj h h'
  | false => exact I.list_inj h h'
theorem turn_enumC {P : Program} {w : World} {elts : List Expr} {kk : Nat} {tpos : Pos} (b : Bool) (a e it : Addr) (c : Int) :
    Turn P w K (.Tuple elts kk tpos) (IteC K b a c) [e, it] e (fun i h => (∃ old, IsEnum h e it (c + (i : Nat)) old) ∧ srcAt b it a i h ∧ e ≠ it ∧ a ≠ it ∧ e ≠ a) where
  mem := by simp
  obj := fun i h st b' hb => by
    obtain ⟨⟨old, he⟩, hs, _⟩ := st
    have e' : b' = e ∨ b' = it := by simpa using hb
    rcases e' with z | z
    · rw [z]; exact ⟨_, he, fun v q => nomatch q⟩
    · rw [z]; exact hs.obj
  keep := fun i h h' st k => let ⟨⟨old, he⟩, hi, hne⟩ := st; ⟨⟨old, k e (by simp) _ he⟩, hi.at fun o q => k it (by simp) o q, hne⟩
  item := by
    intro X hP hw hK hc i pins s σ H E I hf st hg
    subst hP hw hK
    obtain ⟨⟨old, he⟩, hit, hne, hai, hea⟩ := st
    obtain ⟨xs, x, hq, hx⟩ := hg
    obtain ⟨its, rv, p⟩ := src_inv I hq
    obtain ⟨u, hu, ru⟩ := rv.get hx
    have hel : e < s.heap.objs.size := Heap.lt_size he
    have hil : it < s.heap.objs.size := by obtain ⟨_, q, _⟩ := hit.obj; exact Heap.lt_size q
    have hlt : i < its.toArray.size := by simpa using (List.getElem?_eq_some_iff.mp hu).1
    refine wpAny_pyNext_enum_itemC (src_draws (A := X.A.in1) b (show X.A.in1.handled = none from I.ok.hd hc) it a hai its.toArray) he ⟨hit, p⟩ hlt hne (by simp [hne, hea]) fun u' h' tk hPu ho hst' hT hsz hk => ?_
    have eu : u' = u := by
      have h1 : its[i]? = some u' := by simpa using hPu
      rw [hu] at h1
      injection h1 with h1
      exact h1.symm
    subst eu
    refine ⟨_, rfl, wpAny_letOwnedTupleGo_enum (s := { s with heap := h', toks := tk + 1 }) ho fun h'' he' sb => ?_⟩
    have hT2 : h''.get? s.heap.objs.size = some { cls := .type "tuple", data := .seq #[.int (c + (i : Nat)) tk, u'] } := (sb.2 _ (Nat.ne_of_gt hel)).trans hT
    have new : ObjOk X.prog X.w (upd H s.heap.objs.size (.tup [.int (c + (i : Nat)), x])) h'' s.heap.objs.size (.tup [.int (c + (i : Nat)), x]) :=
      ⟨by show 2 ≤ sizeLine; decide, [.int (c + (i : Nat)) tk, u'], .cons ⟨_, rfl⟩ (.cons ru .nil), ⟨_, hT2, rfl, _, rfl⟩⟩
    have I1 : Inv X pins σ (upd H s.heap.objs.size (.tup [.int (c + (i : Nat)), x])) { s with heap := h'', toks := tk + 1 } :=
      I.turnedNew (ch := [e, it]) (fun b ob hb q => (sb.2 b (fun z => hb (by simp [z]))).trans (hk b ob (fun z => hb (by simp [z])) (fun z => hb (by simp [z])) q)) hf (Nat.le_refl _) new
    refine ⟨.ref s.heap.objs.size, _, I1, rfl, ⟨_, x, rfl, I.hok.fresh (Nat.le_refl _), rfl, fun ys hy => by rw [sqB_inj I hy hq]; exact hx⟩, ⟨⟨u', ?_⟩, hst'.1.at fun o q => (sb.2 it (Ne.symm hne)).trans q, hne, hai, hea⟩, fun b hb => ?_⟩
    · have e1 : c + ((i + 1 : Nat) : Int) = c + (i : Nat) + 1 := by omega
      rw [e1]; exact he'
    · have hb' : b < s.heap.objs.size := by
        have e' : b = e ∨ b = it := by simpa using hb
        rcases e' with z | z
        · rw [z]; exact hel
        · rw [z]; exact hil
      rw [upd_ne (Nat.ne_of_lt hb')]
      exact (hf b hb).1
  done := by
    intro X hP hw hK hc i pins s σ H E I hf st hg
    subst hP hw hK
    obtain ⟨⟨old, he⟩, hit, hne, hai, hea⟩ := st
    obtain ⟨xs, hq, hx⟩ := hg
    obtain ⟨its, rv, p⟩ := src_inv I hq
    obtain ⟨f0, f1, f2, f3, f4, f5⟩ := hf it (by simp)
    have hl := rv.length
    have ei : its.toArray.size = i := by simp; omega
    exact wpAny_pyNext_enum_endD (src_draws (A := X.A.in1) b (show X.A.in1.handled = none from I.ok.hd hc) it a hai its.toArray) he (by rw [ei]; exact ⟨hit, p⟩) fun h' eb => ⟨rfl, I.turned (t' := s.toks) (fun b o hb q => eb b o hb q) f0 f1 f3 f4 f5⟩
  self := fun A i s Q E st h => let ⟨⟨_, he⟩, _⟩ := st; wpAny_pyIter_enum he h
/-- at turn i: a new pair of c + i and the item -/
def YEn (c : Int) (xs : List V) : Nat → Hp → V → Hp → Prop := fun i H v H' => ∃ T x, v = .ref T ∧ H T = none ∧ H' = upd H T (.tup [.int (c + (i : Nat)), x]) ∧ xs[i]? = some x
def iEnX (K : Frag) (c : Int) (ta : TA) : TI := fun σ H R => ta σ H fun vs H1 => ∃ a xs, vs = [.ref a] ∧ (SqL K H1 a xs ∨ SqT K H1 a xs) ∧ ∀ J, Walk J xs.length (fun H => Same H1 H) (YEn c xs) → R J H1
theorem sqB_same {b : Bool} {H H' : Hp} {a : Addr} {xs : List V} (h : SqB K b H a xs) (s : Same H H') : SqB K b H' a xs := by
  cases b with
  | true => exact sqT_same h s
  | false => exact sqL_same h s
theorem walk_enumC {b : Bool} {a : Addr} {xs : List V} {c : Int} {H1 : Hp} (h : SqB K b H1 a xs) : Walk (IteC K b a c) xs.length (fun H => Same H1 H) (YEn c xs) :=
  ⟨fun i H hi s => ⟨xs, xs[i], sqB_same h s, List.getElem?_eq_getElem hi⟩, fun H s => ⟨xs, sqB_same h s, rfl⟩, fun i H v H' hi s y => let ⟨T, x, h1, h2, h3, h4⟩ := y; ⟨T, x, h1, h2, h3, h4 xs (sqB_same h s)⟩⟩
theorem pi_enumX {X : Cx} {e : Expr} {ta : TA} {p pos tpos : Pos} {elts : List Expr} {kk : Nat} (hK : X.K = K) (hg : Gl X "enumerate") (hm : X.mg "enumerate" = none) (ha : PA X [e] ta) (hs : starEach [e] X.env = [(false, eval e X.env)] := by rfl) :
    PI X (.Tuple elts kk tpos) (.Call (.Name "enumerate" p) [e] [] pos) (iEnX K 0 ta) := by
  subst hK
  refine ⟨fun pins s σ H R I h => ?_⟩
  refine Call_ (ld_blt I hg hm boot_enumerate (PyProof.Rows.callWith_type1 (thn (ha.run pos pins s σ H _ I h) fun us s1 ⟨vs, H1, I1, r1, q1⟩ => ?_) hs rfl))
  obtain ⟨a, xs, ex, hq, q⟩ := q1
  subst ex
  cases r1 with
  | cons r rr =>
    cases rr
    cases r
    have fin : ∀ (b : Bool) (h' : Heap), SqB X.K b H1 a xs → IsEnum h' (s1.heap.objs.size + 1) s1.heap.objs.size 0 .none → srcAt b s1.heap.objs.size a 0 h' → a < s1.heap.objs.size → (∀ b o, s1.heap.get? b = some o → h'.get? b = some o) → PIE X pins σ (.Tuple elts kk tpos) R (.ref (s1.heap.objs.size + 1)) { s1 with heap := h' } := fun b h' hB he hit hlt hk => by
      have I2 : Inv X pins σ H1 { s1 with heap := h' } := I1.kept (t' := s1.toks) hk
      refine ⟨s1.heap.objs.size + 1, [s1.heap.objs.size + 1, s1.heap.objs.size], _, IteC X.K b a 0, H1, rfl, I2, turn_enumC b a (s1.heap.objs.size + 1) s1.heap.objs.size 0, ⟨⟨.none, he⟩, hit, Nat.succ_ne_self _, Nat.ne_of_lt hlt, Nat.ne_of_gt (Nat.lt_succ_of_lt hlt)⟩, fun b hb => ?_, q _ (walk_enumC hB)⟩
      have e' : b = s1.heap.objs.size + 1 ∨ b = s1.heap.objs.size := by simpa using hb
      have hle : s1.heap.objs.size ≤ b := by
        rcases e' with z | z
        · rw [z]; exact Nat.le_add_right _ _
        · rw [z]; exact Nat.le_refl _
      exact I1.fpOk hle (I1.hok.fresh hle)
    rcases hq with hq | hq
    · obtain ⟨its, rv, p', hz⟩ := I1.list hq
      have hL := p'.isList
      refine enum_begins1 (begins_list a its.toArray) hL fun h' he hit hsz hk => wpAny_pyIter_enum he (fin false h' hq he ⟨_, hit, rfl, rfl⟩ (by obtain ⟨_, z, _⟩ := hL; exact Heap.lt_size z) hk)
    · obtain ⟨its, rv, p', hz⟩ := I1.tuple hq
      refine enum_begins1 (begins_tuple a its.toArray) p' fun h' he hit hsz hk => wpAny_pyIter_enum he (fin true h' hq he ⟨_, hit, rfl, rfl⟩ (by obtain ⟨_, z, _⟩ := p'; exact Heap.lt_size z) hk)
/-- a for over enumerate(..) of what stands -/
theorem for_enX {J : It} {xs : List V} {c : Int} {H0 : Hp} (w : Walk J xs.length (fun H => Same H0 H) (YEn c xs)) {g : TG} {tb : TS} {D : Ends} {σ : L2.St} {H : Hp} (Pv : Nat → L2.St → Hp → Prop) (h0 : Pv 0 σ H) (hG : ∀ i σ H, i ≤ xs.length → Pv i σ H → Same H0 H)
    (hs : ∀ i x σ H T, xs[i]? = some x → Pv i σ H → H T = none → g (.ref T) σ (upd H T (.tup [.int (c + (i : Nat)), x])) fun σ2 H2 => tb { D with nx := Pv (i + 1), ct := Pv (i + 1), bk := D.nx } σ2 H2) (hd : ∀ σ H, Pv xs.length σ H → D.nx σ H) :
    ∃ W : Nat → Nat → L2.St → Hp → Prop, (∃ m, W 0 m σ H) ∧ ∀ i m σ H, W i m σ H →
      (J.stop i H ∧ D.nx σ H) ∨ (J.go i H ∧ ∃ N : L2.St → Hp → Prop, (∀ σ' H', N σ' H' → ∃ m', m' < m ∧ W (i + 1) m' σ' H') ∧ ∀ x H', J.yld i H x H' → g x σ H' fun σ2 H2 => tb { D with nx := N, ct := N, bk := D.nx } σ2 H2) :=
  for_it w Pv h0 hG (fun i x σ H H' _ p y => by
    obtain ⟨T, v, rfl, h2, rfl, e⟩ := y
    exact hs i v σ H T e p h2) hd
end
end S
namespace S
open PySem PySem.Spec PyProof.Rows L2
/-! f(e, ..), f an instance of a plain class with its own __call__ -/
def tCallX (C : Addr) (sp : Sp) (E : L2.St → XK) (tf : TE) (t : TA) : TE := fun σ H Q => tf σ H fun y H1 => ∃ a, y = V.ref a ∧ t σ H1 fun vs H2 => (∃ dx fs, H2 a = some (.ins C dx fs)) ∧ sp (V.ref a :: vs) H2 Q (E σ)
theorem pe_callX {X : Cx} {fe e : Expr} {es : List Expr} {pos : Pos} {C g : Addr} {k : Nat} {sp : Sp} {E : L2.St → XK} {tf : TE} {t : TA} (hf : PE X fe tf) (c : StX.CallO X.K C g) (F : FnR X.prog X.w X.K X.mg X.base (L2.CX X.prog X.w) k g sp) (hr : Room k X.A) (hx : ∀ σ, PassesAt (L2.CX X.prog X.w) X σ (E σ)) (ha : PA X (e :: es) t)
    (ht : eval (.Call fe (e :: es) [] pos) X.env = (do callWith pos (← eval fe X.env) [] (backTo pos (starEach (e :: es) X.env)) (backToKw pos (keywordEach [] X.env))) := by rfl)
    (he : starEach (e :: es) X.env = (false, eval e X.env) :: starEach es X.env := by rfl) (hpl : (backTo pos (starEach es X.env)).any (·.1) = false := by rfl) : PE X (.Call fe (e :: es) [] pos) (tCallX C sp E tf t) := by
  refine ⟨fun pins s σ H Q I h => ?_⟩
  refine Call_ (thn (hf.run pins s σ H _ I h) fun u s1 ⟨y, H1, I1, ry, a, ey, q⟩ => ?_) ht
  subst ey
  obtain rfl : u = Value.ref a := ry
  refine StX.callO_with (thn (ha.run pos pins s1 σ H1 _ I1 q) fun us s2 ⟨vs, H2, I2, r, hi, q2⟩ => ?_) he hpl
  obtain ⟨ox, od, J, hd⟩ := StX.insC_at (X := X) I2 (.inr hi)
  exact ⟨⟨C, ox, od, J, hd⟩, wpAny_call (PySem.W.kco_code I2.kIn J hd c.at_ c.fn c.fi (run_at0 (us := .ref a :: us) (vs := .ref a :: vs) F hr I2 (hx σ) (.cons rfl r) q2))⟩
end S
namespace S
open PySem PySem.Spec PyProof.Rows L2
/-! ### enumerate(x, start=k) over a list or a tuple; the walk asks only that it stands -/
section
open PySem.Calls
variable {K : Frag}
def iEnS (K : Frag) (ta tk : TA) : TI := fun σ H R => ta σ H fun vs H1 => tk σ H1 fun zs H2 => ∃ (a : Addr) (xs : List V) (b : Bool) (c : Int), vs = [.ref a] ∧ zs = [.int c] ∧ 0 ≤ c ∧ c < 2 ^ 62 ∧ SqB K b H2 a xs ∧ ∀ J, Walk J xs.length (fun H => SqB K b H a xs) (YEn c xs) → R J H2
theorem walk_enumS {b : Bool} {a : Addr} {xs : List V} {c : Int} : Walk (IteC K b a c) xs.length (fun H => SqB K b H a xs) (YEn c xs) :=
  ⟨fun i H hi s => ⟨xs, xs[i], s, List.getElem?_eq_getElem hi⟩, fun H s => ⟨xs, s, rfl⟩, fun i H v H' hi s y => let ⟨T, x, h1, h2, h3, h4⟩ := y; ⟨T, x, h1, h2, h3, h4 xs s⟩⟩
theorem callWith_typeKw {M : Model} {A : Around} {E : Value → Shared → Prop} {s : Shared} {env : Env} {pos : Pos} {T : String} {e : Expr} {kws : List Keyword} {Q : Value → Shared → Prop}
    (h : wpAny M A (spliced (backTo pos (starEach [e] env))) (fun vs s₁ => wpAny M A (evalAll ((backToKw pos (keywordEach kws env)).map (·.2)))
      (fun kvs s₂ => wpAny M A (call (.type T) vs (((backToKw pos (keywordEach kws env)).filterMap (·.1)).zip kvs)) Q E s₂) E s₁) E s)
    (he : backTo pos (starEach [e] env) = (false, eval e env) :: backTo pos (starEach [] env) := by rfl)
    (hplain : (backTo pos (starEach [e] env)).any (·.1) = false := by rfl)
    (hall : (backToKw pos (keywordEach kws env)).all (·.1.isSome) = true := by rfl)
    (hkw : (backToKw pos (keywordEach kws env)).any (·.1.isNone) = false := by rfl) :
    wpAny M A (callWith pos (.type T) [] (backTo pos (starEach [e] env)) (backToKw pos (keywordEach kws env))) Q E s := by
  unfold callWith
  refine wpAny_bind (wpAny_holding (wpAny_mono (Q := fun a s₁ => wpAny M A (call (.type T) ([] ++ a.pos) a.kw) Q E s₁) ?_ (fun a s₁ h₁ => wpAny_bind (wpAny_standAt ?_)) fun _ _ x => x))
  · rw [he] at h ⊢
    exact evalArgs_kwB hall h
  · simp only [hplain, hkw, Bool.or_false]
    refine wpAny_bind (wpAny_pure ?_)
    exact wpAny_bind (wpAny_mono h₁ (fun r s₂ hr => wpAny_bind (wpAny_holding (wpAny_point (wpAny_pure hr)))) fun _ _ x => x)
theorem pi_enumS {X : Cx} {e e2 : Expr} {ta tk : TA} {p pos tpos kpos : Pos} {elts : List Expr} {kk : Nat} (hK : X.K = K) (hg : Gl X "enumerate") (hm : X.mg "enumerate" = none) (ha : PA X [e] ta) (hk : PK X [⟨some "start", e2, kpos⟩] tk)
    (he : backTo pos (starEach [e] X.env) = (false, eval e X.env) :: backTo pos (starEach [] X.env) := by rfl) (hpl : (backTo pos (starEach [e] X.env)).any (·.1) = false := by rfl) :
    PI X (.Tuple elts kk tpos) (.Call (.Name "enumerate" p) [e] [⟨some "start", e2, kpos⟩] pos) (iEnS K ta tk) := by
  subst hK
  refine ⟨fun pins s σ H R I h => ?_⟩
  refine wpAny_Call_Name_kw (ld_blt I hg hm boot_enumerate (callWith_typeKw (thn (ha.run pos pins s σ H _ I h) fun us s0 ⟨vs, H0, I0, r1, q0⟩ => thn (hk.run pos pins s0 σ H0 _ I0 q0) fun ws s1 ⟨zs, H1, I1, r2, q1⟩ => ?_) he hpl))
  obtain ⟨a, xs, b, c, ex, ez, c0, c1, hq, q⟩ := q1
  subst ex
  subst ez
  cases r1 with
  | cons r rr =>
    cases rr
    cases r
    cases r2 with
    | cons r' rr' =>
      cases rr'
      obtain ⟨tc, rfl⟩ := r'
      have fin : ∀ (h' : Heap), IsEnum h' (s1.heap.objs.size + 1) s1.heap.objs.size c .none → srcAt b s1.heap.objs.size a 0 h' → a < s1.heap.objs.size → (∀ b o, s1.heap.get? b = some o → h'.get? b = some o) → PIE X pins σ (.Tuple elts kk tpos) R (.ref (s1.heap.objs.size + 1)) { s1 with heap := h' } := fun h' he hit hlt hk => by
        have I2 : Inv X pins σ H1 { s1 with heap := h' } := I1.kept (t' := s1.toks) hk
        refine ⟨s1.heap.objs.size + 1, [s1.heap.objs.size + 1, s1.heap.objs.size], _, IteC X.K b a c, H1, rfl, I2, turn_enumC b a (s1.heap.objs.size + 1) s1.heap.objs.size c, ⟨⟨.none, by rw [show c + ((0 : Nat) : Int) = c by omega]; exact he⟩, hit, Nat.succ_ne_self _, Nat.ne_of_lt hlt, Nat.ne_of_gt (Nat.lt_succ_of_lt hlt)⟩, fun b hb => ?_, q _ walk_enumS⟩
        have e' : b = s1.heap.objs.size + 1 ∨ b = s1.heap.objs.size := by simpa using hb
        have hle : s1.heap.objs.size ≤ b := by
          rcases e' with z | z
          · rw [z]; exact Nat.le_add_right _ _
          · rw [z]; exact Nat.le_refl _
        exact I1.fpOk hle (I1.hok.fresh hle)
      cases b with
      | false =>
        obtain ⟨its, rv, p', hz⟩ := I1.list hq
        have hL := p'.isList
        exact enum_begins_start (begins_list a its.toArray) hL (by omega) (by omega) fun h' he hit hsz hk => wpAny_pyIter_enum he (fin h' he ⟨_, hit, rfl, rfl⟩ (by obtain ⟨_, z, _⟩ := hL; exact Heap.lt_size z) hk)
      | true =>
        obtain ⟨its, rv, p', hz⟩ := I1.tuple hq
        exact enum_begins_start (begins_tuple a its.toArray) p' (by omega) (by omega) fun h' he hit hsz hk => wpAny_pyIter_enum he (fin h' he ⟨_, hit, rfl, rfl⟩ (by obtain ⟨_, z, _⟩ := p'; exact Heap.lt_size z) hk)
/-- a for over enumerate(.., start=c) -/
theorem for_enS {J : It} {b : Bool} {a : Addr} {xs : List V} {c : Int} (w : Walk J xs.length (fun H => SqB K b H a xs) (YEn c xs)) {g : TG} {tb : TS} {D : Ends} {σ : L2.St} {H : Hp} (Pv : Nat → L2.St → Hp → Prop) (h0 : Pv 0 σ H) (hG : ∀ i σ H, i ≤ xs.length → Pv i σ H → SqB K b H a xs)
    (hs : ∀ i x σ H T, xs[i]? = some x → Pv i σ H → H T = none → g (.ref T) σ (upd H T (.tup [.int (c + (i : Nat)), x])) fun σ2 H2 => tb { D with nx := Pv (i + 1), ct := Pv (i + 1), bk := D.nx } σ2 H2) (hd : ∀ σ H, Pv xs.length σ H → D.nx σ H) :
    ∃ W : Nat → Nat → L2.St → Hp → Prop, (∃ m, W 0 m σ H) ∧ ∀ i m σ H, W i m σ H →
      (J.stop i H ∧ D.nx σ H) ∨ (J.go i H ∧ ∃ N : L2.St → Hp → Prop, (∀ σ' H', N σ' H' → ∃ m', m' < m ∧ W (i + 1) m' σ' H') ∧ ∀ x H', J.yld i H x H' → g x σ H' fun σ2 H2 => tb { D with nx := N, ct := N, bk := D.nx } σ2 H2) :=
  for_it w Pv h0 hG (fun i x σ H H' _ p y => by
    obtain ⟨T, v, rfl, h2, rfl, e⟩ := y
    exact hs i v σ H T e p h2) hd
end
end S
namespace S
open PySem PySem.Spec PyProof.Rows L2
section
variable {X : Cx} {K : Frag}
/-- l[::-1] -/
theorem pe_revK (hK : X.K = K) {e : Expr} {te : TE} {k : Nat} {p1 p2 p3 pos : Pos} (he : PE X e te) : PE X (.Subscript e (.Slice none none (some (.UnaryOp .USub (.Constant (.int 1) k p1) p2)) p3) pos) (tRevL K te) := hK ▸ pe_revL he
end
end S
namespace S
open PySem PySem.Spec PyProof.Rows L2
/-! text * number; d.copy() -/
section
variable {X : Cx}
def repS (z : Str) (k : Nat) : Str := ⟨(List.replicate k z.cps).foldl (· ++ ·) #[]⟩
theorem rep_size (c : Array Nat) : ∀ (k : Nat) (acc : Array Nat), ((List.replicate k c).foldl (· ++ ·) acc).size = acc.size + c.size * k
  | 0, acc => by simp
  | k + 1, acc => by
    rw [List.replicate_succ, List.foldl_cons, rep_size c k, Array.size_append, Nat.mul_succ]
    omega
theorem repS_len (z : Str) (k : Nat) : (repS z k).length = z.length * k := by
  show ((List.replicate k z.cps).foldl (· ++ ·) #[]).size = z.cps.size * k
  rw [rep_size]
  simp
theorem tooLong_no {n : Nat} (h : n ≤ 1000) : Builtin.Str.tooLong n = false := by
  unfold Builtin.Str.tooLong
  exact decide_eq_false (by have : (1000 : Nat) ≤ sizeLine := by decide
                            omega)
theorem op_rep_str : OpR X (binaryOp .Mult) (fun x y H Q => ∃ (z : Str) (k : Int), x = .str z ∧ y = .int k ∧ 2 ≤ k ∧ 1 ≤ z.length ∧ z.length * k.toNat ≤ 1000 ∧ Q (.str (repS z k.toNat)) H) := by
  intro pins s σ H x y v u Q I rx ry h
  obtain ⟨z, k, rfl, rfl, k2, z1, zk, q⟩ := h
  obtain ⟨t, rfl⟩ := rx
  obtain ⟨t', rfl⟩ := ry
  have kk : k.toNat ≤ 1000 := Nat.le_trans (Nat.le_mul_of_pos_left _ z1) zk
  have zi : (z.length : Int) * k ≤ 1000 := by
    have : ((z.length * k.toNat : Nat) : Int) ≤ 1000 := by omega
    rw [Int.natCast_mul, Int.toNat_of_nonneg (by omega)] at this
    exact this
  refine P.mul_str (by simp; omega) (fun _ _ => ?_) (fun _ _ => ?_) ?_
  · have : (z.length : Int) ≤ (2 ^ 63 - 1) / k := by
      rw [Int.le_ediv_iff_mul_le (by omega)]
      omega
    omega
  · exact tooLong_no zk
  · rw [if_neg (by omega), if_neg (by simp; omega)]
    exact ⟨Nat.le_trans (show (repS z k.toNat).length ≤ 1000 by rw [repS_len]; exact zk) (by decide), ⟨.str (repS z k.toNat), H, I.tok _, ⟨_, rfl⟩, q⟩⟩
def rDCopy : V → List V → Hp → VK → Prop := fun x xs H Q => ∃ a kvs, x = .ref a ∧ xs = [] ∧ H a = some (.dK kvs) ∧ ∀ p, H p = none → Q (.ref p) (upd H p (.dK kvs))
theorem mt_dcopy : MtR X "dict.copy" rDCopy := by
  intro pins s σ H x vs v us Q I rx rv h
  obtain ⟨a, kvs, rfl, rfl, hH, q⟩ := h
  cases rx
  have hus := rv.zero
  subst hus
  obtain ⟨z, hd, vs, rel, dd⟩ := dk_rd I.hok (.inl hH)
  refine call_meetsIn PySem.F.slot_dict_copy dd.typeIs PySem.F.entry_dict_copy (PySem.F.args_dict_copy_1 _) (meets_dict_copy (mixKind X.prog X.w) a hd) ⟨vs, dd, by rw [← rel.length]; exact z, fun h' dd' _ hs => ?_⟩
  refine ⟨.ref _, upd H s.heap.objs.size (.dK kvs), ?_, rfl, q _ (I.hok.fresh (Nat.le_refl _))⟩
  exact I.laid (a := s.heap.objs.size) (o := .dK kvs) (t' := s.toks) (fun b q hq => hs b q hq) (Nat.le_refl _) (dk_new z (beq_eq_false_iff_ne.mpr (Ne.symm (Nat.ne_of_lt I.big))) rel dd')
end
end S
namespace S
open PySem PySem.Spec PyProof.Rows L2
/-! ### dicts whose keys are tuples of ints, bools, texts and None -/
/-- a plain item of a key -/
def flV : V → Bool
  | .non => true
  | .bl _ => true
  | .int _ => true
  | .str _ => true
  | _ => false
def nkV : V → NestedKey
  | .bl b => .num (if b = true then 1 else 0)
  | .int i => .num i
  | .str x => .text x
  | _ => .none
def nkL (xs : List V) : NestedKey := .tup (xs.map nkV)
abbrev DxE := List V × Addr × V
def DxR (p : DxE) (q : NestedKey × Addr × Value) : Prop := q.1 = nkL p.1 ∧ q.2.1 = p.2.1 ∧ RelV p.2.2 q.2.2
/-- the dict at d: its keys, where their tuples stand, its values -/
def DXo (P : Program) (w : World) (kvs : List DxE) (d : Addr) : HO := .ext fun h => kvs.length ≤ sizeLine ∧ (d == sysModules) = false ∧ ∃ xs : List (NestedKey × Addr × Value), Paired DxR kvs xs ∧
  ∃ o es ep, h.get? d = some o ∧ o.ExactDict ∧ o.data = .dict es ep ∧ es.toList = xs.map (entryOfKey (nestedKind P w)) ∧ (xs.map (·.1)).Nodup
def KeysAt (H : Hp) (kvs : List DxE) : Prop := ∀ e ∈ kvs, (∀ v ∈ e.1, flV v = true) ∧ H e.2.1 = some (.tup e.1)
theorem KeysAt.same {H H' : Hp} {kvs : List DxE} (h : KeysAt H kvs) (s : Same H H') : KeysAt H' kvs := fun e he => ⟨(h e he).1, s _ _ (h e he).2⟩
def dxGet (kvs : List DxE) (k : List V) : Option V := (kvs.find? fun e => decide (nkL e.1 = nkL k)).map (·.2.2)
def dxPut (kvs : List DxE) (k : List V) (b : Addr) (v : V) : List DxE := if (dxGet kvs k).isSome then kvs.map fun e => if nkL e.1 = nkL k then (e.1, e.2.1, v) else e else kvs ++ [(k, b, v)]
section
variable {P : Program} {w : World} {H : Hp} {h : Heap} {d b : Addr} {kvs : List DxE}
theorem nk_all : ∀ {xs : List V} {us : List Value}, Vals xs us → (∀ v ∈ xs, flV v = true) → NestedAll h (xs.map nkV) us := by
  intro xs us r
  induction r with
  | nil => intro _; exact .nil
  | @cons x u xs us hx _ ih =>
    intro f
    refine .cons ?_ (ih fun v hv => f v (List.mem_cons_of_mem _ hv))
    have f1 := f x List.mem_cons_self
    cases x with
    | non => cases hx; exact .none
    | bl c => cases hx; exact .bool rfl
    | int i => obtain ⟨t, rfl⟩ := hx; exact .int i t
    | str z => obtain ⟨t, rfl⟩ := hx; exact .text z t
    | _ => cases f1
theorem nk_depth (xs : List V) : (nkL xs).depth ≤ 8 := by
  have h1 : ∀ x : V, (nkV x).depth ≤ 7 := fun x => by cases x <;> exact Nat.zero_le _
  have h2 : ∀ xs : List V, NestedKey.depthAll (xs.map nkV) ≤ 7 := by
    intro xs
    induction xs with
    | nil => exact Nat.zero_le _
    | cons x xs ih =>
      rw [List.map_cons]
      unfold NestedKey.depthAll
      exact Nat.max_le.mpr ⟨h1 x, ih⟩
  unfold nkL NestedKey.depth
  have := h2 xs
  omega
theorem nk_is (ok : HOk P w H h) {xs : List V} (e : H b = some (.tup xs)) (f : ∀ v ∈ xs, flV v = true) : (nestedKind P w).is h (nkL xs) b := by
  obtain ⟨_, its, r, o, h1, h2, n, h3⟩ := (show ObjOk P w H h b (.tup xs) from ok b _ e)
  exact ⟨.tup h1 h2 h3 (by simpa using nk_all r f), nk_depth xs⟩
theorem dx_of (ok : HOk P w H h) (e : Rd H d (DXo P w kvs d)) (t : KeysAt H kvs) : kvs.length ≤ sizeLine ∧ (d == sysModules) = false ∧ ∃ xs, Paired DxR kvs xs ∧ h.DictOfH (nestedKind P w) d xs := by
  obtain ⟨⟨z, y, xs, r, o, es, ep, h1, h2, h3, h4, h5⟩, _⟩ := (show ObjOk P w H h d (DXo P w kvs d) from rd_of ok e)
  refine ⟨z, y, xs, r, o, es, ep, h1, h2, h3, h4, fun x hx => ?_, h5⟩
  have all : ∀ {l : List DxE} {m : List (NestedKey × Addr × Value)}, Paired DxR l m → KeysAt H l → ∀ x ∈ m, (nestedKind P w).is h x.1 x.2.1 := by
    intro l m q
    induction q with
    | nil => intro _ x hx; exact nomatch hx
    | @cons p q ps qs hq t ih =>
      intro k x hx
      rcases List.mem_cons.mp hx with e | hx
      · subst e
        obtain ⟨k1, k2⟩ := k p List.mem_cons_self
        rw [hq.1, hq.2.1]
        exact nk_is ok k2 k1
      · exact ih (fun e he => k e (List.mem_cons_of_mem _ he)) x hx
  exact all r t x hx
theorem dx_val {xs : List (NestedKey × Addr × Value)} (r : Paired DxR kvs xs) (k : List V) : RelO (dxGet kvs k) ((atKey xs (nkL k)).map (·.2)) := by
  unfold dxGet atKey
  induction r with
  | nil => exact True.intro
  | @cons p q ps qs hq t ih =>
    rw [List.find?_cons, List.find?_cons, hq.1]
    by_cases c : nkL p.1 = nkL k
    · rw [decide_eq_true c]
      exact hq.2.2
    · rw [decide_eq_false c]
      exact ih
theorem dx_none {xs : List (NestedKey × Addr × Value)} (r : Paired DxR kvs xs) (k : List V) : (dxGet kvs k).isSome = (atKey xs (nkL k)).isSome := by
  have := (dx_val r k).isSome_eq
  rw [Option.isSome_map] at this
  exact this
theorem dxPut_len (kvs : List DxE) (k : List V) (b : Addr) (v : V) : (dxPut kvs k b v).length ≤ kvs.length + 1 := by
  unfold dxPut
  split
  · rw [List.length_map]; omega
  · rw [List.length_append]; exact Nat.le_refl _
theorem dx_put {xs : List (NestedKey × Addr × Value)} (r : Paired DxR kvs xs) (k : List V) (b : Addr) {v : V} {u : Value} (rv : RelV v u) : Paired DxR (dxPut kvs k b v) (storedH xs (nkL k) b u) := by
  have e := dx_none r k
  unfold dxPut storedH
  rw [e]
  by_cases q : (atKey xs (nkL k)).isSome = true
  · rw [if_pos q, if_pos q]
    clear e q
    induction r with
    | nil => exact .nil
    | @cons p q ps qs hq t ih =>
      refine .cons ?_ ih
      show DxR (if nkL p.1 = nkL k then (p.1, p.2.1, v) else p) (putAt (nkL k) u q)
      unfold putAt
      by_cases c : nkL p.1 = nkL k
      · rw [if_pos c, if_pos (hq.1.trans c)]
        exact ⟨hq.1, hq.2.1, rv⟩
      · rw [if_neg c, if_neg (fun z => c (hq.1.symm.trans z))]
        exact hq
  · rw [if_neg q, if_neg q]
    exact Paired.snoc r ⟨rfl, rfl, rv⟩
theorem dx_new {xs : List (NestedKey × Addr × Value)} (z : kvs.length ≤ sizeLine) (y : (d == sysModules) = false) (r : Paired DxR kvs xs) (m : h.DictOfH (nestedKind P w) d xs) : ObjOk P w H h d (DXo P w kvs d) := by
  obtain ⟨o, es, ep, h1, h2, h3, h4, _, h5⟩ := m
  refine ⟨⟨z, y, xs, r, o, es, ep, h1, h2, h3, h4, h5⟩, ⟨o, h1⟩, fun g1 g2 p k => ?_⟩
  obtain ⟨z, y, xs, r, o, es, ep, h1, h2⟩ := p
  exact ⟨z, y, xs, r, o, es, ep, k o h1, h2⟩
theorem dx_empty (h : Heap) (hb : sysModules < h.objs.size) : ObjOk P w H (h.push { cls := .type "dict", data := .dict #[] }) h.objs.size (DXo P w [] h.objs.size) :=
  dx_new (Nat.zero_le _) (beq_eq_false_iff_ne.mpr (Ne.symm (Nat.ne_of_lt hb))) .nil (Heap.DictOfH.new h)
end
/-! the rules -/
/-- {}: a dict of this kind -/
def tDNewX (P : Program) (w : World) : TE := fun _ H Q => ∀ p, H p = none → Q (.ref p) (upd H p (DXo P w [] p))
/-- the tuple at b is the key ks -/
def KeyAt (H : Hp) (b : Addr) (ks : List V) : Prop := H b = some (.tup ks) ∧ ∀ v ∈ ks, flV v = true
def rInX (P : Program) (w : World) (neg : Bool) : V → V → Hp → VK → Prop := fun x y H Q => ∃ (b d : Addr) (ks : List V) (kvs : List DxE), x = .ref b ∧ KeyAt H b ks ∧ y = .ref d ∧ Rd H d (DXo P w kvs d) ∧ KeysAt H kvs ∧
  Q (.bl (if neg then !(dxGet kvs ks).isSome else (dxGet kvs ks).isSome)) H
def tDGetX (P : Program) (w : World) (td ty : TE) : TE := fun σ H Q => td σ H fun x H1 => ty σ H1 fun y H2 => ∃ (b d : Addr) (ks : List V) (kvs : List DxE) (v : V), x = .ref d ∧ Rd H2 d (DXo P w kvs d) ∧ KeysAt H2 kvs ∧ y = .ref b ∧ KeyAt H2 b ks ∧ dxGet kvs ks = some v ∧ Q v H2
def sDPutX (P : Program) (w : World) (td ty tv : TE) : TS := fun D σ H => tv σ H fun v H1 => td σ H1 fun x H2 => ty σ H2 fun y H3 => ∃ (b d : Addr) (ks : List V) (kvs : List DxE), x = .ref d ∧ H3 d = some (DXo P w kvs d) ∧ KeysAt H3 kvs ∧ y = .ref b ∧ KeyAt H3 b ks ∧ kvs.length < sizeLine ∧
  D.nx σ (upd H3 d (DXo P w (dxPut kvs ks b v) d))
section
variable {X : Cx} {pos : Pos}
theorem room8 {A : Around} (hu : A.units + 64 < cLine) {P : Program} {w : World} : (nestedKind P w).room A.in1 := by
  show A.units + 1 + 8 < cLine
  omega
theorem pe_dnewX : PE X (.Dict [] [] pos) (tDNewX X.prog X.w) := ⟨fun pins s σ H Q I h =>
  wpAny_Dict_empty ⟨.ref s.heap.objs.size, _, I.laid (a := s.heap.objs.size) (o := DXo X.prog X.w [] s.heap.objs.size) (t' := s.toks) (fun _ _ q => Heap.get?_push_of_some _ q) (Nat.le_refl _) (dx_empty s.heap I.big), rfl, h _ (I.hok.fresh (Nat.le_refl _))⟩⟩
theorem or_inX (hu : X.A.units + 64 < cLine) : OpR X (compareOp .In) (rInX X.prog X.w false) := by
  intro pins s σ H x y v u Q I rx ry h
  obtain ⟨b, d, ks, kvs, rfl, kb, rfl, hd, ka, q⟩ := h
  cases rx
  cases ry
  obtain ⟨z, hs, xs, r, m⟩ := dx_of I.hok hd ka
  refine wpAny_in_heap (room8 hu) (nk_is I.hok kb.1 kb.2) hs m ⟨.bl (dxGet kvs ks).isSome, H, I.tok _, ?_, q⟩
  show Value.bool _ = Value.bool _
  rw [dx_none r]
theorem or_notInX (hu : X.A.units + 64 < cLine) : OpR X (compareOp .NotIn) (rInX X.prog X.w true) := by
  intro pins s σ H x y v u Q I rx ry h
  obtain ⟨b, d, ks, kvs, rfl, kb, rfl, hd, ka, q⟩ := h
  cases rx
  cases ry
  obtain ⟨z, hs, xs, r, m⟩ := dx_of I.hok hd ka
  refine wpAny_notIn_heap (room8 hu) (nk_is I.hok kb.1 kb.2) hs m ⟨.bl (!(dxGet kvs ks).isSome), H, I.tok _, ?_, q⟩
  show Value.bool _ = Value.bool _
  rw [dx_none r]
theorem pe_dgetX {o i : Expr} {td ty : TE} (hu : X.A.units + 64 < cLine) (ho : PE X o td) (hi : PE X i ty) (hs : NoSl i) : PE X (.Subscript o i pos) (tDGetX X.prog X.w td ty) := by
  refine ⟨fun pins s σ H Q I h => ?_⟩
  refine subD_of PySem.F.slot_dict_getitem.lookup hs (thn (ho.run pins s σ H _ I h) fun u s1 ⟨x, H1, I1, rx, q1⟩ => thn (hi.run pins s1 σ H1 _ I1 q1) fun iv s2 ⟨y, H2, I2, ry, b, d, ks, kvs, v, ex, hd, ka, ey, kb, g, q2⟩ => ?_)
  subst ex ey
  obtain rfl : u = Value.ref d := rx
  obtain rfl : iv = Value.ref b := ry
  obtain ⟨z, hs, xs, r, m⟩ := dx_of I2.hok hd ka
  obtain ⟨w', hw, rw'⟩ := RelO.some_of (v := v) (o := (atKey xs (nkL ks)).map (·.2)) (by rw [← g]; exact dx_val r ks)
  obtain ⟨p, hp, hp2⟩ := Option.map_eq_some_iff.mp hw
  refine ⟨m.typeIs, wpAny_getItem_heap (room8 hu) (nk_is I2.hok kb.1 kb.2) m hp ?_⟩
  rw [hp2]
  exact ⟨v, H2, I2.tok _, rw', q2⟩
theorem ps_dputX {o i value : Expr} {pos' : Pos} {td ty tv : TE} (hu : X.A.units + 64 < cLine) (ho : PE X o td) (hi : PE X i ty) (hv : PE X value tv) (hs : swapsWith value (some (.Subscript o i pos')) pos.line X.env = pure false) :
    PS X (.Assign [.Subscript o i pos'] value pos) (sDPutX X.prog X.w td ty tv) := by
  refine ⟨fun pins s σ H D I h => ?_⟩
  refine wpAny_Assign_Subscript (thn (hv.run pins s σ H _ I h) fun r s1 ⟨v, H1, I1, rv, q1⟩ => thn (ho.run pins s1 σ H1 _ I1 q1) fun u s2 ⟨x, H2, I2, rx, q2⟩ => thn (hi.run pins s2 σ H2 _ I2 q2) fun iv s3 ⟨y, H3, I3, ry, b, d, ks, kvs, ex, hd, ka, ey, kb, hl, q3⟩ => ?_) hs
  subst ex ey
  obtain rfl : u = Value.ref d := rx
  obtain rfl : iv = Value.ref b := ry
  obtain ⟨z, hsm, xs, rr, m⟩ := dx_of I3.hok (.inl hd) ka
  have hz : xs.length ≤ sizeLine := by rw [← Paired.length rr]; exact z
  have hl2 : (dxPut kvs ks b v).length ≤ sizeLine := by have := dxPut_len kvs ks b v; omega
  refine wpAny_setItem_heap (hsz := hz) (room8 hu) (nk_is I3.hok kb.1 kb.2) m fun h' m' hsb => ⟨σ, _, ?_, q3⟩
  have he : ∃ q, h'.get? d = some q := let ⟨q, _, _, hq, _⟩ := m'; ⟨q, hq⟩
  exact d_write I3 (by rw [hd]; exact True.intro) hsb he (dx_new hl2 hsm (dx_put rr ks b rv) m')
/-- len(d) -/
theorem len_body_raw {A : Around} {E : Value → Shared → Prop} {s : Shared} {d : Addr} {es : Array DictEntry} {ep : Nat} {Q : Value → Shared → Prop} {prog : Program} {w : World} (hd : (d == sysModules) = false) (hm : s.heap.DictRaw d es ep) (hfit : (es.size : Int) < 2 ^ 63)
    (h : Q (.int es.size (s.toks + 1)) { s with toks := s.toks + 1 + 1 }) : wpAny (model prog w) A (Builtin.«len» ⟨[.ref d], []⟩) (fun fin s' => ∃ r, fin = .done (.ret r) ∧ Q r s') E s := by
  unfold Builtin.«len»
  refine wpAny_bind (m := oneArg "len" _) (wpAny_pure ?_)
  refine wpAny_bind (m := callSpecial? (.ref d) (Str.ofString "__len__")) (wpAny_callSpecial?_slot (name := Str.ofString "__len__") hm.typeIs F.slot_dict_len
    (call_len_raw hd hm ?_))
  show wpAny _ _ _ _ _ { s with toks := s.toks + 1 }
  refine wpAny_bind (wpAny_holding (wpAny_pure ?_))
  refine wpAny_bind (wpAny_letGo ?_)
  show wpAny _ _ (if ((es.size : Nat) : Int) < 0 then _ else _) _ _ _
  rw [if_neg (by omega)]
  show wpAny _ _ (if ((es.size : Nat) : Int) ≥ 2 ^ 63 then _ else _) _ _ _
  rw [if_neg (by omega)]
  exact wpAny_bind (wpAny_mkInt (wpAny_pure ⟨_, rfl, h⟩))
def rLenX (P : Program) (w : World) : List V → Hp → VK → Prop := fun xs H Q => ∃ d kvs, xs = [V.ref d] ∧ Rd H d (DXo P w kvs d) ∧ KeysAt H kvs ∧ Q (.int kvs.length) H
theorem call_lenX : CallR X (.builtin "len") (rLenX X.prog X.w) := by
  intro pins s σ H xs us Q I r h
  obtain ⟨d, kvs, rfl, hd, ka, q⟩ := h
  obtain ⟨u, rfl, ru⟩ := r.one
  cases ru
  obtain ⟨z, hs, xs, rr, m⟩ := dx_of I.hok hd ka
  obtain ⟨es, ep, hr, hsz, _⟩ := m.raw
  have l : kvs.length = es.size := (Paired.length rr).trans hsz.symm
  refine Calls.call_function_entry kind_len plain_len entry_len (args_len1 _) (len_body_raw hs hr (by rw [← l]; rw [sizeLine_eq] at z; omega) ?_)
  exact ⟨.int kvs.length, H, I.tok _, ⟨_, by rw [l]⟩, q⟩
/-- list(d): the keys' own tuples -/
def rListX (P : Program) (w : World) : List V → Hp → VK → Prop := fun xs H Q => ∃ d kvs, xs = [V.ref d] ∧ Rd H d (DXo P w kvs d) ∧ ∀ p, H p = none → Q (.ref p) (upd H p (.lst (kvs.map fun e => V.ref e.2.1)))
theorem dx_addrs {kvs : List DxE} {xs : List (NestedKey × Addr × Value)} (r : Paired DxR kvs xs) : (xs.map fun x => x.2.1) = kvs.map fun e => e.2.1 := by
  induction r with
  | nil => rfl
  | @cons p q ps qs hq _ ih => rw [List.map_cons, List.map_cons, ih, hq.2.1]
theorem call_listX (hc : X.calm = true) : CallR X (.type "list") (rListX X.prog X.w) := by
  intro pins s σ H xs us Q I r h
  obtain ⟨d, kvs, rfl, hd, q⟩ := h
  obtain ⟨u, rfl, rx⟩ := r.one
  cases rx
  obtain ⟨⟨z, hs, ks, pr, o, es, ep, ho, hx, hdt, he, hn⟩, _⟩ := (show ObjOk X.prog X.w H s.heap d (DXo X.prog X.w kvs d) from hd.ok I.hok)
  have l1 : es.size = ks.length := size_of_entries he
  have l2 : kvs.length = ks.length := Paired.length pr
  refine PySem.W.kdl_call (kdl_raw hs hx hdt) (I.ok.hd hc) ho (by omega) fun h' tk acc' c' kp e it => ?_
  have ea : acc'.toList = ks.map fun x => Value.ref x.2.1 := by
    have hl : acc'.toList.length = ks.length := by rw [Array.length_toList, it.1]; exact l1
    apply List.ext_getElem?
    intro j
    rw [List.getElem?_map]
    cases hj : acc'.toList[j]? with
    | none =>
      have h1 := List.getElem?_eq_none_iff.mp hj
      rw [List.getElem?_eq_none (by omega)]
      all_goals rfl
    | some v =>
      obtain ⟨en, hen, hv⟩ := it.2 j v (by rw [← Array.getElem?_toList]; exact hj)
      have qe := entry_at he j
      rw [hen] at qe
      cases hb : ks[j]? with
      | none =>
        rw [hb] at qe
        exact nomatch (show some en = none from qe)
      | some b =>
        rw [hb] at qe
        have e2 : en = entryOfKey (nestedKind X.prog X.w) b := Option.some.inj qe
        rw [hv, e2]
        all_goals rfl
  have eb : acc'.toList = (ks.map fun x => x.2.1).map Value.ref := by rw [ea, List.map_map]; all_goals rfl
  have rv : Vals ((ks.map fun x => x.2.1).map V.ref) acc'.toList := by rw [eb]; exact vals_refs _
  have hz : ((ks.map fun x => x.2.1).map V.ref).length ≤ sizeLine := by rw [List.length_map, List.length_map]; omega
  have em : ((ks.map fun x => x.2.1).map V.ref) = kvs.map fun e => V.ref e.2.1 := by rw [dx_addrs pr, List.map_map]; all_goals rfl
  refine ⟨.ref s.heap.objs.size, _, I.laid (t' := tk) (o := .lst ((ks.map fun x => x.2.1).map V.ref)) kp (Nat.le_refl _) ?_, rfl, ?_⟩
  · exact ⟨hz, acc'.toList, c', rv, by rw [Array.toArray_toList]; exact e⟩
  · rw [em]
    exact q _ (I.hok.fresh (Nat.le_refl _))
/-! for k in d -/
def Itx (P : Program) (w : World) (d : Addr) (o : Obj) (kvs : List DxE) : It :=
  ⟨fun i H => H d = some (.frz o (DXo P w kvs d)) ∧ i < kvs.length, fun i H x H' => H' = H ∧ ∃ e : DxE, kvs[i]? = some e ∧ x = .ref e.2.1, fun i H => H d = some (.frz o (DXo P w kvs d)) ∧ kvs.length ≤ i⟩
theorem frzX {pins : List (Addr × Obj)} {σ : L2.St} {H : Hp} {s : Shared} {d : Addr} {o : Obj} {kvs : List DxE} (I : Inv X pins σ H s) (h : H d = some (.frz o (DXo X.prog X.w kvs d))) :
    (d == sysModules) = false ∧ s.heap.get? d = some o ∧ o.ExactDict ∧ ∃ (es : Array DictEntry) (ep : Nat), o.data = .dict es ep ∧ es.size = kvs.length ∧
      ∀ (i : Nat) (e : DxE), kvs[i]? = some e → ∃ en : DictEntry, es[i]? = some en ∧ en.key = .ref e.2.1 := by
  obtain ⟨hd, ⟨z, hs, xs, pr, o', es, ep, ho, hx, hdt, he, _⟩, _⟩ := I.hok d _ h
  rw [hd] at ho
  cases ho
  refine ⟨hs, hd, hx, es, ep, hdt, ?_, fun i e hi => ?_⟩
  · have l1 : es.size = xs.length := size_of_entries he
    have l2 : kvs.length = xs.length := Paired.length pr
    omega
  · obtain ⟨b, hb, e1, e2, _⟩ := paired_get pr hi
    have q := entry_at he i
    rw [hb] at q
    refine ⟨_, q, ?_⟩
    rw [← e2]
    rfl
theorem turn_keysX {P : Program} {w : World} {K : PySem.W.Frag} {tg : Expr} {d : Addr} {o : Obj} {es : Array DictEntry} {ep : Nat} {kvs : List DxE} (it : Addr) (hod : o.data = .dict es ep) : Turn P w K tg (Itx P w d o kvs) [it] it (fun i h => h.IsKeyIter it d i kvs.length ep) where
  mem := by simp
  obj := fun i h st b hb => by
    have e : b = it := by simpa using hb
    subst e
    obtain ⟨oi, e, c, dd⟩ := st
    exact ⟨oi, e, fun v z => by rw [dd] at z; cases z⟩
  keep := fun i h h' st k => st.at fun oi e => k it (by simp) oi e
  item := by
    intro X hP hw hK hc i pins s σ H E I hf st hg
    subst hP hw hK
    obtain ⟨hd, hi⟩ := hg
    obtain ⟨f0, f1, f2, f3, f4, f5⟩ := hf it (by simp)
    obtain ⟨hs, hgd, hx, es', ep', hdt, hsz, ent⟩ := frzX I hd
    obtain ⟨rfl, rfl⟩ := dict_ep hod hdt
    have hkv := List.getElem?_eq_getElem hi
    obtain ⟨en, hen, hkey⟩ := ent i _ hkv
    refine next_key_item st hgd hdt hsz hen fun h' st' sb => ?_
    have I1 : Inv X pins σ H { s with heap := h' } := I.turned (t' := s.toks) (fun b ob hb e => (sb.2 b hb).trans e) f0 f1 f3 f4 f5
    obtain ⟨oi, e, c, dd⟩ := id st'
    exact ⟨en.key, rfl, go_of (s := { s with heap := h' }) e c dd (by decide) ⟨.ref _, H, I1, hkey, ⟨rfl, _, hkv, rfl⟩, st', fun b hb => (hf b hb).1⟩⟩
  done := by
    intro X hP hw hK hc i pins s σ H E I hf st hg
    subst hP hw hK
    obtain ⟨hd, hi⟩ := hg
    obtain ⟨f0, f1, f2, f3, f4, f5⟩ := hf it (by simp)
    obtain ⟨hs, hgd, hx, es', ep', hdt, hsz, ent⟩ := frzX I hd
    obtain ⟨rfl, rfl⟩ := dict_ep hod hdt
    exact next_key_end (I.ok.hd hc) st hgd hdt hsz hi fun h' eb => ⟨rfl, I.turned (t' := s.toks) (fun b ob hb e => eb b ob hb e) f0 f1 f3 f4 f5⟩
  self := fun A i s Q E st h => wpAny_pyIter_keyiter st h
/-- the dict is locked (tLock, tLockE) -/
def iKeysX (P : Program) (w : World) (td : TE) : TI := fun σ H R => td σ H fun x H1 => ∃ d o kvs, x = .ref d ∧ H1 d = some (.frz o (DXo P w kvs d)) ∧ R (Itx P w d o kvs) H1
theorem pi_keysX {tg e : Expr} {td : TE} (he : PE X e td) : PI X tg e (iKeysX X.prog X.w td) := by
  refine ⟨fun pins s σ H R I h => ?_⟩
  refine thn (he.run pins s σ H _ I h) fun u s1 ⟨x, H1, I1, rx, d, o, kvs, ex, hd, q⟩ => ?_
  subst ex
  obtain rfl : u = Value.ref d := rx
  obtain ⟨hs, hgd, hx, es, ep, hdt, hsz, ent⟩ := frzX I1 hd
  refine iter_keys hs hgd hx hdt (pi_one (tk := s1.toks) I1 _ (turn_keysX _ hdt) ⟨_, Heap.get?_push_size _ rfl, rfl, ?_⟩ q)
  rw [hsz] <;> rfl
theorem walk_keysX {P : Program} {w : World} {d : Addr} {o : Obj} {kvs : List DxE} : Walk (Itx P w d o kvs) kvs.length (fun H => H d = some (.frz o (DXo P w kvs d))) (fun i H x H' => H' = H ∧ ∃ e : DxE, kvs[i]? = some e ∧ x = .ref e.2.1) :=
  ⟨fun _ _ hi q => ⟨q, hi⟩, fun _ q => ⟨q, Nat.le_refl _⟩, fun _ _ _ _ _ _ y => y⟩
end
/-! the rules, the program and the world named -/
section
variable {X : Cx} {P : Program} {w : World} {pos : Pos}
theorem pe_dnewP (hP : X.prog = P) (hw : X.w = w) : PE X (.Dict [] [] pos) (tDNewX P w) := by
  subst hP hw
  exact pe_dnewX
theorem or_inP (hP : X.prog = P) (hw : X.w = w) (hu : X.A.units + 64 < cLine) : OpR X (compareOp .In) (rInX P w false) := by
  subst hP hw
  exact or_inX hu
theorem or_notInP (hP : X.prog = P) (hw : X.w = w) (hu : X.A.units + 64 < cLine) : OpR X (compareOp .NotIn) (rInX P w true) := by
  subst hP hw
  exact or_notInX hu
theorem pe_dgetP {o i : Expr} {td ty : TE} (hP : X.prog = P) (hw : X.w = w) (hu : X.A.units + 64 < cLine) (ho : PE X o td) (hi : PE X i ty) (hs : NoSl i) : PE X (.Subscript o i pos) (tDGetX P w td ty) := by
  subst hP hw
  exact pe_dgetX hu ho hi hs
theorem ps_dputP {o i value : Expr} {pos' : Pos} {td ty tv : TE} (hP : X.prog = P) (hw : X.w = w) (hu : X.A.units + 64 < cLine) (ho : PE X o td) (hi : PE X i ty) (hv : PE X value tv) (hs : swapsWith value (some (.Subscript o i pos')) pos.line X.env = pure false) :
    PS X (.Assign [.Subscript o i pos'] value pos) (sDPutX P w td ty tv) := by
  subst hP hw
  exact ps_dputX hu ho hi hv hs
theorem call_lenP (hP : X.prog = P) (hw : X.w = w) : CallR X (.builtin "len") (rLenX P w) := by
  subst hP hw
  exact call_lenX
theorem call_listP (hP : X.prog = P) (hw : X.w = w) (hc : X.calm = true) : CallR X (.type "list") (rListX P w) := by
  subst hP hw
  exact call_listX hc
theorem pi_keysP {tg e : Expr} {td : TE} (hP : X.prog = P) (hw : X.w = w) (he : PE X e td) : PI X tg e (iKeysX P w td) := by
  subst hP hw
  exact pi_keysX he
end
end S
namespace S
open PySem PySem.Spec PyProof.Rows L2
/-! ### a dict comprehension into a dict of any kind: what the new dict is (o0), what a store does (ST) -/
structure Store (P : Program) (w : World) (A : Around) (o0 : Addr → HO) (ST : Addr → V → V → Hp → (Hp → Prop) → Prop) : Prop where
  new : ∀ (H : Hp) (h : Heap), sysModules < h.objs.size → ObjOk P w H (h.push { cls := .type "dict", data := .dict #[] }) h.objs.size (o0 h.objs.size)
  put : ∀ {X : Cx} {pins : List (Addr × Obj)} {σ : L2.St} {H : Hp} {s : Shared} {D : Addr} {y z : V} {u r : Value} {R : Hp → Prop} {Q : Unit → Shared → Prop} {E : Value → Shared → Prop}, X.prog = P → X.w = w →
    Inv X pins σ H s → RelV y u → RelV z r → ST D y z H R → (∀ s' H', Inv X pins σ H' s' → R H' → Q () s') → wpAny (model P w) A (dictSet D u r) Q E s
def tDcS (o0 : Addr → HO) (ST : Addr → V → V → Hp → (Hp → Prop) → Prop) (wi : TI) (g : TG) (tt : TT) (tk tv : TE) (vs : List Nat) : TE := fun σ H Q => wi σ H fun J H1 => ∀ D, H1 D = none → ∃ W : Nat → Nat → Hp → Prop, (∃ m, W 0 m (upd H1 D (o0 D))) ∧ ∀ i m H, W i m H →
  (J.stop i H ∧ Q (.ref D) H) ∨ (J.go i H ∧ ∃ Nx : Hp → Prop, (∀ H', Nx H' → ∃ m', m' < m ∧ W (i + 1) m' H') ∧ ∀ x H', J.yld i H x H' → g x (wipe σ vs) H' fun σ2 H2 => wipe σ2 vs = wipe σ vs ∧ tt σ2 H2 fun b H3 =>
    if b = true then tk σ2 H3 fun y H4 => tv σ2 H4 fun z H5 => ST D y z H5 Nx else Nx H3)
theorem pe_dcS {X : Cx} {kx vx tg iter : Expr} {ifs : List Expr} {scope : Scope} {own : List (Str × Nat)} {pos : Pos} {wi : TI} {g : TG} {tt : TT} {tk tv : TE} {o0 : Addr → HO} {ST : Addr → V → V → Hp → (Hp → Prop) → Prop} (B : Store X.prog X.w X.A o0 ST)
    (hc : X.calm = true) (hN : X.N.Nodup) (hi : PI X tg iter wi) (ok : BlkOk X.N X.env.scope scope own)
    (hg : ∀ (s : Shared) (H : Hp) (C : Addr) (cl : List (Str × Addr)) (fp : List Addr), PG (X.blk s H scope (compEnvC scope cl C X.env) fp) tg g)
    (ht : ∀ (s : Shared) (H : Hp) (C : Addr) (cl : List (Str × Addr)) (fp : List Addr), PTs (X.blk s H scope (compEnvC scope cl C X.env) fp) ifs tt)
    (hk : ∀ (s : Shared) (H : Hp) (C : Addr) (cl : List (Str × Addr)) (fp : List Addr), PE (X.blk s H scope (compEnvC scope cl C X.env) fp) kx tk)
    (he : ∀ (s : Shared) (H : Hp) (C : Addr) (cl : List (Str × Addr)) (fp : List Addr), PE (X.blk s H scope (compEnvC scope cl C X.env) fp) vx tv) (hs : ∀ x, foldedSetIterable iter X.env x = pure x := by intro _; rfl) :
    PE X (.DictComp kx vx [⟨tg, iter, ifs, 0⟩] scope pos) (tDcS o0 ST wi g tt tk tv (own.map (·.2))) := by
  refine ⟨fun pins s σ H Q I h => ?_⟩
  rw [arm_eval_DictComp]
  have clo : ∀ y ∈ scope.names, y.2 = .free → ∃ c, X.env.cells.lookup y.1 = some c := fun y hy e =>
    (ok.free y hy e).elim (fun k => I.ok.has _ (.inl k)) fun k => I.ok.has _ (.inr k)
  refine wpAny_comprehension_free rfl hs (closure_ok clo) ok.kind (fun y hy e => by rw [ok.uniq y hy, e]) (thn (hi.run pins s σ H _ I h) fun _ s1 hx => thn hx fun _ s2 h2 => ?_)
  obtain ⟨it, fp, tn, J, H2, rfl, I2, T, t2, f2, q⟩ := h2
  refine wpAny_newObj_type (newEnv_comp ?_)
  generalize hD : s2.heap.objs.size = D
  obtain ⟨W, ⟨m0, w0⟩, turn⟩ := q D (I2.hok.fresh (Nat.le_of_eq hD))
  -- behind the new dict
  generalize hs3 : ({ s2 with heap := s2.heap.push { cls := .type "dict", data := .dict #[] } } : Shared) = s3
  have h3 : s3.heap = s2.heap.push { cls := .type "dict", data := .dict #[] } := by rw [← hs3]
  have keep3 : ∀ b o, s2.heap.get? b = some o → s3.heap.get? b = some o := fun b o e => by rw [h3]; exact Heap.get?_push_of_some _ e
  have I3 : Inv X pins σ (upd H2 D (o0 D)) s3 := by
    subst hD hs3
    exact I2.laid (t' := s2.toks) (fun b o e => Heap.get?_push_of_some _ e) (Nat.le_refl _) (B.new _ _ I2.big)
  have f3 : ∀ b ∈ fp, FpOk X pins (upd H2 D (o0 D)) b ∧ b < s3.heap.objs.size := fun b hb => by
    obtain ⟨o, e, _⟩ := T.obj _ _ t2 b hb
    have lt := Heap.lt_size e
    exact ⟨⟨by rw [upd_ne (by rw [← hD]; exact Nat.ne_of_lt lt)]; exact (f2 b hb).1, (f2 b hb).2⟩, by rw [h3, Heap.size_push]; exact Nat.lt_succ_of_lt lt⟩
  have I4 := block_start I3 ok hN f3
  show codeAny _ _ (.compStart _ 0 (.ref it) (.ref D) (compEnvC scope (cellsFrom (s3.heap.objs.size + 1) scope.names (cloFrom X.env.cells scope.names [])) s3.heap.objs.size X.env)) _ { s3 with heap := pushCells (s3.heap.push { cls := .type "dict", data := .dict #[] }) scope.names }
  generalize hH3 : upd H2 D (o0 D) = H3 at I3 f3 I4 w0
  generalize hcl : cellsFrom (s3.heap.objs.size + 1) scope.names (cloFrom X.env.cells scope.names []) = cl at I4 ⊢
  have pg := hg s3 H3 s3.heap.objs.size cl fp
  have pt := ht s3 H3 s3.heap.objs.size cl fp
  have pk := hk s3 H3 s3.heap.objs.size cl fp
  have pe := he s3 H3 s3.heap.objs.size cl fp
  have cL : (compEnvC scope cl s3.heap.objs.size X.env).locals = s3.heap.objs.size := rfl
  have done : ∀ (s' : Shared) (m : _) (H' : Hp), Inv X pins σ H' s' → Q (.ref D) H' → s'.heap.Ns s3.heap.objs.size m → FpOk X pins H' s3.heap.objs.size → compPost (model X.prog X.w) X.A X.xe none (fun v s => ∃ x H', Inv X pins σ H' s ∧ RelV x v ∧ Q x H') (.ref D) s3.heap.objs.size (.ok .next) s' := fun s' m H' I' q' hn f => by
    obtain ⟨f0, f1, f2, f3, f4, f5⟩ := f
    exact ⟨m, hn, fun h'' sb => ⟨.ref D, H', I'.turned (t' := s'.toks) (fun b o hb e => (sb.2 b hb).trans e) f0 f1 f3 f4 f5, rfl, q'⟩⟩
  generalize compEnvC scope cl s3.heap.objs.size X.env = ce at I4 pg pt pk pe cL ⊢
  generalize hs4 : ({ s3 with heap := pushCells (s3.heap.push { cls := .type "dict", data := .dict #[] }) scope.names } : Shared) = s4 at I4 ⊢
  have t4 : tn 0 s4.heap := T.keep _ _ _ t2 fun b _ o e => by rw [← hs4]; exact pushCells_keeps _ _ _ _ (Heap.get?_push_of_some _ (keep3 b o e))
  -- the iterator's own objects, in the block
  have own_ : ∀ {σ' : L2.St} {H' : Hp} {s' : Shared}, Inv (X.blk s3 H3 scope ce fp) [] σ' H' s' → (∀ b ∈ fp, H' b = none) → ∀ b ∈ fp, FpOk (X.blk s3 H3 scope ce fp) [] H' b := fun I' hn b hb =>
    ⟨hn b hb, (I'.ok.exf b hb).1, I'.ok.exfs b hb, .inl hb, fun x c e => (I'.ok.exf b hb).2 x c e, fun p hp => absurd (show p ∈ ([] : List (Addr × Obj)) ++ [] from hp) (by simp)⟩
  let In : Nat → Shared → Prop := fun n s' => ∃ i H', Inv (X.blk s3 H3 scope ce fp) [] (wipe σ (own.map (·.2))) H' s' ∧ tn i s'.heap ∧ (∀ b ∈ fp, H' b = none) ∧ W i n H'
  have loop := compLoop_anyD (prog := X.prog) (w := X.w) (A := X.A) (R := compPost (model X.prog X.w) X.A X.xe none (fun v s => ∃ x H', Inv X pins σ H' s ∧ RelV x v ∧ Q x H') (.ref D) s3.heap.objs.size) (kx := kx) (vx := vx) (target := tg) (iter := iter) (ifs := ifs) (scope := scope) (pos := pos) (it := .ref it) (D := D) (env := ce) In ?turn m0 ⟨0, H3, I4, t4, fun b hb => (f3 b hb).1.1, w0⟩ (s := s4)
  case turn =>
    rintro n s5 ⟨i, H5, I5, t5, n5, w5⟩
    rcases turn i n H5 w5 with ⟨st, qq⟩ | ⟨go, Nx, hNx, step⟩
    · refine thnF (T.done (X.blk s3 H3 scope ce fp) rfl rfl rfl hc i [] s5 _ H5 (fun _ _ => False) I5 (own_ I5 n5) t5 st) fun _ s6 ⟨hr, I6⟩ => ?_
      subst hr
      obtain ⟨m, hn, _⟩ := I6.loc
      have free : H5 ce.locals = none := I6.free
      rw [cL] at free
      have hn' : s6.heap.Ns ce.locals m := hn
      rw [cL] at hn'
      refine done s6 m H5 (I3.call' (ch := fp) I6.os I6.base I6.hok I6.bare fun b hb => ?_) qq hn' (I3.fpOk (Nat.le_refl _) free)
      obtain ⟨_, g1, g2, g3, g4, g5⟩ := (f3 b hb).1
      exact ⟨g3, g1, g4, g5⟩
    · refine thnF (T.item (X.blk s3 H3 scope ce fp) rfl rfl rfl hc i [] s5 _ H5 (fun _ _ => False) I5 (own_ I5 n5) t5 go) fun _ s6 ⟨u, hr, h6⟩ => ?_
      subst hr
      refine thnF h6 fun _ s7 ⟨x, H7, I7, r7, y7, t7, n7⟩ => ?_
      have back : ∀ {σ8 : L2.St} {s' : Shared} {H' : Hp}, wipe σ8 (own.map (·.2)) = wipe σ (own.map (·.2)) → Inv (X.blk s3 H3 scope ce fp) ([] ++ pinsAt fp s7.heap) σ8 H' s' → Nx H' → ∃ m, m < n ∧ In m s' := fun {σ8 s' H'} hw I' nx => by
        obtain ⟨m', hm, w'⟩ := hNx H' nx
        have pin : ∀ b ∈ fp, ∀ o, s7.heap.get? b = some o → s'.heap.get? b = some o ∧ H' b = none := fun b hb o e =>
          let z := I'.pin (b, o) (List.mem_append_right _ (List.mem_append_right _ (mem_pinsAt hb e)))
          ⟨z.1, z.2.1⟩
        refine ⟨m', hm, i + 1, H', (I'.unpinned (pins := [])).weak (by rw [← hw, wipe_length]) (fun j v e => ?_), T.keep _ _ _ t7 fun b hb o e => (pin b hb o e).1, fun b hb => ?_, w'⟩
        · rw [← hw] at e
          exact (wipe_some e).1
        · obtain ⟨o, e, _⟩ := T.obj _ _ t7 b hb
          exact (pin b hb o e).2
      refine thnF (pg.run _ s7 _ H7 x u _ (I7.pinned (own_ I7 n7) (T.obj _ _ t7)) r7 (step x H7 y7)) fun _ s8 ⟨σ8, H8, I8, hw8, q8⟩ => ?_
      refine thnF (pt.run _ s8 σ8 H8 _ I8 q8) fun b s9 ⟨H9, I9, q9⟩ => ?_
      cases b with
      | false => exact back hw8 I9 q9
      | true => exact thnF (pk.run _ s9 σ8 H9 _ I9 q9) fun _ s10 ⟨yk, H10, I10, r10, q10⟩ => thnF (pe.run _ s10 σ8 H10 _ I10 q10) fun _ s11 ⟨yv, H11, I11, r11, q11⟩ => B.put (X := X.blk s3 H3 scope ce fp) rfl rfl I11 r10 r11 q11 fun s12 H12 I12 nx => back hw8 I12 nx
  exact codeAny_compStart_dict loop (T.self X.A 0 _ _ _ t4 loop)
/-- the walk of it -/
theorem dcS_it {J : It} {n : Nat} {G : Hp → Prop} {Y : Nat → Hp → V → Hp → Prop} (w : Walk J n G Y) {o0 : Addr → HO} {ST : Addr → V → V → Hp → (Hp → Prop) → Prop} {g : TG} {tt : TT} {tk tv : TE} {vs : List Nat} {σ : L2.St} {H1 : Hp} {D : Addr} {Qd : Hp → Prop}
    (Pv : Nat → Hp → Prop) (h0 : Pv 0 (upd H1 D (o0 D))) (hG : ∀ i H, i ≤ n → Pv i H → G H)
    (hs : ∀ i x H H', i < n → Pv i H → Y i H x H' → g x (wipe σ vs) H' fun σ2 H2 => wipe σ2 vs = wipe σ vs ∧ tt σ2 H2 fun b H3 =>
      if b = true then tk σ2 H3 fun y H4 => tv σ2 H4 fun z H5 => ST D y z H5 (Pv (i + 1)) else Pv (i + 1) H3) (hd : ∀ H, Pv n H → Qd H) :
    ∃ W : Nat → Nat → Hp → Prop, (∃ m, W 0 m (upd H1 D (o0 D))) ∧ ∀ i m H, W i m H →
      (J.stop i H ∧ Qd H) ∨ (J.go i H ∧ ∃ Nx : Hp → Prop, (∀ H', Nx H' → ∃ m', m' < m ∧ W (i + 1) m' H') ∧ ∀ x H', J.yld i H x H' → g x (wipe σ vs) H' fun σ2 H2 => wipe σ2 vs = wipe σ vs ∧ tt σ2 H2 fun b H3 =>
        if b = true then tk σ2 H3 fun y H4 => tv σ2 H4 fun z H5 => ST D y z H5 Nx else Nx H3) := by
  refine ⟨fun i m H => m = n - i ∧ i ≤ n ∧ Pv i H, ⟨n, by simp, Nat.zero_le _, h0⟩, ?_⟩
  rintro i m H ⟨rfl, hi, p⟩
  by_cases lt : i < n
  · exact .inr ⟨w.goes i H lt (hG i H hi p), Pv (i + 1), fun H' p' => ⟨n - (i + 1), by omega, rfl, lt, p'⟩, fun x H' y => hs i x H H' lt p (w.yields i H x H' lt (hG i H hi p) y)⟩
  · have e : i = n := by omega
    subst e
    exact .inl ⟨w.stops H (hG _ H hi p), hd H p⟩
/-- a store into a dict with tuple keys -/
def STx (P : Program) (w : World) : Addr → V → V → Hp → (Hp → Prop) → Prop := fun D y z H R => ∃ (b : Addr) (ks : List V) (kvs : List DxE), y = .ref b ∧ KeyAt H b ks ∧ H D = some (DXo P w kvs D) ∧ KeysAt H kvs ∧ kvs.length < sizeLine ∧ R (upd H D (DXo P w (dxPut kvs ks b z) D))
theorem store_x {P : Program} {w : World} {A : Around} (hu : A.units + 64 < cLine) : Store P w A (DXo P w []) (STx P w) where
  new := fun H h hb => dx_empty h hb
  put := by
    intro X pins σ H s D y z u r R Q E hP hw I ry rz h k
    subst hP hw
    obtain ⟨b, ks, kvs, rfl, kb, hd, ka, hl, q⟩ := h
    obtain rfl : u = Value.ref b := ry
    obtain ⟨zz, hsm, xs, rr, m⟩ := dx_of I.hok (.inl hd) ka
    have hz : xs.length ≤ sizeLine := by rw [← Paired.length rr]; exact zz
    have hl2 : (dxPut kvs ks b z).length ≤ sizeLine := by have := dxPut_len kvs ks b z; omega
    refine wpAny_dictSet_heap (hsz := hz) (knd := nestedKind X.prog X.w) (show A.units + 8 < cLine by omega) (nk_is I.hok kb.1 kb.2) m fun h' m' hsb => k _ _ ?_ q
    have he : ∃ q, h'.get? D = some q := let ⟨q, _, _, hq, _⟩ := m'; ⟨q, hq⟩
    exact d_write I (by rw [hd]; exact True.intro) hsb he (dx_new hl2 hsm (dx_put rr ks b rz) m')
/-! name = {..}, the name a local -/
section
variable {X : Cx}
theorem ps_setDc {i : Nat} {y : Str} {py : Pos} {kx vx tg iter : Expr} {ifs : List Expr} {scope : Scope} {own : List (Str × Nat)} {pos spos : Pos} {wi : TI} {g : TG} {tt : TT} {tk tv : TE} (hc : X.calm = true) (hN : X.N.Nodup) (hy : X.N[i]? = some y) (hyl : X.env.scope.names.lookup y = some .local)
    (hsw : swapsWith (.DictComp kx vx [⟨tg, iter, ifs, 0⟩] scope pos) (some (.Name y py)) spos.line X.env = pure true) (hi : PI X tg iter wi) (ok : BlkOk X.N X.env.scope scope own)
    (hg : ∀ (s : Shared) (H : Hp) (C : Addr) (cl : List (Str × Addr)) (fp : List Addr), PG (X.blk s H scope (compEnvC scope cl C X.env) fp) tg g) (ht : ∀ (s : Shared) (H : Hp) (C : Addr) (cl : List (Str × Addr)) (fp : List Addr), PTs (X.blk s H scope (compEnvC scope cl C X.env) fp) ifs tt)
    (hk : ∀ (s : Shared) (H : Hp) (C : Addr) (cl : List (Str × Addr)) (fp : List Addr), PE (X.blk s H scope (compEnvC scope cl C X.env) fp) kx tk)
    (he : ∀ (s : Shared) (H : Hp) (C : Addr) (cl : List (Str × Addr)) (fp : List Addr), PE (X.blk s H scope (compEnvC scope cl C X.env) fp) vx tv) (hs : ∀ x, foldedSetIterable iter X.env x = pure x := by intro _; rfl) :
    PS X (.Assign [.Name y py] (.DictComp kx vx [⟨tg, iter, ifs, 0⟩] scope pos) spos) (tAsg (tDc wi g tt tk tv (own.map (·.2))) (gName i)) := by
  refine ⟨fun pins s σ H D I h => ?_⟩
  rw [exec_Assign_Name_used _ _ _ _ hsw]
  refine wpAny_bind (wpAny_standAt (wpAny_bind ?_))
  show wpAny _ X.A (do let _ ← comprehension (.DictComp kx vx [⟨tg, iter, ifs, 0⟩] scope pos) scope X.env (firstIterPos [⟨tg, iter, ifs, 0⟩] pos) newDict false (eval iter X.env) (some (assign (.Name y py) X.env))) _ _ s
  have h : tDc wi g tt tk tv (own.map (·.2)) σ H (fun x H1 => gName i x σ H1 D.nx) := h
  refine wpAny_bind (thn (dc_core (Qf := fun _ s' => SP X pins D .next s') hc hN I hi ok hg ht hk he hs h fun L C s' m H' I' q hn f => ?_) fun _ s' hq => wpAny_pure (wpAny_pure hq))
  show wpAny _ _ (assign (.Name y py) X.env (.ref L)) _ _ _
  obtain ⟨f0, f1, f2, f3, f4, f5⟩ := f
  refine wpAny_assign_Name (store_ok2 (v := V.ref L) I' hN hy (.inl hyl) rfl (fun s2 I2 ⟨a, sb, ha⟩ => ?_) (.inr hyl))
  have haC : C ≠ a := ha.elim (fun z => by rw [z]; exact f1) fun z e => f4 y a z e.symm
  exact ⟨m, hn.sameBut sb haC, fun h3 sb3 => ⟨_, H', I2.turned (t' := s2.toks) (fun b o hb e => (sb3.2 b hb).trans e) f0 f1 f3 f4 f5, q⟩⟩
theorem sw_trueD {kx vx : Expr} {gs : List Comprehension} {scope : Scope} {pos py : Pos} {y : Str} {l : Nat} {env : Env} (hk : env.scope.kind = .function) (hy : env.scope.names.lookup y = some .local) (hl : (py.line == pos.line) = true)
    (ha : (scope.names.any fun (n, k) => n == y && (k == .local || k == .cell)) = false) : swapsWith (.DictComp kx vx gs scope pos) (some (.Name y py)) l env = pure true := by
  have ky : env.kindOf y = some .local := hy
  have hb : env.blockKind = .function := by unfold Env.blockKind; rw [hk]; rfl
  unfold swapsWith
  simp only [hb, ky, ha, Expr.pos, hl]
  rfl
end
end S
namespace S
open PySem PySem.Spec PyProof.Rows L2
/-! ### dicts whose keys are tuples, and tuples in these -/
mutual
/-- the value is the key -/
inductive NkV (H : Hp) : V → NestedKey → Prop where
  | non : NkV H .non .none
  | bl (b : Bool) : NkV H (.bl b) (.num (if b = true then 1 else 0))
  | int (i : Int) : NkV H (.int i) (.num i)
  | str (z : Str) : NkV H (.str z) (.text z)
  | tup {a : Addr} {xs : List V} {ks : List NestedKey} (h : H a = some (.tup xs)) (t : NkVs H xs ks) : NkV H (.ref a) (.tup ks)
inductive NkVs (H : Hp) : List V → List NestedKey → Prop where
  | nil : NkVs H [] []
  | cons {x : V} {xs : List V} {k : NestedKey} {ks : List NestedKey} (h : NkV H x k) (t : NkVs H xs ks) : NkVs H (x :: xs) (k :: ks)
end
theorem NkV.same {H H' : Hp} {x : V} {k : NestedKey} (h : NkV H x k) (s : Same H H') : NkV H' x k :=
  NkV.rec (motive_1 := fun x k _ => NkV H' x k) (motive_2 := fun xs ks _ => NkVs H' xs ks) .non .bl .int .str (fun h _ t => .tup (s _ _ h) t) .nil (fun _ _ h t => .cons h t) h
theorem NkV.is {P : Program} {w : World} {H : Hp} {h : Heap} (ok : HOk P w H h) {x : V} {k : NestedKey} (q : NkV H x k) : ∀ {u : Value}, RelV x u → NestedIs h k u := by
  refine NkV.rec (motive_1 := fun x k _ => ∀ {u : Value}, RelV x u → NestedIs h k u) (motive_2 := fun xs ks _ => ∀ {us : List Value}, Vals xs us → NestedAll h ks us) ?_ ?_ ?_ ?_ ?_ ?_ ?_ q
  · intro u r; cases r; exact .none
  · intro b u r; cases r; exact .bool rfl
  · intro i u r; obtain ⟨t, rfl⟩ := r; exact .int i t
  · intro z u r; obtain ⟨t, rfl⟩ := r; exact .text z t
  · intro a xs ks e _ ih u r
    cases r
    obtain ⟨_, its, r, o, h1, h2, n, h3⟩ := (show ObjOk P w H h a (.tup xs) from ok a _ e)
    exact .tup h1 h2 h3 (by simpa using ih r)
  · intro us r; cases r; exact .nil
  · intro x xs k ks _ _ ih1 ih2 us r
    cases r with
    | cons r1 r2 => exact .cons (ih1 r1) (ih2 r2)
def NKey (H : Hp) (b : Addr) (k : NestedKey) : Prop := NkV H (.ref b) k ∧ k.depth ≤ 8
theorem NKey.same {H H' : Hp} {b : Addr} {k : NestedKey} (h : NKey H b k) (s : Same H H') : NKey H' b k := ⟨h.1.same s, h.2⟩
theorem nkey_is {P : Program} {w : World} {H : Hp} {h : Heap} (ok : HOk P w H h) {b : Addr} {k : NestedKey} (q : NKey H b k) : (nestedKind P w).is h k b := ⟨q.1.is ok rfl, q.2⟩
theorem nkVs_flat {H : Hp} : ∀ {xs : List V}, (∀ v ∈ xs, flV v = true) → NkVs H xs (xs.map nkV)
  | [], _ => .nil
  | x :: xs, f => by
    refine .cons ?_ (nkVs_flat fun v hv => f v (List.mem_cons_of_mem _ hv))
    have f1 := f x List.mem_cons_self
    cases x with
    | non => exact .non
    | bl b => exact .bl b
    | int i => exact .int i
    | str z => exact .str z
    | _ => cases f1
theorem KeyAt.n {H : Hp} {b : Addr} {ks : List V} (h : KeyAt H b ks) : NKey H b (nkL ks) := ⟨.tup h.1 (nkVs_flat h.2), nk_depth ks⟩
abbrev DnE := NestedKey × Addr × V
def DnR (p : DnE) (q : NestedKey × Addr × Value) : Prop := q.1 = p.1 ∧ q.2.1 = p.2.1 ∧ RelV p.2.2 q.2.2
/-- the dict at d: its keys, where their tuples stand, its values -/
def DNo (P : Program) (w : World) (kvs : List DnE) (d : Addr) : HO := .ext fun h => kvs.length ≤ sizeLine ∧ (d == sysModules) = false ∧ ∃ xs : List (NestedKey × Addr × Value), Paired DnR kvs xs ∧
  ∃ o es ep, h.get? d = some o ∧ o.ExactDict ∧ o.data = .dict es ep ∧ es.toList = xs.map (entryOfKey (nestedKind P w)) ∧ (xs.map (·.1)).Nodup
def NKeysAt (H : Hp) (kvs : List DnE) : Prop := ∀ e ∈ kvs, NKey H e.2.1 e.1
theorem NKeysAt.same {H H' : Hp} {kvs : List DnE} (h : NKeysAt H kvs) (s : Same H H') : NKeysAt H' kvs := fun e he => (h e he).same s
def dnGet (kvs : List DnE) (k : NestedKey) : Option V := (kvs.find? fun e => decide (e.1 = k)).map (·.2.2)
def dnPut (kvs : List DnE) (k : NestedKey) (b : Addr) (v : V) : List DnE := if (dnGet kvs k).isSome then kvs.map fun e => if e.1 = k then (e.1, e.2.1, v) else e else kvs ++ [(k, b, v)]
section
variable {P : Program} {w : World} {H : Hp} {h : Heap} {d b : Addr} {kvs : List DnE}
theorem dn_of (ok : HOk P w H h) (e : Rd H d (DNo P w kvs d)) (t : NKeysAt H kvs) : kvs.length ≤ sizeLine ∧ (d == sysModules) = false ∧ ∃ xs, Paired DnR kvs xs ∧ h.DictOfH (nestedKind P w) d xs := by
  obtain ⟨⟨z, y, xs, r, o, es, ep, h1, h2, h3, h4, h5⟩, _⟩ := (show ObjOk P w H h d (DNo P w kvs d) from rd_of ok e)
  refine ⟨z, y, xs, r, o, es, ep, h1, h2, h3, h4, fun x hx => ?_, h5⟩
  have all : ∀ {l : List DnE} {m : List (NestedKey × Addr × Value)}, Paired DnR l m → NKeysAt H l → ∀ x ∈ m, (nestedKind P w).is h x.1 x.2.1 := by
    intro l m q
    induction q with
    | nil => intro _ x hx; exact nomatch hx
    | @cons p q ps qs hq t ih =>
      intro k x hx
      rcases List.mem_cons.mp hx with e | hx
      · subst e
        rw [hq.1, hq.2.1]
        exact nkey_is ok (k p List.mem_cons_self)
      · exact ih (fun e he => k e (List.mem_cons_of_mem _ he)) x hx
  exact all r t x hx
theorem dn_val {xs : List (NestedKey × Addr × Value)} (r : Paired DnR kvs xs) (k : NestedKey) : RelO (dnGet kvs k) ((atKey xs (k)).map (·.2)) := by
  unfold dnGet atKey
  induction r with
  | nil => exact True.intro
  | @cons p q ps qs hq t ih =>
    rw [List.find?_cons, List.find?_cons, hq.1]
    by_cases c : p.1 = k
    · rw [decide_eq_true c]
      exact hq.2.2
    · rw [decide_eq_false c]
      exact ih
theorem dn_none {xs : List (NestedKey × Addr × Value)} (r : Paired DnR kvs xs) (k : NestedKey) : (dnGet kvs k).isSome = (atKey xs (k)).isSome := by
  have := (dn_val r k).isSome_eq
  rw [Option.isSome_map] at this
  exact this
theorem dnPut_len (kvs : List DnE) (k : NestedKey) (b : Addr) (v : V) : (dnPut kvs k b v).length ≤ kvs.length + 1 := by
  unfold dnPut
  split
  · rw [List.length_map]; omega
  · rw [List.length_append]; exact Nat.le_refl _
theorem dn_put {xs : List (NestedKey × Addr × Value)} (r : Paired DnR kvs xs) (k : NestedKey) (b : Addr) {v : V} {u : Value} (rv : RelV v u) : Paired DnR (dnPut kvs k b v) (storedH xs (k) b u) := by
  have e := dn_none r k
  unfold dnPut storedH
  rw [e]
  by_cases q : (atKey xs (k)).isSome = true
  · rw [if_pos q, if_pos q]
    clear e q
    induction r with
    | nil => exact .nil
    | @cons p q ps qs hq t ih =>
      refine .cons ?_ ih
      show DnR (if p.1 = k then (p.1, p.2.1, v) else p) (putAt (k) u q)
      unfold putAt
      by_cases c : p.1 = k
      · rw [if_pos c, if_pos (hq.1.trans c)]
        exact ⟨hq.1, hq.2.1, rv⟩
      · rw [if_neg c, if_neg (fun z => c (hq.1.symm.trans z))]
        exact hq
  · rw [if_neg q, if_neg q]
    exact Paired.snoc r ⟨rfl, rfl, rv⟩
theorem dn_new {xs : List (NestedKey × Addr × Value)} (z : kvs.length ≤ sizeLine) (y : (d == sysModules) = false) (r : Paired DnR kvs xs) (m : h.DictOfH (nestedKind P w) d xs) : ObjOk P w H h d (DNo P w kvs d) := by
  obtain ⟨o, es, ep, h1, h2, h3, h4, _, h5⟩ := m
  refine ⟨⟨z, y, xs, r, o, es, ep, h1, h2, h3, h4, h5⟩, ⟨o, h1⟩, fun g1 g2 p k => ?_⟩
  obtain ⟨z, y, xs, r, o, es, ep, h1, h2⟩ := p
  exact ⟨z, y, xs, r, o, es, ep, k o h1, h2⟩
theorem dn_empty (h : Heap) (hb : sysModules < h.objs.size) : ObjOk P w H (h.push { cls := .type "dict", data := .dict #[] }) h.objs.size (DNo P w [] h.objs.size) :=
  dn_new (Nat.zero_le _) (beq_eq_false_iff_ne.mpr (Ne.symm (Nat.ne_of_lt hb))) .nil (Heap.DictOfH.new h)
end
/-! the rules -/
/-- {}: a dict of this kind -/
def tDNewN (P : Program) (w : World) : TE := fun _ H Q => ∀ p, H p = none → Q (.ref p) (upd H p (DNo P w [] p))
def rInN (P : Program) (w : World) (neg : Bool) : V → V → Hp → VK → Prop := fun x y H Q => ∃ (b d : Addr) (ks : NestedKey) (kvs : List DnE), x = .ref b ∧ NKey H b ks ∧ y = .ref d ∧ Rd H d (DNo P w kvs d) ∧ NKeysAt H kvs ∧
  Q (.bl (if neg then !(dnGet kvs ks).isSome else (dnGet kvs ks).isSome)) H
def tDGetN (P : Program) (w : World) (td ty : TE) : TE := fun σ H Q => td σ H fun x H1 => ty σ H1 fun y H2 => ∃ (b d : Addr) (ks : NestedKey) (kvs : List DnE) (v : V), x = .ref d ∧ Rd H2 d (DNo P w kvs d) ∧ NKeysAt H2 kvs ∧ y = .ref b ∧ NKey H2 b ks ∧ dnGet kvs ks = some v ∧ Q v H2
def sDPutN (P : Program) (w : World) (td ty tv : TE) : TS := fun D σ H => tv σ H fun v H1 => td σ H1 fun x H2 => ty σ H2 fun y H3 => ∃ (b d : Addr) (ks : NestedKey) (kvs : List DnE), x = .ref d ∧ H3 d = some (DNo P w kvs d) ∧ NKeysAt H3 kvs ∧ y = .ref b ∧ NKey H3 b ks ∧ kvs.length < sizeLine ∧
  D.nx σ (upd H3 d (DNo P w (dnPut kvs ks b v) d))
section
variable {X : Cx} {pos : Pos}
theorem pe_dnewN : PE X (.Dict [] [] pos) (tDNewN X.prog X.w) := ⟨fun pins s σ H Q I h =>
  wpAny_Dict_empty ⟨.ref s.heap.objs.size, _, I.laid (a := s.heap.objs.size) (o := DNo X.prog X.w [] s.heap.objs.size) (t' := s.toks) (fun _ _ q => Heap.get?_push_of_some _ q) (Nat.le_refl _) (dn_empty s.heap I.big), rfl, h _ (I.hok.fresh (Nat.le_refl _))⟩⟩
theorem or_inN (hu : X.A.units + 64 < cLine) : OpR X (compareOp .In) (rInN X.prog X.w false) := by
  intro pins s σ H x y v u Q I rx ry h
  obtain ⟨b, d, ks, kvs, rfl, kb, rfl, hd, ka, q⟩ := h
  cases rx
  cases ry
  obtain ⟨z, hs, xs, r, m⟩ := dn_of I.hok hd ka
  refine wpAny_in_heap (room8 hu) (nkey_is I.hok kb) hs m ⟨.bl (dnGet kvs ks).isSome, H, I.tok _, ?_, q⟩
  show Value.bool _ = Value.bool _
  rw [dn_none r]
theorem or_notInN (hu : X.A.units + 64 < cLine) : OpR X (compareOp .NotIn) (rInN X.prog X.w true) := by
  intro pins s σ H x y v u Q I rx ry h
  obtain ⟨b, d, ks, kvs, rfl, kb, rfl, hd, ka, q⟩ := h
  cases rx
  cases ry
  obtain ⟨z, hs, xs, r, m⟩ := dn_of I.hok hd ka
  refine wpAny_notIn_heap (room8 hu) (nkey_is I.hok kb) hs m ⟨.bl (!(dnGet kvs ks).isSome), H, I.tok _, ?_, q⟩
  show Value.bool _ = Value.bool _
  rw [dn_none r]
theorem pe_dgetN {o i : Expr} {td ty : TE} (hu : X.A.units + 64 < cLine) (ho : PE X o td) (hi : PE X i ty) (hs : NoSl i) : PE X (.Subscript o i pos) (tDGetN X.prog X.w td ty) := by
  refine ⟨fun pins s σ H Q I h => ?_⟩
  refine subD_of PySem.F.slot_dict_getitem.lookup hs (thn (ho.run pins s σ H _ I h) fun u s1 ⟨x, H1, I1, rx, q1⟩ => thn (hi.run pins s1 σ H1 _ I1 q1) fun iv s2 ⟨y, H2, I2, ry, b, d, ks, kvs, v, ex, hd, ka, ey, kb, g, q2⟩ => ?_)
  subst ex ey
  obtain rfl : u = Value.ref d := rx
  obtain rfl : iv = Value.ref b := ry
  obtain ⟨z, hs, xs, r, m⟩ := dn_of I2.hok hd ka
  obtain ⟨w', hw, rw'⟩ := RelO.some_of (v := v) (o := (atKey xs (ks)).map (·.2)) (by rw [← g]; exact dn_val r ks)
  obtain ⟨p, hp, hp2⟩ := Option.map_eq_some_iff.mp hw
  refine ⟨m.typeIs, wpAny_getItem_heap (room8 hu) (nkey_is I2.hok kb) m hp ?_⟩
  rw [hp2]
  exact ⟨v, H2, I2.tok _, rw', q2⟩
theorem ps_dputN {o i value : Expr} {pos' : Pos} {td ty tv : TE} (hu : X.A.units + 64 < cLine) (ho : PE X o td) (hi : PE X i ty) (hv : PE X value tv) (hs : swapsWith value (some (.Subscript o i pos')) pos.line X.env = pure false) :
    PS X (.Assign [.Subscript o i pos'] value pos) (sDPutN X.prog X.w td ty tv) := by
  refine ⟨fun pins s σ H D I h => ?_⟩
  refine wpAny_Assign_Subscript (thn (hv.run pins s σ H _ I h) fun r s1 ⟨v, H1, I1, rv, q1⟩ => thn (ho.run pins s1 σ H1 _ I1 q1) fun u s2 ⟨x, H2, I2, rx, q2⟩ => thn (hi.run pins s2 σ H2 _ I2 q2) fun iv s3 ⟨y, H3, I3, ry, b, d, ks, kvs, ex, hd, ka, ey, kb, hl, q3⟩ => ?_) hs
  subst ex ey
  obtain rfl : u = Value.ref d := rx
  obtain rfl : iv = Value.ref b := ry
  obtain ⟨z, hsm, xs, rr, m⟩ := dn_of I3.hok (.inl hd) ka
  have hz : xs.length ≤ sizeLine := by rw [← Paired.length rr]; exact z
  have hl2 : (dnPut kvs ks b v).length ≤ sizeLine := by have := dnPut_len kvs ks b v; omega
  refine wpAny_setItem_heap (hsz := hz) (room8 hu) (nkey_is I3.hok kb) m fun h' m' hsb => ⟨σ, _, ?_, q3⟩
  have he : ∃ q, h'.get? d = some q := let ⟨q, _, _, hq, _⟩ := m'; ⟨q, hq⟩
  exact d_write I3 (by rw [hd]; exact True.intro) hsb he (dn_new hl2 hsm (dn_put rr ks b rv) m')
def rLenN (P : Program) (w : World) : List V → Hp → VK → Prop := fun xs H Q => ∃ d kvs, xs = [V.ref d] ∧ Rd H d (DNo P w kvs d) ∧ NKeysAt H kvs ∧ Q (.int kvs.length) H
theorem call_lenN : CallR X (.builtin "len") (rLenN X.prog X.w) := by
  intro pins s σ H xs us Q I r h
  obtain ⟨d, kvs, rfl, hd, ka, q⟩ := h
  obtain ⟨u, rfl, ru⟩ := r.one
  cases ru
  obtain ⟨z, hs, xs, rr, m⟩ := dn_of I.hok hd ka
  obtain ⟨es, ep, hr, hsz, _⟩ := m.raw
  have l : kvs.length = es.size := (Paired.length rr).trans hsz.symm
  refine Calls.call_function_entry kind_len plain_len entry_len (args_len1 _) (len_body_raw hs hr (by rw [← l]; rw [sizeLine_eq] at z; omega) ?_)
  exact ⟨.int kvs.length, H, I.tok _, ⟨_, by rw [l]⟩, q⟩
/-- list(d): the keys' own tuples -/
def rListN (P : Program) (w : World) : List V → Hp → VK → Prop := fun xs H Q => ∃ d kvs, xs = [V.ref d] ∧ Rd H d (DNo P w kvs d) ∧ ∀ p, H p = none → Q (.ref p) (upd H p (.lst (kvs.map fun e => V.ref e.2.1)))
theorem dn_addrs {kvs : List DnE} {xs : List (NestedKey × Addr × Value)} (r : Paired DnR kvs xs) : (xs.map fun x => x.2.1) = kvs.map fun e => e.2.1 := by
  induction r with
  | nil => rfl
  | @cons p q ps qs hq _ ih => rw [List.map_cons, List.map_cons, ih, hq.2.1]
theorem call_listN (hc : X.calm = true) : CallR X (.type "list") (rListN X.prog X.w) := by
  intro pins s σ H xs us Q I r h
  obtain ⟨d, kvs, rfl, hd, q⟩ := h
  obtain ⟨u, rfl, rx⟩ := r.one
  cases rx
  obtain ⟨⟨z, hs, ks, pr, o, es, ep, ho, hx, hdt, he, hn⟩, _⟩ := (show ObjOk X.prog X.w H s.heap d (DNo X.prog X.w kvs d) from hd.ok I.hok)
  have l1 : es.size = ks.length := size_of_entries he
  have l2 : kvs.length = ks.length := Paired.length pr
  refine PySem.W.kdl_call (kdl_raw hs hx hdt) (I.ok.hd hc) ho (by omega) fun h' tk acc' c' kp e it => ?_
  have ea : acc'.toList = ks.map fun x => Value.ref x.2.1 := by
    have hl : acc'.toList.length = ks.length := by rw [Array.length_toList, it.1]; exact l1
    apply List.ext_getElem?
    intro j
    rw [List.getElem?_map]
    cases hj : acc'.toList[j]? with
    | none =>
      have h1 := List.getElem?_eq_none_iff.mp hj
      rw [List.getElem?_eq_none (by omega)]
      all_goals rfl
    | some v =>
      obtain ⟨en, hen, hv⟩ := it.2 j v (by rw [← Array.getElem?_toList]; exact hj)
      have qe := entry_at he j
      rw [hen] at qe
      cases hb : ks[j]? with
      | none =>
        rw [hb] at qe
        exact nomatch (show some en = none from qe)
      | some b =>
        rw [hb] at qe
        have e2 : en = entryOfKey (nestedKind X.prog X.w) b := Option.some.inj qe
        rw [hv, e2]
        all_goals rfl
  have eb : acc'.toList = (ks.map fun x => x.2.1).map Value.ref := by rw [ea, List.map_map]; all_goals rfl
  have rv : Vals ((ks.map fun x => x.2.1).map V.ref) acc'.toList := by rw [eb]; exact vals_refs _
  have hz : ((ks.map fun x => x.2.1).map V.ref).length ≤ sizeLine := by rw [List.length_map, List.length_map]; omega
  have em : ((ks.map fun x => x.2.1).map V.ref) = kvs.map fun e => V.ref e.2.1 := by rw [dn_addrs pr, List.map_map]; all_goals rfl
  refine ⟨.ref s.heap.objs.size, _, I.laid (t' := tk) (o := .lst ((ks.map fun x => x.2.1).map V.ref)) kp (Nat.le_refl _) ?_, rfl, ?_⟩
  · exact ⟨hz, acc'.toList, c', rv, by rw [Array.toArray_toList]; exact e⟩
  · rw [em]
    exact q _ (I.hok.fresh (Nat.le_refl _))
/-! for k in d -/
def Itn (P : Program) (w : World) (d : Addr) (o : Obj) (kvs : List DnE) : It :=
  ⟨fun i H => H d = some (.frz o (DNo P w kvs d)) ∧ i < kvs.length, fun i H x H' => H' = H ∧ ∃ e : DnE, kvs[i]? = some e ∧ x = .ref e.2.1, fun i H => H d = some (.frz o (DNo P w kvs d)) ∧ kvs.length ≤ i⟩
theorem frzN {pins : List (Addr × Obj)} {σ : L2.St} {H : Hp} {s : Shared} {d : Addr} {o : Obj} {kvs : List DnE} (I : Inv X pins σ H s) (h : H d = some (.frz o (DNo X.prog X.w kvs d))) :
    (d == sysModules) = false ∧ s.heap.get? d = some o ∧ o.ExactDict ∧ ∃ (es : Array DictEntry) (ep : Nat), o.data = .dict es ep ∧ es.size = kvs.length ∧
      ∀ (i : Nat) (e : DnE), kvs[i]? = some e → ∃ en : DictEntry, es[i]? = some en ∧ en.key = .ref e.2.1 := by
  obtain ⟨hd, ⟨z, hs, xs, pr, o', es, ep, ho, hx, hdt, he, _⟩, _⟩ := I.hok d _ h
  rw [hd] at ho
  cases ho
  refine ⟨hs, hd, hx, es, ep, hdt, ?_, fun i e hi => ?_⟩
  · have l1 : es.size = xs.length := size_of_entries he
    have l2 : kvs.length = xs.length := Paired.length pr
    omega
  · obtain ⟨b, hb, e1, e2, _⟩ := paired_get pr hi
    have q := entry_at he i
    rw [hb] at q
    refine ⟨_, q, ?_⟩
    rw [← e2]
    rfl
theorem turn_keysN {P : Program} {w : World} {K : PySem.W.Frag} {tg : Expr} {d : Addr} {o : Obj} {es : Array DictEntry} {ep : Nat} {kvs : List DnE} (it : Addr) (hod : o.data = .dict es ep) : Turn P w K tg (Itn P w d o kvs) [it] it (fun i h => h.IsKeyIter it d i kvs.length ep) where
  mem := by simp
  obj := fun i h st b hb => by
    have e : b = it := by simpa using hb
    subst e
    obtain ⟨oi, e, c, dd⟩ := st
    exact ⟨oi, e, fun v z => by rw [dd] at z; cases z⟩
  keep := fun i h h' st k => st.at fun oi e => k it (by simp) oi e
  item := by
    intro X hP hw hK hc i pins s σ H E I hf st hg
    subst hP hw hK
    obtain ⟨hd, hi⟩ := hg
    obtain ⟨f0, f1, f2, f3, f4, f5⟩ := hf it (by simp)
    obtain ⟨hs, hgd, hx, es', ep', hdt, hsz, ent⟩ := frzN I hd
    obtain ⟨rfl, rfl⟩ := dict_ep hod hdt
    have hkv := List.getElem?_eq_getElem hi
    obtain ⟨en, hen, hkey⟩ := ent i _ hkv
    refine next_key_item st hgd hdt hsz hen fun h' st' sb => ?_
    have I1 : Inv X pins σ H { s with heap := h' } := I.turned (t' := s.toks) (fun b ob hb e => (sb.2 b hb).trans e) f0 f1 f3 f4 f5
    obtain ⟨oi, e, c, dd⟩ := id st'
    exact ⟨en.key, rfl, go_of (s := { s with heap := h' }) e c dd (by decide) ⟨.ref _, H, I1, hkey, ⟨rfl, _, hkv, rfl⟩, st', fun b hb => (hf b hb).1⟩⟩
  done := by
    intro X hP hw hK hc i pins s σ H E I hf st hg
    subst hP hw hK
    obtain ⟨hd, hi⟩ := hg
    obtain ⟨f0, f1, f2, f3, f4, f5⟩ := hf it (by simp)
    obtain ⟨hs, hgd, hx, es', ep', hdt, hsz, ent⟩ := frzN I hd
    obtain ⟨rfl, rfl⟩ := dict_ep hod hdt
    exact next_key_end (I.ok.hd hc) st hgd hdt hsz hi fun h' eb => ⟨rfl, I.turned (t' := s.toks) (fun b ob hb e => eb b ob hb e) f0 f1 f3 f4 f5⟩
  self := fun A i s Q E st h => wpAny_pyIter_keyiter st h
/-- the dict is locked (tLock, tLockE) -/
def iKeysN (P : Program) (w : World) (td : TE) : TI := fun σ H R => td σ H fun x H1 => ∃ d o kvs, x = .ref d ∧ H1 d = some (.frz o (DNo P w kvs d)) ∧ R (Itn P w d o kvs) H1
theorem pi_keysN {tg e : Expr} {td : TE} (he : PE X e td) : PI X tg e (iKeysN X.prog X.w td) := by
  refine ⟨fun pins s σ H R I h => ?_⟩
  refine thn (he.run pins s σ H _ I h) fun u s1 ⟨x, H1, I1, rx, d, o, kvs, ex, hd, q⟩ => ?_
  subst ex
  obtain rfl : u = Value.ref d := rx
  obtain ⟨hs, hgd, hx, es, ep, hdt, hsz, ent⟩ := frzN I1 hd
  refine iter_keys hs hgd hx hdt (pi_one (tk := s1.toks) I1 _ (turn_keysN _ hdt) ⟨_, Heap.get?_push_size _ rfl, rfl, ?_⟩ q)
  rw [hsz] <;> rfl
theorem walk_keysN {P : Program} {w : World} {d : Addr} {o : Obj} {kvs : List DnE} : Walk (Itn P w d o kvs) kvs.length (fun H => H d = some (.frz o (DNo P w kvs d))) (fun i H x H' => H' = H ∧ ∃ e : DnE, kvs[i]? = some e ∧ x = .ref e.2.1) :=
  ⟨fun _ _ hi q => ⟨q, hi⟩, fun _ q => ⟨q, Nat.le_refl _⟩, fun _ _ _ _ _ _ y => y⟩
end
/-! the rules, the program and the world named -/
section
variable {X : Cx} {P : Program} {w : World} {pos : Pos}
theorem pe_dnewNP (hP : X.prog = P) (hw : X.w = w) : PE X (.Dict [] [] pos) (tDNewN P w) := by
  subst hP hw
  exact pe_dnewN
theorem or_inNP (hP : X.prog = P) (hw : X.w = w) (hu : X.A.units + 64 < cLine) : OpR X (compareOp .In) (rInN P w false) := by
  subst hP hw
  exact or_inN hu
theorem or_notInNP (hP : X.prog = P) (hw : X.w = w) (hu : X.A.units + 64 < cLine) : OpR X (compareOp .NotIn) (rInN P w true) := by
  subst hP hw
  exact or_notInN hu
theorem pe_dgetNP {o i : Expr} {td ty : TE} (hP : X.prog = P) (hw : X.w = w) (hu : X.A.units + 64 < cLine) (ho : PE X o td) (hi : PE X i ty) (hs : NoSl i) : PE X (.Subscript o i pos) (tDGetN P w td ty) := by
  subst hP hw
  exact pe_dgetN hu ho hi hs
theorem ps_dputNP {o i value : Expr} {pos' : Pos} {td ty tv : TE} (hP : X.prog = P) (hw : X.w = w) (hu : X.A.units + 64 < cLine) (ho : PE X o td) (hi : PE X i ty) (hv : PE X value tv) (hs : swapsWith value (some (.Subscript o i pos')) pos.line X.env = pure false) :
    PS X (.Assign [.Subscript o i pos'] value pos) (sDPutN P w td ty tv) := by
  subst hP hw
  exact ps_dputN hu ho hi hv hs
theorem call_lenNP (hP : X.prog = P) (hw : X.w = w) : CallR X (.builtin "len") (rLenN P w) := by
  subst hP hw
  exact call_lenN
theorem call_listNP (hP : X.prog = P) (hw : X.w = w) (hc : X.calm = true) : CallR X (.type "list") (rListN P w) := by
  subst hP hw
  exact call_listN hc
theorem pi_keysNP {tg e : Expr} {td : TE} (hP : X.prog = P) (hw : X.w = w) (he : PE X e td) : PI X tg e (iKeysN P w td) := by
  subst hP hw
  exact pi_keysN he
end
/-! DXo is one of these -/
section
variable {P : Program} {w : World}
def toN (e : DxE) : DnE := (nkL e.1, e.2.1, e.2.2)
theorem paired_toN : ∀ {kvs : List DxE} {xs : List (NestedKey × Addr × Value)}, Paired DnR (kvs.map toN) xs ↔ Paired DxR kvs xs := by
  intro kvs
  induction kvs with
  | nil => intro xs; exact ⟨fun h => by cases h; exact .nil, fun h => by cases h; exact .nil⟩
  | cons e kvs ih =>
    intro xs
    constructor
    · intro h
      cases h with
      | cons h t => exact .cons h (ih.mp t)
    · intro h
      cases h with
      | cons h t => exact .cons h (ih.mpr t)
theorem DXo_n (kvs : List DxE) (d : Addr) : DXo P w kvs d = DNo P w (kvs.map toN) d := by
  unfold DXo DNo
  congr 1
  funext h
  refine propext ?_
  rw [List.length_map]
  exact and_congr Iff.rfl (and_congr Iff.rfl (exists_congr fun xs => and_congr paired_toN.symm Iff.rfl))
theorem KeysAt.n {H : Hp} {kvs : List DxE} (h : KeysAt H kvs) : NKeysAt H (kvs.map toN) := fun e he => by
  obtain ⟨y, hy, rfl⟩ := List.mem_map.mp he
  exact KeyAt.n ⟨(h y hy).2, (h y hy).1⟩
theorem dnGet_toN (kvs : List DxE) (k : List V) : dnGet (kvs.map toN) (nkL k) = dxGet kvs k := by
  unfold dnGet dxGet
  induction kvs with
  | nil => rfl
  | cons e kvs ih =>
    rw [List.map_cons, List.find?_cons, List.find?_cons]
    by_cases c : nkL e.1 = nkL k
    · rw [show decide ((toN e).1 = nkL k) = true from decide_eq_true c, decide_eq_true c]
      rfl
    · rw [show decide ((toN e).1 = nkL k) = false from decide_eq_false c, decide_eq_false c]
      exact ih
end
/-! d.get(k) -/
section
variable {X : Cx} {o e : Expr} {apos cpos : Pos} {td ty : TE}
def tDGet1N (P : Program) (w : World) (td ty : TE) : TE := fun σ H Q => td σ H fun x H1 => ∃ d, x = .ref d ∧ (∃ kvs, Rd H1 d (DNo P w kvs d) ∧ NKeysAt H1 kvs) ∧ ty σ H1 fun y H2 => ∃ (b : Addr) (ks : NestedKey) (kvs : List DnE), Rd H2 d (DNo P w kvs d) ∧ NKeysAt H2 kvs ∧ y = .ref b ∧ NKey H2 b ks ∧ Q ((dnGet kvs ks).getD .non) H2
theorem pe_dget1N (hu : X.A.units + 64 < cLine) (ho : PE X o td) (he : PE X e ty) (m : M1 X o "get" apos e cpos) : PE X (.Call (.Attribute o "get" apos) [e] [] cpos) (tDGet1N X.prog X.w td ty) := by
  refine ⟨fun pins s σ H Q I h => ?_⟩
  refine wpAny_Call_method m.base m.few m.line PySem.F.plainAttrs_dict PySem.F.slot_dict_get PySem.F.type_dict_get (thn (ho.run pins s σ H _ I h) fun u s1 ⟨x, H1, I1, rx, d, ex, ⟨kvs0, hd0, ka0⟩, q1⟩ => ?_)
  subst ex
  obtain rfl : u = Value.ref d := rx
  obtain ⟨_, hs0, xs0, _, dd0⟩ := dn_of I1.hok hd0 ka0
  refine ⟨dd0.typeIs, fun b q => ?_, ?_⟩
  · cases q
    obtain ⟨ob, _, _, h1, h2, _⟩ := dd0
    exact ⟨ob, h1, h2.2.1⟩
  rw [m.trees]
  refine Calls.callWith_builtin rfl (Calls.evalArgs_plain (Calls.spliced_cons (thn (he.run pins s1 σ H1 _ I1 q1) fun iv s2 ⟨y, H2, I2, ry, b, ks, kvs, hd, ka, ey, kb, q2⟩ => Calls.spliced_nil ?_)))
  subst ey
  obtain rfl : iv = Value.ref b := ry
  obtain ⟨z, hs, xs, r, mm⟩ := dn_of I2.hok hd ka
  refine call_meetsIn PySem.F.slot_dict_get mm.typeIs PySem.F.entry_dict_get (PySem.F.args_dict_get_2 _ _) (meetsH_dict_get (nestedKind X.prog X.w) d b hs) ⟨room8 hu, ks, xs, nkey_is I2.hok kb, mm, ?_⟩
  exact ⟨_, H2, I2.tok _, (dn_val r ks).getD (show RelV .non Value.none from rfl), q2⟩
theorem pe_dget1NP {P : Program} {w : World} (hP : X.prog = P) (hw : X.w = w) (hu : X.A.units + 64 < cLine) (ho : PE X o td) (he : PE X e ty) (m : M1 X o "get" apos e cpos) : PE X (.Call (.Attribute o "get" apos) [e] [] cpos) (tDGet1N P w td ty) := by
  subst hP hw
  exact pe_dget1N hu ho he m
end
/-! for .. in d.items() -/
def ItiN (P : Program) (w : World) (d : Addr) (o : Obj) (kvs : List DnE) : It :=
  ⟨fun i H => H d = some (.frz o (DNo P w kvs d)) ∧ i < kvs.length, fun i H x H' => ∃ (T : Addr) (e : DnE), kvs[i]? = some e ∧ x = .ref T ∧ H T = none ∧ H' = upd H T (.tup [.ref e.2.1, e.2.2]), fun i H => H d = some (.frz o (DNo P w kvs d)) ∧ kvs.length ≤ i⟩
theorem frzNV {X : Cx} {pins : List (Addr × Obj)} {σ : L2.St} {H : Hp} {s : Shared} {d : Addr} {o : Obj} {kvs : List DnE} (I : Inv X pins σ H s) (h : H d = some (.frz o (DNo X.prog X.w kvs d))) :
    (d == sysModules) = false ∧ s.heap.get? d = some o ∧ o.ExactDict ∧ ∃ (es : Array DictEntry) (ep : Nat), o.data = .dict es ep ∧ es.size = kvs.length ∧
      ∀ (i : Nat) (e : DnE), kvs[i]? = some e → ∃ en : DictEntry, es[i]? = some en ∧ en.key = .ref e.2.1 ∧ RelV e.2.2 en.val := by
  obtain ⟨hd, ⟨z, hs, xs, pr, o', es, ep, ho, hx, hdt, he, _⟩, _⟩ := I.hok d _ h
  rw [hd] at ho
  cases ho
  refine ⟨hs, hd, hx, es, ep, hdt, ?_, fun i e hi => ?_⟩
  · have l1 : es.size = xs.length := size_of_entries he
    have l2 : kvs.length = xs.length := Paired.length pr
    omega
  · obtain ⟨b, hb, e1, e2, e3⟩ := paired_get pr hi
    have q := entry_at he i
    rw [hb] at q
    refine ⟨_, q, ?_, e3⟩
    rw [← e2]
    rfl
theorem turn_itemsN {P : Program} {w : World} {K : PySem.W.Frag} {d : Addr} {o : Obj} {es : Array DictEntry} {ep : Nat} {kvs : List DnE} {elts : List Expr} {kk : Nat} {tpos : Pos} (it : Addr) (hod : o.data = .dict es ep) :
    Turn P w K (.Tuple elts kk tpos) (ItiN P w d o kvs) [it] it (fun i h => ∃ ok ov, IsItemIter h it d i kvs.length ep ok ov) where
  mem := by simp
  obj := fun i h st b hb => by
    have e : b = it := by simpa using hb
    subst e
    obtain ⟨ok, ov, e⟩ := st
    exact ⟨_, e, fun v z => nomatch z⟩
  keep := fun i h h' st k => let ⟨ok, ov, e⟩ := st; ⟨ok, ov, k it (by simp) _ e⟩
  item := by
    intro X hP hw hK hc i pins s σ H E I hf st hg
    subst hP hw hK
    obtain ⟨hd, hi⟩ := hg
    obtain ⟨hs, hgd, hx, es', ep', hdt, hsz, ent⟩ := frzNV I hd
    obtain ⟨rfl, rfl⟩ := dict_ep hod hdt
    have hkv := List.getElem?_eq_getElem hi
    generalize kvs[i] = e at hkv
    obtain ⟨en, hen, hkey, hval⟩ := ent i e hkv
    have hi2 : i < es'.size := by omega
    have een : es'[i] = en := by
      have := Array.getElem?_eq_getElem hi2
      rw [hen] at this
      exact (Option.some.inj this).symm
    obtain ⟨ok, ov, he⟩ := st
    rw [← hsz] at he
    have hlt : it < s.heap.objs.size := Heap.lt_size he
    have raw : s.heap.DictRaw d es' ep' := ⟨o, hgd, hx, hdt⟩
    refine wpAny_pyNext_items_item_raw he raw hi2 fun h' ho hT hz hk => ?_
    rw [een, hkey] at ho hT
    refine ⟨_, rfl, wpAny_letOwnedTupleGo_items (s := { s with heap := h' }) ho fun h'' he' sb => ?_⟩
    have hT2 : h''.get? s.heap.objs.size = some { cls := .type "tuple", data := .seq #[.ref e.2.1, en.val] } := (sb.2 _ (Nat.ne_of_gt hlt)).trans hT
    have new : ObjOk X.prog X.w (upd H s.heap.objs.size (.tup [.ref e.2.1, e.2.2])) h'' s.heap.objs.size (.tup [.ref e.2.1, e.2.2]) :=
      ⟨by show 2 ≤ sizeLine; decide, [.ref e.2.1, en.val], .cons rfl (.cons hval .nil), ⟨_, hT2, rfl, _, rfl⟩⟩
    have I1 : Inv X pins σ (upd H s.heap.objs.size (.tup [.ref e.2.1, e.2.2])) { s with heap := h'' } :=
      I.turnedNew (t' := s.toks) (ch := [it]) (fun b ob hb e => (sb.2 b (by simpa using hb)).trans (hk b ob (by simpa using hb) e)) hf (Nat.le_refl _) new
    refine ⟨.ref s.heap.objs.size, _, I1, rfl, ⟨_, e, hkv, rfl, I.hok.fresh (Nat.le_refl _), rfl⟩, ⟨.ref e.2.1, en.val, ?_⟩, fun b hb => ?_⟩
    · rw [← hsz]; exact he'
    · have e : b = it := by simpa using hb
      rw [e, upd_ne (Nat.ne_of_lt hlt)]
      exact (hf it (by simp)).1
  done := by
    intro X hP hw hK hc i pins s σ H E I hf st hg
    subst hP hw hK
    obtain ⟨hd, hi⟩ := hg
    obtain ⟨f0, f1, f2, f3, f4, f5⟩ := hf it (by simp)
    obtain ⟨hs, hgd, hx, es', ep', hdt, hsz, ent⟩ := frzNV I hd
    obtain ⟨rfl, rfl⟩ := dict_ep hod hdt
    obtain ⟨ok, ov, he⟩ := st
    rw [← hsz] at he
    have raw : s.heap.DictRaw d es' ep' := ⟨o, hgd, hx, hdt⟩
    exact wpAny_pyNext_items_end_raw (I.ok.hd hc) he raw (by omega) fun h' eb => ⟨rfl, I.turned (t' := s.toks) (fun b ob hb e => eb b ob hb e) f0 f1 f3 f4 f5⟩
  self := fun A i s Q E st h => let ⟨_, _, e⟩ := st; PySem.W.kcp_self e h
/-- the dict is locked -/
def iItemsN (P : Program) (w : World) (td : TE) : TI := fun σ H R => td σ H fun x H1 => ∃ d o kvs, x = .ref d ∧ H1 d = some (.frz o (DNo P w kvs d)) ∧ R (ItiN P w d o kvs) H1
section
variable {X : Cx} {e : Expr} {td : TE} {apos cpos : Pos} {elts : List Expr} {kk : Nat} {tpos : Pos}
theorem pi_itemsN (he : PE X e td) (hbase : attributeBase e "items" X.env (eval e X.env) = eval e X.env := by rfl) (hline : (apos.endLine == cpos.line) = true := by rfl) :
    PI X (.Tuple elts kk tpos) (.Call (.Attribute e "items" apos) [] [] cpos) (iItemsN X.prog X.w td) := by
  refine ⟨fun pins s σ H R I h => ?_⟩
  refine wpAny_Call_method (T := "dict") (id := "dict.items") hbase rfl hline F.plainAttrs_dict F.slot_dict_items F.type_dict_items (thn (he.run pins s σ H _ I h) fun u s1 ⟨x, H1, I1, rx, d, o, kvs, ex, hd, q⟩ => ?_)
  subst ex
  obtain rfl : u = Value.ref d := rx
  obtain ⟨hs, hgd, hx, es, ep, hdt, hsz, ent⟩ := frzNV I1 hd
  have raw : s1.heap.DictRaw d es ep := ⟨o, hgd, hx, hdt⟩
  refine ⟨raw.typeIs, fun b q => ?_, ?_⟩
  · cases q
    exact ⟨o, hgd, hx.2.1⟩
  have I2 : Inv X pins σ H1 { s1 with heap := s1.heap.push { cls := .type "dict_items", data := .fields #[.ref d] } } := I1.kept (t' := s1.toks) fun b ob q => Heap.get?_push_of_some _ q
  have raw2 : (s1.heap.push { cls := .type "dict_items", data := .fields #[.ref d] }).DictRaw d es ep := ⟨o, Heap.get?_push_of_some _ hgd, hx, hdt⟩
  have fin : wpAny (model X.prog X.w) X.A (pyIter (.ref s1.heap.objs.size)) (PIE X pins σ (.Tuple elts kk tpos) R) X.xe { s1 with heap := s1.heap.push { cls := .type "dict_items", data := .fields #[.ref d] } } := by
    refine wpAny_pyIter_items_raw (d := d) ⟨_, Heap.get?_push_size _ rfl, rfl, rfl⟩ raw2 (pi_one (tk := s1.toks) I2 _ (turn_itemsN _ hdt) ⟨.none, .none, ?_⟩ q)
    rw [← hsz]
    exact Heap.get?_push_size _ rfl
  show wpAny _ _ (callWith cpos (.builtin "dict.items") [.ref d] [] []) _ X.xe s1
  exact method_meetsIn F.slot_dict_items F.entry_dict_items rfl (PySem.evalArgs_none ⟨rfl, raw.typeIs, F.args_dict_items_1 _, _, meets_dict_items_raw d hs, ⟨es, ep, raw⟩, fin⟩)
theorem pi_itemsNP {P : Program} {w : World} (hP : X.prog = P) (hw : X.w = w) (he : PE X e td) (hbase : attributeBase e "items" X.env (eval e X.env) = eval e X.env := by rfl) (hline : (apos.endLine == cpos.line) = true := by rfl) :
    PI X (.Tuple elts kk tpos) (.Call (.Attribute e "items" apos) [] [] cpos) (iItemsN P w td) := by
  subst hP hw
  exact pi_itemsN he hbase hline
theorem walk_itemsN {P : Program} {w : World} {d : Addr} {o : Obj} {kvs : List DnE} : Walk (ItiN P w d o kvs) kvs.length (fun H => H d = some (.frz o (DNo P w kvs d))) (fun i H x H' => ∃ (T : Addr) (e : DnE), kvs[i]? = some e ∧ x = .ref T ∧ H T = none ∧ H' = upd H T (.tup [.ref e.2.1, e.2.2])) :=
  ⟨fun _ _ hi q => ⟨q, hi⟩, fun _ q => ⟨q, Nat.le_refl _⟩, fun _ _ _ _ _ _ y => y⟩
end
/-! a store into such a dict, for comprehensions -/
def STn (P : Program) (w : World) : Addr → V → V → Hp → (Hp → Prop) → Prop := fun D y z H R => ∃ (b : Addr) (ks : NestedKey) (kvs : List DnE), y = .ref b ∧ NKey H b ks ∧ H D = some (DNo P w kvs D) ∧ NKeysAt H kvs ∧ kvs.length < sizeLine ∧ R (upd H D (DNo P w (dnPut kvs ks b z) D))
theorem store_n {P : Program} {w : World} {A : Around} (hu : A.units + 64 < cLine) : Store P w A (DNo P w []) (STn P w) where
  new := fun H h hb => dn_empty h hb
  put := by
    intro X pins σ H s D y z u r R Q E hP hw I ry rz h k
    subst hP hw
    obtain ⟨b, ks, kvs, rfl, kb, hd, ka, hl, q⟩ := h
    obtain rfl : u = Value.ref b := ry
    obtain ⟨zz, hsm, xs, rr, m⟩ := dn_of I.hok (.inl hd) ka
    have hz : xs.length ≤ sizeLine := by rw [← Paired.length rr]; exact zz
    have hl2 : (dnPut kvs ks b z).length ≤ sizeLine := by have := dnPut_len kvs ks b z; omega
    refine wpAny_dictSet_heap (hsz := hz) (knd := nestedKind X.prog X.w) (show A.units + 8 < cLine by omega) (nkey_is I.hok kb) m fun h' m' hsb => k _ _ ?_ q
    have he : ∃ q, h'.get? D = some q := let ⟨q, _, _, hq, _⟩ := m'; ⟨q, hq⟩
    exact d_write I (by rw [hd]; exact True.intro) hsb he (dn_new hl2 hsm (dn_put rr ks b rz) m')
end S
namespace S
open PySem PySem.Spec PyProof.Rows L2
/-! isinstance of a dict with tuple keys; its clear() -/
section
variable {X : Cx} {P : Program} {w : World} {K : Frag}
def rIsiN (P : Program) (w : World) (K : Frag) : List V → Hp → VK → Prop := fun xs H Q => ∃ (d : Addr) (c : V) (u : Value) (b : Bool) (kvs : List DnE), xs = [.ref d, c] ∧ ClsV c u ∧ H d = some (DNo P w kvs d) ∧ PySem.W.kitOne K (.type "dict") u = some b ∧ Q (.bl b) H
theorem isiNK (hK : X.K = K) (hP : X.prog = P) (hw : X.w = w) : CallR X (.builtin "isinstance") (rIsiN P w K) := by
  subst hK hP hw
  intro pins s σ H xs us Q I r h
  obtain ⟨d, c, u, b, kvs, rfl, k, hd, e, q⟩ := h
  obtain ⟨u1, u2, rfl, r1, r2⟩ := vals2 r
  have e2 := k.eq r2
  subst e2
  cases (show u1 = Value.ref d from r1)
  obtain ⟨⟨z, y, xs, rr, o, es, ep, h1, h2, _⟩, _⟩ := (show ObjOk X.prog X.w H s.heap d (DNo X.prog X.w kvs d) from I.hok d _ hd)
  exact PySem.W.kia_one PySem.W.kitx_dict I.kIn ⟨o, h1, h2.1⟩ e (fun z => nomatch z) fun tk => ⟨.bl b, H, I.tok tk, rfl, q⟩
theorem isiN2 (hK : X.K = K) (hP : X.prog = P) (hw : X.w = w) : CallR X (.builtin "isinstance") (fun xs H Q => rIsi K xs H Q ∨ rIsiN P w K xs H Q) := call_or (isiK hK) (isiNK hK hP hw)
def tClearN (P : Program) (w : World) (to : TE) : TE := fun σ H Q => to σ H fun x H1 => ∃ (d : Addr) (kvs : List DnE), x = .ref d ∧ H1 d = some (DNo P w kvs d) ∧ NKeysAt H1 kvs ∧ Q .non (upd H1 d (DNo P w [] d))
theorem pe_clearN {o : Expr} {to : TE} {apos cpos : Pos} (hP : X.prog = P) (hw : X.w = w) (ho : PE X o to) (hbase : attributeBase o "clear" X.env (eval o X.env) = eval o X.env := by rfl) (hline : (apos.endLine == cpos.line) = true := by rfl) :
    PE X (.Call (.Attribute o "clear" apos) [] [] cpos) (tClearN P w to) := by
  subst hP hw
  refine ⟨fun pins s σ H Q I h => ?_⟩
  refine wpAny_Call_method0_late hbase hline (thn (ho.run pins s σ H _ I h) fun v s1 ⟨x, H1, I1, r1, d, kvs, ex, hd, ka, q1⟩ => ?_)
  subst ex
  obtain rfl : v = Value.ref d := r1
  obtain ⟨z, hsm, xs, rr, m⟩ := dn_of I1.hok (.inl hd) ka
  refine ⟨"dict", "dict.clear", PySem.F.plainAttrs_dict, PySem.F.slot_dict_clear, PySem.F.type_dict_clear, m.typeIs, fun a q => ?_, Calls.callWith_builtin rfl (PySem.evalArgs_none ?_)⟩
  · cases q
    obtain ⟨ob, _, _, h1, h2, _⟩ := m
    exact ⟨ob, h1, h2.2.1⟩
  refine PySem.clear_keyed (knd := nestedKind X.prog X.w) ⟨xs, m, rfl⟩ (fun h' hk' hs' => ?_) (by rw [PySem.pairsH_length, ← Paired.length rr]; exact z)
  obtain ⟨ys, hy, ey⟩ := hk'
  have e0 : ys = [] := by
    have := congrArg List.length ey
    rw [PySem.pairsH_length] at this
    exact List.eq_nil_of_length_eq_zero this
  subst e0
  refine ⟨.non, _, ?_, rfl, q1⟩
  have he : ∃ q, h'.get? d = some q := let ⟨q, _, _, hq, _⟩ := hy; ⟨q, hq⟩
  exact d_write (t' := s1.toks) I1 (by rw [hd]; exact True.intro) hs' he (dn_new (Nat.zero_le _) hsm .nil hy)
end
end S
namespace S
open PySem PySem.Spec PyProof.Rows L2
/-! two rules for one node; min and max of a list -/
section
variable {X : Cx} {K : Frag}
def tEor (a b : TE) : TE := fun σ H Q => a σ H Q ∨ b σ H Q
def tTor (a b : TT) : TT := fun σ H Q => a σ H Q ∨ b σ H Q
def tSor (a b : TS) : TS := fun D σ H => a D σ H ∨ b D σ H
theorem pe_or2 {e : Expr} {a b : TE} (h1 : PE X e a) (h2 : PE X e b) : PE X e (tEor a b) := ⟨fun pins s σ H Q I h => h.elim (h1.run pins s σ H Q I) (h2.run pins s σ H Q I)⟩
theorem pt_or2 {e : Expr} {a b : TT} (h1 : PT X e a) (h2 : PT X e b) : PT X e (tTor a b) := ⟨fun pins s σ H Q I h => h.elim (h1.run pins s σ H Q I) (h2.run pins s σ H Q I)⟩
theorem ps_or2 {st : Stmt} {a b : TS} (h1 : PS X st a) (h2 : PS X st b) : PS X st (tSor a b) := ⟨fun pins s σ H D I h => h.elim (h1.run pins s σ H D I) (h2.run pins s σ H D I)⟩
theorem minK (hK : X.K = K) (hc : X.calm = true) : CallR X (.builtin "min") (rMin K) := hK ▸ cr_min hc
theorem maxK (hK : X.K = K) (hc : X.calm = true) : CallR X (.builtin "max") (rMax K) := hK ▸ cr_max hc
theorem boot_min : bootBuiltins "min" = some (.builtin "min") := by decide +kernel
theorem boot_max : bootBuiltins "max" = some (.builtin "max") := by decide +kernel
end
end S
namespace S
open PySem PySem.Spec PyProof.Rows L2
/-! name = {..} for a dict of any kind -/
theorem dcS_core {X : Cx} {pins : List (Addr × Obj)} {s : Shared} {σ : L2.St} {H : Hp} {Q : VK} {pos' : Pos} {use : Option (Value → Sem Unit)} {Qf : Value → Shared → Prop} {kx vx tg iter : Expr} {ifs : List Expr} {scope : Scope} {own : List (Str × Nat)} {pos : Pos} {wi : TI} {g : TG} {tt : TT} {tk tv : TE} {o0 : Addr → HO} {ST : Addr → V → V → Hp → (Hp → Prop) → Prop} (B : Store X.prog X.w X.A o0 ST)
    (hc : X.calm = true) (hN : X.N.Nodup) (hi : PI X tg iter wi) (ok : BlkOk X.N X.env.scope scope own)
    (hg : ∀ (s : Shared) (H : Hp) (C : Addr) (cl : List (Str × Addr)) (fp : List Addr), PG (X.blk s H scope (compEnvC scope cl C X.env) fp) tg g)
    (ht : ∀ (s : Shared) (H : Hp) (C : Addr) (cl : List (Str × Addr)) (fp : List Addr), PTs (X.blk s H scope (compEnvC scope cl C X.env) fp) ifs tt)
    (hk : ∀ (s : Shared) (H : Hp) (C : Addr) (cl : List (Str × Addr)) (fp : List Addr), PE (X.blk s H scope (compEnvC scope cl C X.env) fp) kx tk)
    (he : ∀ (s : Shared) (H : Hp) (C : Addr) (cl : List (Str × Addr)) (fp : List Addr), PE (X.blk s H scope (compEnvC scope cl C X.env) fp) vx tv) (hs : ∀ x, foldedSetIterable iter X.env x = pure x)
    (h : tDcS o0 ST wi g tt tk tv (own.map (·.2)) σ H Q) (I : Inv X pins σ H s)
    (hRR : ∀ D C s' m H', Inv X pins σ H' s' → Q (.ref D) H' → s'.heap.Ns C m → FpOk X pins H' C → compPost (model X.prog X.w) X.A X.xe use Qf (.ref D) C (.ok .next) s') :
    wpAny (model X.prog X.w) X.A (comprehension (.DictComp kx vx [⟨tg, iter, ifs, 0⟩] scope pos) scope X.env pos' newDict false (eval iter X.env) use) Qf X.xe s := by
  have clo : ∀ y ∈ scope.names, y.2 = .free → ∃ c, X.env.cells.lookup y.1 = some c := fun y hy e =>
    (ok.free y hy e).elim (fun k => I.ok.has _ (.inl k)) fun k => I.ok.has _ (.inr k)
  refine wpAny_comprehension_free (use := use) rfl hs (closure_ok clo) ok.kind (fun y hy e => by rw [ok.uniq y hy, e]) (thn (hi.run pins s σ H _ I h) fun _ s1 hx => thn hx fun _ s2 h2 => ?_)
  obtain ⟨it, fp, tn, J, H2, rfl, I2, T, t2, f2, q⟩ := h2
  refine wpAny_newObj_type (newEnv_comp ?_)
  generalize hD : s2.heap.objs.size = D
  obtain ⟨W, ⟨m0, w0⟩, turn⟩ := q D (I2.hok.fresh (Nat.le_of_eq hD))
  -- behind the new dict
  generalize hs3 : ({ s2 with heap := s2.heap.push { cls := .type "dict", data := .dict #[] } } : Shared) = s3
  have h3 : s3.heap = s2.heap.push { cls := .type "dict", data := .dict #[] } := by rw [← hs3]
  have keep3 : ∀ b o, s2.heap.get? b = some o → s3.heap.get? b = some o := fun b o e => by rw [h3]; exact Heap.get?_push_of_some _ e
  have I3 : Inv X pins σ (upd H2 D (o0 D)) s3 := by
    subst hD hs3
    exact I2.laid (t' := s2.toks) (fun b o e => Heap.get?_push_of_some _ e) (Nat.le_refl _) (B.new _ _ I2.big)
  have f3 : ∀ b ∈ fp, FpOk X pins (upd H2 D (o0 D)) b ∧ b < s3.heap.objs.size := fun b hb => by
    obtain ⟨o, e, _⟩ := T.obj _ _ t2 b hb
    have lt := Heap.lt_size e
    exact ⟨⟨by rw [upd_ne (by rw [← hD]; exact Nat.ne_of_lt lt)]; exact (f2 b hb).1, (f2 b hb).2⟩, by rw [h3, Heap.size_push]; exact Nat.lt_succ_of_lt lt⟩
  have I4 := block_start I3 ok hN f3
  show codeAny _ _ (.compStart _ 0 (.ref it) (.ref D) (compEnvC scope (cellsFrom (s3.heap.objs.size + 1) scope.names (cloFrom X.env.cells scope.names [])) s3.heap.objs.size X.env)) _ { s3 with heap := pushCells (s3.heap.push { cls := .type "dict", data := .dict #[] }) scope.names }
  generalize hH3 : upd H2 D (o0 D) = H3 at I3 f3 I4 w0
  generalize hcl : cellsFrom (s3.heap.objs.size + 1) scope.names (cloFrom X.env.cells scope.names []) = cl at I4 ⊢
  have pg := hg s3 H3 s3.heap.objs.size cl fp
  have pt := ht s3 H3 s3.heap.objs.size cl fp
  have pk := hk s3 H3 s3.heap.objs.size cl fp
  have pe := he s3 H3 s3.heap.objs.size cl fp
  have cL : (compEnvC scope cl s3.heap.objs.size X.env).locals = s3.heap.objs.size := rfl
  generalize compEnvC scope cl s3.heap.objs.size X.env = ce at I4 pg pt pk pe cL ⊢
  generalize hs4 : ({ s3 with heap := pushCells (s3.heap.push { cls := .type "dict", data := .dict #[] }) scope.names } : Shared) = s4 at I4 ⊢
  have t4 : tn 0 s4.heap := T.keep _ _ _ t2 fun b _ o e => by rw [← hs4]; exact pushCells_keeps _ _ _ _ (Heap.get?_push_of_some _ (keep3 b o e))
  -- the iterator's own objects, in the block
  have own_ : ∀ {σ' : L2.St} {H' : Hp} {s' : Shared}, Inv (X.blk s3 H3 scope ce fp) [] σ' H' s' → (∀ b ∈ fp, H' b = none) → ∀ b ∈ fp, FpOk (X.blk s3 H3 scope ce fp) [] H' b := fun I' hn b hb =>
    ⟨hn b hb, (I'.ok.exf b hb).1, I'.ok.exfs b hb, .inl hb, fun x c e => (I'.ok.exf b hb).2 x c e, fun p hp => absurd (show p ∈ ([] : List (Addr × Obj)) ++ [] from hp) (by simp)⟩
  let In : Nat → Shared → Prop := fun n s' => ∃ i H', Inv (X.blk s3 H3 scope ce fp) [] (wipe σ (own.map (·.2))) H' s' ∧ tn i s'.heap ∧ (∀ b ∈ fp, H' b = none) ∧ W i n H'
  have loop := compLoop_anyD (prog := X.prog) (w := X.w) (A := X.A) (R := compPost (model X.prog X.w) X.A X.xe use Qf (.ref D) s3.heap.objs.size) (kx := kx) (vx := vx) (target := tg) (iter := iter) (ifs := ifs) (scope := scope) (pos := pos) (it := .ref it) (D := D) (env := ce) In ?turn m0 ⟨0, H3, I4, t4, fun b hb => (f3 b hb).1.1, w0⟩ (s := s4)
  case turn =>
    rintro n s5 ⟨i, H5, I5, t5, n5, w5⟩
    rcases turn i n H5 w5 with ⟨st, qq⟩ | ⟨go, Nx, hNx, step⟩
    · refine thnF (T.done (X.blk s3 H3 scope ce fp) rfl rfl rfl hc i [] s5 _ H5 (fun _ _ => False) I5 (own_ I5 n5) t5 st) fun _ s6 ⟨hr, I6⟩ => ?_
      subst hr
      obtain ⟨m, hn, _⟩ := I6.loc
      have free : H5 ce.locals = none := I6.free
      rw [cL] at free
      have hn' : s6.heap.Ns ce.locals m := hn
      rw [cL] at hn'
      refine hRR D s3.heap.objs.size s6 m H5 (I3.call' (ch := fp) I6.os I6.base I6.hok I6.bare fun b hb => ?_) qq hn' (I3.fpOk (Nat.le_refl _) free)
      obtain ⟨_, g1, g2, g3, g4, g5⟩ := (f3 b hb).1
      exact ⟨g3, g1, g4, g5⟩
    · refine thnF (T.item (X.blk s3 H3 scope ce fp) rfl rfl rfl hc i [] s5 _ H5 (fun _ _ => False) I5 (own_ I5 n5) t5 go) fun _ s6 ⟨u, hr, h6⟩ => ?_
      subst hr
      refine thnF h6 fun _ s7 ⟨x, H7, I7, r7, y7, t7, n7⟩ => ?_
      have back : ∀ {σ8 : L2.St} {s' : Shared} {H' : Hp}, wipe σ8 (own.map (·.2)) = wipe σ (own.map (·.2)) → Inv (X.blk s3 H3 scope ce fp) ([] ++ pinsAt fp s7.heap) σ8 H' s' → Nx H' → ∃ m, m < n ∧ In m s' := fun {σ8 s' H'} hw I' nx => by
        obtain ⟨m', hm, w'⟩ := hNx H' nx
        have pin : ∀ b ∈ fp, ∀ o, s7.heap.get? b = some o → s'.heap.get? b = some o ∧ H' b = none := fun b hb o e =>
          let z := I'.pin (b, o) (List.mem_append_right _ (List.mem_append_right _ (mem_pinsAt hb e)))
          ⟨z.1, z.2.1⟩
        refine ⟨m', hm, i + 1, H', (I'.unpinned (pins := [])).weak (by rw [← hw, wipe_length]) (fun j v e => ?_), T.keep _ _ _ t7 fun b hb o e => (pin b hb o e).1, fun b hb => ?_, w'⟩
        · rw [← hw] at e
          exact (wipe_some e).1
        · obtain ⟨o, e, _⟩ := T.obj _ _ t7 b hb
          exact (pin b hb o e).2
      refine thnF (pg.run _ s7 _ H7 x u _ (I7.pinned (own_ I7 n7) (T.obj _ _ t7)) r7 (step x H7 y7)) fun _ s8 ⟨σ8, H8, I8, hw8, q8⟩ => ?_
      refine thnF (pt.run _ s8 σ8 H8 _ I8 q8) fun b s9 ⟨H9, I9, q9⟩ => ?_
      cases b with
      | false => exact back hw8 I9 q9
      | true => exact thnF (pk.run _ s9 σ8 H9 _ I9 q9) fun _ s10 ⟨yk, H10, I10, r10, q10⟩ => thnF (pe.run _ s10 σ8 H10 _ I10 q10) fun _ s11 ⟨yv, H11, I11, r11, q11⟩ => B.put (X := X.blk s3 H3 scope ce fp) rfl rfl I11 r10 r11 q11 fun s12 H12 I12 nx => back hw8 I12 nx
  exact codeAny_compStart_dict loop (T.self X.A 0 _ _ _ t4 loop)
section
variable {X : Cx}
theorem ps_setDcS {o0 : Addr → HO} {ST : Addr → V → V → Hp → (Hp → Prop) → Prop} {i : Nat} {y : Str} {py : Pos} {kx vx tg iter : Expr} {ifs : List Expr} {scope : Scope} {own : List (Str × Nat)} {pos spos : Pos} {wi : TI} {g : TG} {tt : TT} {tk tv : TE} (B : Store X.prog X.w X.A o0 ST) (hc : X.calm = true) (hN : X.N.Nodup) (hy : X.N[i]? = some y) (hyl : X.env.scope.names.lookup y = some .local)
    (hsw : swapsWith (.DictComp kx vx [⟨tg, iter, ifs, 0⟩] scope pos) (some (.Name y py)) spos.line X.env = pure true) (hi : PI X tg iter wi) (ok : BlkOk X.N X.env.scope scope own)
    (hg : ∀ (s : Shared) (H : Hp) (C : Addr) (cl : List (Str × Addr)) (fp : List Addr), PG (X.blk s H scope (compEnvC scope cl C X.env) fp) tg g) (ht : ∀ (s : Shared) (H : Hp) (C : Addr) (cl : List (Str × Addr)) (fp : List Addr), PTs (X.blk s H scope (compEnvC scope cl C X.env) fp) ifs tt)
    (hk : ∀ (s : Shared) (H : Hp) (C : Addr) (cl : List (Str × Addr)) (fp : List Addr), PE (X.blk s H scope (compEnvC scope cl C X.env) fp) kx tk)
    (he : ∀ (s : Shared) (H : Hp) (C : Addr) (cl : List (Str × Addr)) (fp : List Addr), PE (X.blk s H scope (compEnvC scope cl C X.env) fp) vx tv) (hs : ∀ x, foldedSetIterable iter X.env x = pure x := by intro _; rfl) :
    PS X (.Assign [.Name y py] (.DictComp kx vx [⟨tg, iter, ifs, 0⟩] scope pos) spos) (tAsg (tDcS o0 ST wi g tt tk tv (own.map (·.2))) (gName i)) := by
  refine ⟨fun pins s σ H D I h => ?_⟩
  rw [exec_Assign_Name_used _ _ _ _ hsw]
  refine wpAny_bind (wpAny_standAt (wpAny_bind ?_))
  show wpAny _ X.A (do let _ ← comprehension (.DictComp kx vx [⟨tg, iter, ifs, 0⟩] scope pos) scope X.env (firstIterPos [⟨tg, iter, ifs, 0⟩] pos) newDict false (eval iter X.env) (some (assign (.Name y py) X.env))) _ _ s
  have h : tDcS o0 ST wi g tt tk tv (own.map (·.2)) σ H (fun x H1 => gName i x σ H1 D.nx) := h
  refine wpAny_bind (thn (dcS_core (Qf := fun _ s' => SP X pins D .next s') B hc hN hi ok hg ht hk he hs h I fun L C s' m H' I' q hn f => ?_) fun _ s' hq => wpAny_pure (wpAny_pure hq))
  show wpAny _ _ (assign (.Name y py) X.env (.ref L)) _ _ _
  obtain ⟨f0, f1, f2, f3, f4, f5⟩ := f
  refine wpAny_assign_Name (store_ok2 (v := V.ref L) I' hN hy (.inl hyl) rfl (fun s2 I2 ⟨a, sb, ha⟩ => ?_) (.inr hyl))
  have haC : C ≠ a := ha.elim (fun z => by rw [z]; exact f1) fun z e => f4 y a z e.symm
  exact ⟨m, hn.sameBut sb haC, fun h3 sb3 => ⟨_, H', I2.turned (t' := s2.toks) (fun b o hb e => (sb3.2 b hb).trans e) f0 f1 f3 f4 f5, q⟩⟩
end
end S
namespace S
open PySem PySem.Spec PyProof.Rows L2 GenW
/-! for and if with a yield in their bodies -/
section
variable {prog : Program} {w : World} {A : Around} {R : GenEnd} {Y : Protocol} {n : Nat} {s₀ : Shared} {fs : List Frame} {s : Shared} {env : Env}
abbrev notes (env : Env) (x : Value) : Sem PySem.Fin := (do noteFrame x env; theTreesLotGoes x : Sem Unit).wrap (fun _ => .raise x) .raise id id
theorem seg_forLoop {target : Expr} {it : Value} {body : List Stmt}
    (h : wpAny (model prog w) (A.over (.forLoop target it body [] env) fs) (pyNext it) (fun r s' => match r with
        | none => Seg (model prog w) A R Y n s₀ (.block [] env) ((model prog w).den (.block [] env)) fs s'
        | some v => wpAny (model prog w) (A.over (.forLoop target it body [] env) fs) (letOwnedTupleGo target it v) (fun _ s1 =>
            wpAny (model prog w) (A.over (.forLoop target it body [] env) fs) (assign target env v) (fun _ s2 =>
              Seg (model prog w) A R Y n s₀ (.forLoop target it body [] env) ((execs body env).wrap (fun f => match f with
                | .next | .cont => .pure (.again (.forLoop target it body [] env))
                | .brk => .pure (.done .next)
                | .ret v => .pure (.done (.ret v))) (notes env) id id) fs s2)
              (fun x s' => Seg (model prog w) A R Y n s₀ (.forLoop target it body [] env) (notes env x) fs s') s1)
            (fun x s' => Seg (model prog w) A R Y n s₀ (.forLoop target it body [] env) (notes env x) fs s') s')
      (fun x s' => Seg (model prog w) A R Y n s₀ (.forLoop target it body [] env) (notes env x) fs s') s) :
    Seg (model prog w) A R Y n s₀ (.forLoop target it body [] env) ((model prog w).den (.forLoop target it body [] env)) fs s := by
  have hn : ∀ x, (do noteFrame x env; theTreesLotGoes x : Sem Unit).bind (fun _ => (.raise x : Sem PySem.Fin)) = notes env x := fun x => by
    first | exact Sem.bind_eq_wrap _ _ | (rw [Sem.bind_eq_wrap])
  show Seg _ A R Y n s₀ _ ((forTurn target it body [] env).onRaise (fun x => do noteFrame x env; theTreesLotGoes x)) fs s
  unfold forTurn
  rw [Sem.onRaise_eq_wrap]
  refine seg_bind_wrap (wpAny_standAt ?_)
  refine seg_bind_wrap (wpAny_onRaise (wpAny_mono h (fun r s' hr => ?_) fun x s' hx => wpAny_standAt ?_))
  · cases r with
    | none =>
      show Seg _ A R Y n s₀ _ (.pure (.again (.block [] env))) fs s'
      exact seg_again rfl hr
    | some v =>
      show Seg _ A R Y n s₀ _ ((letOwnedTupleGo target it v >>= fun _ => assign target env v >>= fun _ => execs body env >>= fun f => match f with
          | Flow.next => again (Code.forLoop target it body [] env)
          | Flow.cont => again (Code.forLoop target it body [] env)
          | Flow.brk => pure (Fin.done Flow.next)
          | Flow.ret v => pure (Fin.done (Flow.ret v)) : Sem PySem.Fin).wrap Sem.pure _ id id) fs s'
      refine seg_bind_wrap (wpAny_mono hr (fun _ s1 h1 => ?_) fun x s' hx => by rw [hn]; exact hx)
      refine seg_bind_wrap (wpAny_mono h1 (fun _ s2 h2 => ?_) fun x s' hx => by rw [hn]; exact hx)
      rw [Sem.bind_eq_wrap', Sem.wrap_wrap]
      rw [Sem.wrap_congr (execs body env) _ _ (K' := fun f => match f with
            | .next | .cont => .pure (.again (.forLoop target it body [] env))
            | .brk => .pure (.done .next)
            | .ret v => .pure (.done (.ret v))) (H' := notes env)
        (fun f => by cases f <;> rfl) (fun e => by exact hn e)]
      exact h2
  · rw [hn]
    exact hx
/-- a loop's own code, called -/
theorem seg_runOwn {M : Model} {c c' : Code} {K : Flow → Sem PySem.Fin} {H : Value → Sem PySem.Fin} {gd : Bool → Bool} {lv : List Value → List Value}
    (h : ∀ p, Seg M A R Y n s₀ c' (M.den c') (.ret (fun r => ((match r with | .ok f => (.pure f : Sem Flow) | .error e => .raise e).onRaise (cameBack env)).wrap K H gd lv) none (gd false) (lv []) c p [] :: fs) s) :
    Seg M A R Y n s₀ c ((runOwn c' env).wrap K H gd lv) fs s := seg_call h
theorem seg_For {M : Model} {c : Code} {K : Flow → Sem PySem.Fin} {H : Value → Sem PySem.Fin} {gd : Bool → Bool} {lv : List Value → List Value} {target iter : Expr} {body : List Stmt} {pos : Pos}
    (hs : ∀ x, foldedSetIterable iter env x = pure x)
    (h : wpAny M (A.over c fs) (eval iter env) (fun x s1 => wpAny M (A.over c fs) (pyIter x) (fun it s2 =>
      ∀ p, Seg M A R Y n s₀ (.forLoop target it body [] env) (M.den (.forLoop target it body [] env)) (.ret (fun r => ((match r with | .ok f => (.pure f : Sem Flow) | .error e => .raise e).onRaise (cameBack env)).wrap K H gd lv) none (gd false) (lv []) c p [] :: fs) s2)
      (fun x s' => Seg M A R Y n s₀ c (H x) fs s') s1) (fun x s' => Seg M A R Y n s₀ c (H x) fs s') s) :
    Seg M A R Y n s₀ c ((exec (.For target iter body [] pos) env).wrap K H gd lv) fs s := by
  rw [exec_For]
  refine seg_bind_wrap (wpAny_standAt ?_)
  refine seg_bind_wrap (wpAny_mono h (fun x s1 h1 => ?_) fun _ _ hx => hx)
  refine seg_bind_wrap (wpAny_of_eq (hs x) ?_)
  refine seg_bind_wrap (wpAny_standAt ?_)
  refine seg_bind_wrap (wpAny_holding (wpAny_mono h1 (fun it s2 h2 => ?_) fun _ _ hx => hx))
  exact seg_runOwn h2
end
section
variable {X : Cx}
def tGFor (wi : TI) (g : TG) (tb : TGn) : TGn := fun D ys σ H => wi σ H fun J H1 => ∃ W : Nat → Nat → List V → L2.St → Hp → Prop, (∃ m, W 0 m ys σ H1) ∧ ∀ i m ys σ H, W i m ys σ H →
  (J.stop i H ∧ D.nx ys σ H) ∨ (J.go i H ∧ ∃ N : List V → L2.St → Hp → Prop, (∀ ys' σ' H', N ys' σ' H' → ∃ m', m' < m ∧ W (i + 1) m' ys' σ' H') ∧ ∀ x H', J.yld i H x H' → g x σ H' fun σ2 H2 => tb { D with nx := N, ct := N, bk := D.nx } ys σ2 H2)
theorem gs_for {tg iter : Expr} {body : List Stmt} {wi : TI} {g : TG} {tb : TGn} {pos : Pos} (hp : PassesOwn (model X.prog X.w) X.A X.env X.xe) (hc : X.calm = true) (hi : PI X tg iter wi) (hg : PG X tg g) (hb : GSs X body tb)
    (hs : ∀ x, foldedSetIterable iter X.env x = pure x := by intro _; rfl) : GS X (.For tg iter body [] pos) (tGFor wi g tb) := by
  refine ⟨fun A S ip R n ys s₀ c fs K J gd lv s σ H D g0 hn k hI ht => ?_⟩
  obtain ⟨acc0, cc0, r0, I0⟩ := hI
  refine seg_For hs ?_
  rw [g0.over]
  refine wpAny_mono (hi.run _ s σ H _ I0 ht) (fun v s1 h1 => wpAny_mono h1 (fun itv s2 h2 => ?_) fun x s' hx => k.exc n s₀ x s' hx) fun x s' hx => k.exc n s₀ x s' hx
  obtain ⟨it, fp, tn, Jt, H2, e, I2, T, st2, f2, W, ⟨m0, w0⟩, turn⟩ := h2
  subst e
  intro p
  have stat : ∀ {H' : Hp} {acc : Array Value} {cc : Nat}, (∀ b ∈ fp, H' b = none) → ∀ b ∈ fp, FpOk X ((S, lstObj acc cc) :: ip) H' b := fun hn b hb => by
    obtain ⟨q1, q2, q3, q4, q5, q6⟩ := f2 b hb
    refine ⟨hn b hb, q2, q3, q4, q5, fun p hp => ?_⟩
    rcases List.mem_append.mp hp with hp | hp
    · exact q6 p (List.mem_append_left _ hp)
    · rcases List.mem_cons.mp hp with hp | hp
      · rw [hp]
        exact q6 (S, lstObj acc0 cc0) (List.mem_append_right _ List.mem_cons_self)
      · exact q6 p (List.mem_append_right _ (List.mem_cons_of_mem _ hp))
  have nS : ∀ b ∈ fp, b ≠ S := fun b hb e => by
    obtain ⟨_, _, _, _, _, q6⟩ := f2 b hb
    exact q6 (S, lstObj acc0 cc0) (List.mem_append_right _ List.mem_cons_self) e.symm
  have gl := fun (kk : Result → Sem PySem.Fin) => gc_loop (k := kk) (c' := .forLoop tg (.ref it) body [] X.env) (l := lv []) (kp := []) (p := p) g0 rfl rfl
  have loop : ∀ (m n : Nat) (i : Nat) (ys : List V) (s₀ s : Shared) (σ : L2.St) (H : Hp) (acc : Array Value) (cc : Nat), n + ys.length = sizeLine → W i m ys σ H → Vals ys acc.toList → Inv X ((S, lstObj acc cc) :: ip) σ H s → tn i s.heap → (∀ b ∈ fp, H b = none) →
      Seg (model X.prog X.w) A R (GY X S) n s₀ (.forLoop tg (.ref it) body [] X.env) ((model X.prog X.w).den (.forLoop tg (.ref it) body [] X.env))
        (.ret (fun r => ((match r with | .ok f => (.pure f : Sem Flow) | .error e => .raise e).onRaise (cameBack X.env)).wrap K J gd lv) none (gd false) (lv []) c p [] :: fs) s := by
    intro m
    induction m using Nat.strongRecOn with
    | ind m ih =>
      intro n i ys s₀ s σ H acc cc hn w r I st fr
      have ee : ∀ (n : Nat) (s₀ : Shared) (x : Value) (s' : Shared), X.xe x s' → Seg (model X.prog X.w) A R (GY X S) n s₀ (.forLoop tg (.ref it) body [] X.env) (notes X.env x)
          (.ret (fun r => ((match r with | .ok f => (.pure f : Sem Flow) | .error e => .raise e).onRaise (cameBack X.env)).wrap K J gd lv) none (gd false) (lv []) c p [] :: fs) s' := fun n s₀ x s' hx => by
        refine seg_wrap ?_
        rw [(gl _).over]
        refine wpAny_bind (wpAny_mono (hp x s' hx) (fun _ s'' hcb => wpAny_theTreesLotGoes ?_) fun y s'' hcb => ?_)
        · exact seg_leaf (.error x) (seg_cameBack g0 k hcb)
        · exact seg_leaf (.error y) (seg_cameBack g0 k hcb)
      refine seg_forLoop ?_
      rw [(gl _).over]
      rcases turn i m ys σ H w with ⟨stop, qn⟩ | ⟨go, N, hN, step⟩
      · refine wpAny_mono (T.done X rfl rfl rfl hc i _ s σ H X.xe I (stat fr) st stop) (fun r' s4 ⟨hr, I4⟩ => ?_) fun x s' hx => ee n s₀ x s' hx
        subst hr
        show Seg _ _ _ _ _ _ _ ((model X.prog X.w).den (.block [] X.env)) _ _
        show Seg _ _ _ _ _ _ _ (.pure (.done .next)) _ _
        exact seg_leaf (.ok .next) (k.ok n ys s₀ s4 .next hn ⟨σ, H, ⟨acc, cc, r, I4⟩, qn⟩)
      · refine wpAny_mono (T.item X rfl rfl rfl hc i _ s σ H X.xe I (stat fr) st go) (fun r' s4 ⟨u, hr, h4⟩ => ?_) fun x s' hx => ee n s₀ x s' hx
        subst hr
        refine wpAny_mono h4 (fun _ s5 ⟨x, H5, I5, r5, y5, st5, fr5⟩ => ?_) fun x s' hx => ee n s₀ x s' hx
        have I5' := I5.pinned (stat fr5) (T.obj _ _ st5)
        refine wpAny_mono (hg.run _ s5 σ H5 x u _ I5' r5 (step x H5 y5)) (fun _ s6 ⟨σ6, H6, I6, q6⟩ => ?_) fun x s' hx => ee n s₀ x s' hx
        refine hb.run A S (ip ++ pinsAt fp s5.heap) R n ys s₀ _ _ _ _ id id s6 σ6 H6 { D with nx := N, ct := N, bk := D.nx } ⟨g0.pn, fun p hp => ?_, g0.apart, (gl _).over, (gl _).split, (gl _).guard, rfl⟩ hn ⟨fun n' ys' s₀' s3 f hn' hs => ?_, fun n' s₀' x s3 hx => ee n' s₀' x s3 hx⟩ ⟨acc, cc, r, I6⟩ q6
        · rcases List.mem_append.mp hp with hp | hp
          · exact g0.ip p hp
          · exact nS _ (of_pinsAt hp).1
        have again : ∀ {σ7 : L2.St} {H7 : Hp}, GI X S (ip ++ pinsAt fp s5.heap) ys' σ7 H7 s3 → N ys' σ7 H7 → Seg (model X.prog X.w) A R (GY X S) n' s₀' (.forLoop tg (.ref it) body [] X.env) (.pure (.again (.forLoop tg (.ref it) body [] X.env)))
            (.ret (fun r => ((match r with | .ok f => (.pure f : Sem Flow) | .error e => .raise e).onRaise (cameBack X.env)).wrap K J gd lv) none (gd false) (lv []) c p [] :: fs) s3 := fun {σ7 H7} I7 n7 => by
          obtain ⟨acc7, cc7, r7, I7⟩ := I7
          obtain ⟨m', hm, w7⟩ := hN ys' σ7 H7 n7
          have pin7 : ∀ {b : Addr} {o : Obj}, b ∈ fp → s5.heap.get? b = some o → (b, o) ∈ X.pn ++ ((S, lstObj acc7 cc7) :: (ip ++ pinsAt fp s5.heap)) := fun hb e => List.mem_append_right _ (List.mem_cons_of_mem _ (List.mem_append_right _ (mem_pinsAt hb e)))
          have I8 : Inv X (((S, lstObj acc7 cc7) :: ip) ++ pinsAt fp s5.heap) σ7 H7 s3 := I7
          refine seg_again rfl (ih m' hm n' (i + 1) ys' s₀' s3 σ7 H7 acc7 cc7 hn' w7 r7 I8.unpinned (T.keep _ _ _ st5 fun b hb o e => (I7.pin (b, o) (pin7 hb e)).1) fun b hb => ?_)
          obtain ⟨o, e, d⟩ := T.obj _ _ st5 b hb
          exact (I7.pin (b, o) (pin7 hb e)).2.1
        cases f with
        | next =>
          obtain ⟨σ7, H7, I7, n7⟩ := hs
          exact again I7 n7
        | cont =>
          obtain ⟨σ7, H7, I7, n7⟩ := hs
          exact again I7 n7
        | brk =>
          obtain ⟨σ7, H7, ⟨acc7, cc7, r7, I7⟩, q7⟩ := hs
          have I8 : Inv X (((S, lstObj acc7 cc7) :: ip) ++ pinsAt fp s5.heap) σ7 H7 s3 := I7
          exact seg_leaf (.ok .next) (k.ok n' ys' s₀' s3 .next hn' ⟨σ7, H7, ⟨acc7, cc7, r7, I8.unpinned⟩, q7⟩)
        | ret v =>
          obtain ⟨v7, σ7, H7, ⟨acc7, cc7, r7, I7⟩, rv, q7⟩ := hs
          have I8 : Inv X (((S, lstObj acc7 cc7) :: ip) ++ pinsAt fp s5.heap) σ7 H7 s3 := I7
          exact seg_leaf (.ok (.ret v)) (k.ok n' ys' s₀' s3 (.ret v) hn' ⟨v7, σ7, H7, ⟨acc7, cc7, r7, I8.unpinned⟩, rv, q7⟩)
  exact loop m0 n 0 ys s₀ s2 σ H2 acc0 cc0 hn w0 r0 I2 st2 fun b hb => (f2 b hb).1
theorem gfor_list {K : Frag} {a : Addr} {xs : List V} {g : TG} {tb : TGn} {D : GEnds} {ys : List V} {σ : L2.St} {H : Hp} (Pv : Nat → List V → L2.St → Hp → Prop) (h0 : Pv 0 ys σ H) (hl : ∀ i ys σ H, i ≤ xs.length → Pv i ys σ H → SqL K H a xs)
    (hs : ∀ i x ys σ H, xs[i]? = some x → Pv i ys σ H → g x σ H fun σ2 H2 => tb { D with nx := Pv (i + 1), ct := Pv (i + 1), bk := D.nx } ys σ2 H2) (hd : ∀ ys σ H, Pv xs.length ys σ H → D.nx ys σ H) :
    ∃ W : Nat → Nat → List V → L2.St → Hp → Prop, (∃ m, W 0 m ys σ H) ∧ ∀ i m ys σ H, W i m ys σ H →
      ((Itl K a).stop i H ∧ D.nx ys σ H) ∨ ((Itl K a).go i H ∧ ∃ N : List V → L2.St → Hp → Prop, (∀ ys' σ' H', N ys' σ' H' → ∃ m', m' < m ∧ W (i + 1) m' ys' σ' H') ∧ ∀ x H', (Itl K a).yld i H x H' → g x σ H' fun σ2 H2 => tb { D with nx := N, ct := N, bk := D.nx } ys σ2 H2) := by
  refine ⟨fun i m ys σ H => m = xs.length - i ∧ i ≤ xs.length ∧ Pv i ys σ H, ⟨xs.length, by simp, Nat.zero_le _, h0⟩, ?_⟩
  rintro i m ys σ H ⟨rfl, hi, p⟩
  have q := hl i ys σ H hi p
  by_cases hlt : i < xs.length
  · refine .inr ⟨⟨xs, xs[i], q, by simp [hlt]⟩, Pv (i + 1), fun ys' σ' H' p' => ⟨xs.length - (i + 1), by omega, rfl, hlt, p'⟩, fun x H' y => ?_⟩
    obtain ⟨e, y⟩ := y
    subst e
    exact hs i x ys σ _ (y xs q) p
  · have e : i = xs.length := by omega
    subst e
    exact .inl ⟨⟨xs, q, Nat.le_refl _⟩, hd ys σ H p⟩
theorem gfor_range {lo : Int} {n : Nat} {g : TG} {tb : TGn} {D : GEnds} {ys : List V} {σ : L2.St} {H : Hp} (Pv : Nat → List V → L2.St → Hp → Prop) (h0 : Pv 0 ys σ H)
    (hs : ∀ i ys σ H, i < n → Pv i ys σ H → g (.int (lo + i)) σ H fun σ2 H2 => tb { D with nx := Pv (i + 1), ct := Pv (i + 1), bk := D.nx } ys σ2 H2) (hd : ∀ ys σ H, Pv n ys σ H → D.nx ys σ H) :
    ∃ W : Nat → Nat → List V → L2.St → Hp → Prop, (∃ m, W 0 m ys σ H) ∧ ∀ i m ys σ H, W i m ys σ H →
      ((Itr lo n).stop i H ∧ D.nx ys σ H) ∨ ((Itr lo n).go i H ∧ ∃ N : List V → L2.St → Hp → Prop, (∀ ys' σ' H', N ys' σ' H' → ∃ m', m' < m ∧ W (i + 1) m' ys' σ' H') ∧ ∀ x H', (Itr lo n).yld i H x H' → g x σ H' fun σ2 H2 => tb { D with nx := N, ct := N, bk := D.nx } ys σ2 H2) := by
  refine ⟨fun i m ys σ H => m = n - i ∧ i ≤ n ∧ Pv i ys σ H, ⟨n, by simp, Nat.zero_le _, h0⟩, ?_⟩
  rintro i m ys σ H ⟨rfl, hi, p⟩
  by_cases hlt : i < n
  · refine .inr ⟨hlt, Pv (i + 1), fun ys' σ' H' p' => ⟨n - (i + 1), by omega, rfl, hlt, p'⟩, fun x H' y => ?_⟩
    obtain ⟨e, y⟩ := y
    subst e y
    exact hs i ys σ _ hlt p
  · have e : i = n := by omega
    subst e
    exact .inl ⟨Nat.le_refl _, hd ys σ H p⟩
def tGIf (c : TT) (t u : TGn) : TGn := fun D ys σ H => c σ H fun b H1 => if b = true then t D ys σ H1 else u D ys σ H1
theorem gs_if {c : Expr} {a b : List Stmt} {tc : TT} {t u : TGn} {pos : Pos} (hc : PT X c tc) (ha : GSs X a t) (hb : GSs X b u) : GS X (.If c a b pos) (tGIf tc t u) := by
  refine ⟨fun A S ip R n ys s₀ cd fs K J gd lv s σ H D g hn k hI ht => ?_⟩
  obtain ⟨acc, cc, r, I⟩ := hI
  rw [exec_If]
  refine seg_bind_wrap (wpAny_standAt ?_)
  refine seg_bind_wrap ?_
  rw [g.over]
  refine wpAny_mono (hc.run _ s σ H _ I ht) (fun d s1 h1 => ?_) fun x s' hx => k.exc n s₀ x s' hx
  obtain ⟨H1, I1, q⟩ := h1
  cases d with
  | true => exact ha.run A S ip R n ys s₀ cd fs K J gd lv s1 σ H1 D g hn k ⟨acc, cc, r, I1⟩ q
  | false => exact hb.run A S ip R n ys s₀ cd fs K J gd lv s1 σ H1 D g hn k ⟨acc, cc, r, I1⟩ q
end
/-! a generator def's promise, by the number of its arguments -/
def SpG1 (f : V → Hp → (List V → Hp → Prop) → XK → Prop) : SpG := fun vs H Q E => ∃ x, vs = [x] ∧ f x H Q E
def SpG2 (f : V → V → Hp → (List V → Hp → Prop) → XK → Prop) : SpG := fun vs H Q E => ∃ x y, vs = [x, y] ∧ f x y H Q E
section
variable {vs : List V} {H : Hp} {Q : List V → Hp → Prop} {E : XK}
theorem sgplen1 {f} (h : SpG1 f vs H Q E) : vs.length = 1 := by obtain ⟨_, rfl, _⟩ := h; rfl
theorem sgplen2 {f} (h : SpG2 f vs H Q E) : vs.length = 2 := by obtain ⟨_, _, rfl, _⟩ := h; rfl
end
section
variable {P : Program} {w : World} {K : PySem.W.Frag} {mg : Str → Option Value} {base : Heap} {x qual : Str} {params : Arguments} {body : List Stmt} {scope : Scope} {dvs : List V} {kws : List (Str × V)} {f : Addr} {fd : FuncData}
theorem FunD.okG {N ps : List Str} {k : Nat} {sp : SpG} (F : FunD K x qual params body scope dvs kws f fd) (S : GScope N ps scope) (len : ∀ vs H Q E, sp vs H Q E → vs.length = ps.length)
    (hbody : ∀ (cdv : Value) (A : Around) (outer : List Env) (s : Shared) (H : Hp) (vs : List V) (Q : List V → Hp → Prop) (E : XK) (pn : List (Addr × Obj)), Room k (A.deeper (envOfC qual scope s.heap.objs.size f cdv)) → sp vs H Q E →
      ∃ t, GSs (gcxOf P w K mg base N qual scope f cdv A outer s H E pn) body t ∧ t { nx := fun ys _ H' => Q ys H', rt := fun ys v H' => v = .non ∧ Q ys H' } [] (L2.start N vs) H) : GFn P w K mg base (k + 1) f fd ps sp := by
  obtain ⟨oc, od, dV, kV, doc, pm, an, cdv, ct, osl, rfl, lk, hcd, _, _⟩ := F.ex
  exact gfn_of lk hcd S len fun A outer s H vs Q E pn hr hsp => hbody cdv A outer s H vs Q E pn hr hsp
end
/-! one def, two promises -/
def spOr (a b : Sp) : Sp := fun vs H Q E => a vs H Q E ∨ b vs H Q E
theorem fnOr {P : Program} {w : World} {K : PySem.W.Frag} {mg : Str → Option Value} {base : Heap} {CX : CXT} {k : Nat} {f : Addr} {fd : FuncData} {ps : List Str} {a b : Sp} (h1 : FnOk P w K mg base CX k f fd ps a) (h2 : FnOk P w K mg base CX k f fd ps b) : FnOk P w K mg base CX k f fd ps (spOr a b) where
  len := fun vs H Q E h => h.elim (h1.len vs H Q E) (h2.len vs H Q E)
  run := fun A outer s H args us vs Q E hr e0 hb r h => h.elim (h1.run A outer s H args us vs Q E hr e0 hb r) (h2.run A outer s H args us vs Q E hr e0 hb r)
/-! a def without arguments -/
def Sp0 (f : Hp → VK → XK → Prop) : Sp := fun vs H Q E => vs = [] ∧ f H Q E
theorem splen0 {f : Hp → VK → XK → Prop} {vs : List V} {H : Hp} {Q : VK} {E : XK} (h : Sp0 f vs H Q E) : vs.length = 0 := by obtain ⟨rfl, _⟩ := h; rfl
section
variable {X : Cx} {CX : CXT} {k : Nat} {f : Addr} {fd : FuncData} {ps ks : List Str} {sp : Sp} {E : L2.St → XK} {x : Str} {p pos : Pos} {kws : List Keyword} {tk : TA} {g : List Value → List Value → List Value} {gV : List V → List V → List V}
theorem pe_fnS0 (F : FnOk X.prog X.w X.K X.mg X.base CX k f fd ps sp) (hr : Room k X.A) (hg : Gl X x) (hm : X.mg x = some (.ref f)) (hk : PySem.W.keepIn X.K (.ref f) = true) (hb : KBn X.K fd ps 0 ks g gV) (hx : ∀ σ, PassesAt CX X σ (E σ))
    (hkw : PK X kws tk) (hall : (backToKw pos (keywordEach kws X.env)).all (·.1.isSome) = true) (hks : (backToKw pos (keywordEach kws X.env)).filterMap (·.1) = ks)
    (hdb : (x == ("__debug__" : Str)) = false := by decide)
    (hpl : ((backTo pos (starEach [] X.env)).any (·.1) || (backToKw pos (keywordEach kws X.env)).any (·.1.isNone)) = false := by rfl) :
    PE X (.Call (.Name x p) [] kws pos) (tFnS 0 ks.length sp gV E tNil tk) := ⟨fun pins s σ H Q I h =>
  wpAny_Call_Name_kw (ld_glob I hg hm (PySem.W.callWith_KW0 (first := []) (h₀ := X.base) I.ok.mod.kin hk hall
    (thn (hkw.run pos pins s σ H _ I h) fun ws s2 ⟨zs, H2, I2, rz, l1, l2, q2⟩ => ⟨I2.kIn, by rw [hks]; exact run_S (us := []) (vs := []) F hr hb (hx σ) I2 .nil rz l1 l2 q2⟩) hpl) hdb)⟩
end
theorem isiLT {X : Cx} {K : Frag} (hK : X.K = K) (u : Value) : CallR X (.builtin "isinstance") (SlX.rIsiSl K u) := hK ▸ SlX.call_isiSl u
end S
namespace S
open PySem PySem.Spec PyProof.Rows L2
/-! defs of seven arguments -/
def Sp7 (f : V → V → V → V → V → V → V → Hp → VK → XK → Prop) : Sp := fun vs H Q E => ∃ x y z u v w t, vs = [x, y, z, u, v, w, t] ∧ f x y z u v w t H Q E
theorem splen7 {vs : List V} {H : Hp} {Q : VK} {E : XK} {f} (h : Sp7 f vs H Q E) : vs.length = 7 := by obtain ⟨_, _, _, _, _, _, _, rfl, _⟩ := h; rfl
end S
namespace S
open PySem PySem.Spec PyProof.Rows L2 HT
/-! t[::-1] of a tuple -/
section
variable {prog : Program} {w : World} {A : Around} {E : Value → Shared → Prop} {s : Shared}
theorem rv_places (n : Nat) : Builtin.Slice.slicePlaces ((n : Int) - 1) (-1) (-1) = n := by
  unfold Builtin.Slice.slicePlaces
  rw [if_neg (by decide)]
  by_cases c : (n : Int) - 1 > -1
  · rw [if_pos c, show (- -1 : Int) = 1 by decide, Int.ediv_one]
    omega
  · rw [if_neg c]
    omega
theorem rv_part {v : Value} {o : Option Int} {Q : Option Int → Shared → Prop} (p : IsPart v o) (h : Q o s) : wpAny (model prog w) A (Builtin.Slice.slicePartIndex v) Q E s := slicePart_ p h
theorem rv_applied {sl : Addr} {vl vu vs : Value} {n : Nat} {Q : Int × Int × Nat → Shared → Prop} (hs : s.heap.IsSliceOf sl vl vu vs) (pl : IsPart vl none) (pu : IsPart vu none) (ps : IsPart vs (some (-1))) (h : Q ((n : Int) - 1, -1, n) s) :
    wpAny (model prog w) A (Builtin.Slice.sliceApplied (.ref sl) (pure (n : Int))) Q E s := by
  obtain ⟨ob, g1, g2, g3⟩ := id hs
  unfold Builtin.Slice.sliceApplied Builtin.Slice.sliceFields
  refine wpAny_bind (wpAny_bind (wpAny_field g1 g3 (x := vl) rfl (wpAny_bind (wpAny_field g1 g3 (x := vu) rfl (wpAny_bind (wpAny_field g1 g3 (x := vs) rfl (wpAny_pure ?_)))))))
  refine wpAny_bind (rv_part ps ?_)
  show wpAny _ _ (if ((-1 : Int) == 0) = true then _ else _) _ _ s
  rw [if_neg (show ¬ ((-1 : Int) == 0) = true by decide)]
  refine wpAny_bind (rv_part pl (wpAny_bind (rv_part pu (wpAny_bind (wpAny_pure ?_)))))
  show wpAny _ _ (pure ((n : Int) - 1, (-1 : Int), Builtin.Slice.slicePlaces ((n : Int) - 1) (-1) (-1))) _ _ s
  rw [rv_places]
  exact wpAny_pure h
theorem rv_pick (xs : Array Value) : ((List.range xs.size).filterMap fun (m : Nat) => xs[(((xs.size : Int) - 1) + (m : Int) * (-1)).toNat]?).toArray = xs.toList.reverse.toArray := by
  have e : ((List.range xs.size).filterMap fun (m : Nat) => xs[(((xs.size : Int) - 1) + (m : Int) * (-1)).toNat]?) = ((List.range xs.size).map fun m => xs.size - 1 - m).filterMap (xs[·]?) := by
    rw [List.filterMap_map]
    congr 1
    funext m
    have : (((xs.size : Int) - 1) + (m : Int) * (-1)).toNat = xs.size - 1 - m := by omega
    rw [this]
    rfl
  rw [e, PySem.W.krv_range, List.filterMap_reverse, PySem.W.krv_all]
theorem rv_get {t sl : Addr} {its : Array Value} {vl vu vs : Value} {Q : Value → Shared → Prop} (ht : IsTup s.heap t its) (hs : s.heap.IsSliceOf sl vl vu vs) (pl : IsPart vl none) (pu : IsPart vu none) (ps : IsPart vs (some (-1)))
    (h : Q (.ref s.heap.objs.size) { s with heap := s.heap.push { cls := .type "tuple", data := .seq its.toList.reverse.toArray } }) (hz : its.size ≤ sizeLine) : wpAny (model prog w) A (getItem (.ref t) (.ref sl)) Q E s := by
  have hk : sizeOk (.seq its.toList.reverse.toArray) := by
    show its.toList.reverse.toArray.size ≤ sizeLine
    rw [List.size_toArray, List.length_reverse, Array.length_toList]; exact hz
  obtain ⟨ob, g1, g2, g3⟩ := id hs
  have tS : s.TypeIs (.ref sl) "slice" := ⟨ob, g1, g2⟩
  unfold getItem
  first | (with_reducible refine wpAny_holding ?_; refine wpAny_bind (wpAny_pure ?_)) | (with_reducible refine wpAny_holding ?_) | refine wpAny_bind (wpAny_pure ?_) | skip
  refine wpAny_bind (wpAny_sequenceKey ht.typeIs (by decide) (wpAny_bind (wpAny_callSpecial?_slot (name := Str.ofString "__getitem__") ht.typeIs PyProof.Rows.slot_tuple_getitem (wpAny_call_entry PyProof.Rows.slot_tuple_getitem ht.typeIs entry_tuple_getitem ?_ (args_tuple_getitem _ _)))))
  show wpAny _ _ (Builtin.Tuple.tupleItemsOf (.ref t) >>= _) _ _ _
  refine wpAny_bind (tupleItemsOf_ ht (wpAny_bind (wpAny_typeOf tS ?_)))
  rw [if_pos (show _ from by decide)]
  refine wpAny_bind (rv_applied hs pl pu ps ?_)
  have hno : ¬ ((((its.size : Int) - 1) == 0 && (-1 : Int) == 1 && its.size == its.size) = true) := by simp
  show wpAny _ _ (if (((its.size : Int) - 1) == 0 && (-1 : Int) == 1 && its.size == its.size) = true then _ else _) _ _ s
  rw [if_neg hno, rv_pick]
  first | exact wpAny_bind (m := Builtin.Tuple.tupleExact _) (wpAny_newObj_type (wpAny_pure ⟨_, rfl, wpAny_pure h⟩) hk) | exact wpAny_bind (m := Builtin.Tuple.tupleExact _) (wpAny_newObj_type (wpAny_bind (wpAny_pure (wpAny_pure ⟨_, rfl, wpAny_pure h⟩))) hk) | exact wpAny_bind (wpAny_bind (m := Builtin.Tuple.tupleExact _) (wpAny_newObj_type (wpAny_pure (wpAny_pure ⟨_, rfl, wpAny_pure h⟩)) hk)) | exact wpAny_bind (wpAny_bind (m := Builtin.Tuple.tupleExact _) (wpAny_newObj_type (wpAny_pure ⟨_, rfl, wpAny_pure h⟩) hk))
end
section
variable {X : Cx} {K : Frag}
def tRevT (K : Frag) (te : TE) : TE := fun σ H Q => te σ H fun x H1 => ∃ a xs, x = .ref a ∧ SqT K H1 a xs ∧ ∀ p, H1 p = none → Q (.ref p) (upd H1 p (.tup xs.reverse))
theorem pe_revTK (hK : X.K = K) {e : Expr} {te : TE} {k : Nat} {p1 p2 p3 pos : Pos} (he : PE X e te) : PE X (.Subscript e (.Slice none none (some (.UnaryOp .USub (.Constant (.int 1) k p1) p2)) p3) pos) (tRevT K te) := by
  subst hK
  refine ⟨fun pins s σ H Q I h => ?_⟩
  refine Subscript_ (thn (he.run pins s σ H _ I h) fun v s1 ⟨x, H1, I1, r1, q1⟩ => ?_)
  obtain ⟨a, xs, rfl, hx, q⟩ := q1
  cases r1
  have hst : PO X (some (.UnaryOp .USub (.Constant (.int 1) k p1) p2)) (tPart (tUn (rU fun i => .int (-i)) (tC (.int 1)))) := po_some (pe_un un_neg pe_int)
  refine wpAny_Slice (thn (po_none.run pins s1 σ H1 (fun o Hx => o = none ∧ Hx = H1) I1 ⟨rfl, rfl⟩) fun vl s2 ⟨l, H2, I2, pl, el, e2⟩ => thn (po_none.run pins s2 σ H2 (fun o Hx => o = none ∧ Hx = H2) I2 ⟨rfl, rfl⟩) fun vu s3 ⟨u, H3, I3, pu, eu, e3⟩ => thn (hst.run pins s3 σ H3 (fun o Hx => o = some (-1) ∧ Hx = H3) I3 ⟨1, rfl, -1, rfl, rfl, rfl⟩) fun vs s4 ⟨o, H4, I4, ps, eo, e4⟩ => ?_)
  subst el e2 eu e3 eo e4
  have I5 : Inv X pins σ H4 { s4 with heap := s4.heap.push { cls := .type "slice", data := .fields #[vl, vu, vs] } } := I4.kept (t' := s4.toks) fun b ob y => Heap.get?_push_of_some _ y
  obtain ⟨its, r, ht, hz⟩ := I5.tuple hx
  have hl := r.length
  refine tail_any (ops := [.ref a, .ref s4.heap.objs.size]) ht.typeIs PyProof.Rows.slot_tuple_getitem.lookup ?_ (by with_unfolding_all rfl)
  refine rv_get ht (Heap.IsSliceOf.new _ vl vu vs) pl pu ps ?_ (by rw [List.size_toArray]; omega)
  refine ⟨.ref _, _, I5.laid (t' := s4.toks) (o := .tup xs.reverse) (fun b ob y => Heap.get?_push_of_some _ y) (Nat.le_refl _) ?_, rfl, q _ (I5.hok.fresh (Nat.le_refl _))⟩
  exact ⟨by rw [List.length_reverse]; exact hz, _, r.reverse, IsTup.new _ _⟩
end
end S
namespace S
open PySem PySem.Spec PyProof.Rows L2
/-! ### tuples whose items are compared by an own == and an own < -/
section
open PySem.SeqAt
open AutoSeq1 (wpAny_loadPart')
open MeetsSeq MeetsSeq2 MeetsSeq3 SeqRoads2
variable {prog : Program} {w : World} {A : Around} {R : Result → Shared → Prop}
theorem tupB_eq (l b : Addr) (items items2 : Array Value) (n n2 : Nat) (dd dd2 : Option Addr) (sl sl2 : Array (Option Value)) (hsz : items.size = items2.size) (I : Nat → Shared → Prop)
    (turn : ∀ i (h1 : i < items.size) (h2 : i < items2.size) s, I i s → wpAny (model prog w) A.in1 (eqBool items[i] items2[i]) (fun r s' => if r = true then I (i + 1) s' else R (.ok (.ret (.bool false))) s') (fun e s' => R (.error e) s') s)
    (fin : ∀ s, I items.size s → R (.ok (.ret (.bool true))) s) {s : Shared} (hl1 : s.heap.get? l = some { cls := .type "tuple", dict := dd, data := .seq items n, slots := sl }) (hb1 : s.heap.get? b = some { cls := .type "tuple", dict := dd2, data := .seq items2 n2, slots := sl2 }) (h : I 0 s) :
    wpAny (model prog w) A.in1 (Builtin.«tuple.__eq__» ⟨[.ref l, .ref b], []⟩) (GQ.FinOf prog w A R) (fun e s' => R (.error e) s') s := by
  have f2 := AutoSeq1.sub_tuple_tuple
  have hZ : (items.toList.zip items2.toList).length = items.size := by simp [hsz]
  have h0 := h
  obtain ⟨hp, g, d, tk, os⟩ := s
  wp_walk using wpAny_loadPart' hl1, wpAny_loadPart' hb1, wpAny_forIn_list _ (fun rest b s' => b.1 = none ∧ ∃ i, rest = (items.toList.zip items2.toList).drop i ∧ i ≤ items.size ∧ I i s') _
  case turn =>
    rintro ⟨y, x⟩ rest b s' ⟨hb', i, hz, hi, hI⟩
    have hlt : i < (items.toList.zip items2.toList).length := by
      rcases Nat.lt_or_ge i (items.toList.zip items2.toList).length with h' | h'
      · exact h'
      · rw [List.drop_of_length_le h'] at hz; cases hz
    have h1 : i < items.size := hZ ▸ hlt
    have h2 : i < items2.size := hsz ▸ h1
    rw [List.drop_eq_getElem_cons hlt] at hz
    injection hz with hyx hrest
    have hy : y = items[i] := by have := congrArg Prod.fst hyx; simpa using this
    have hx : x = items2[i] := by have := congrArg Prod.snd hyx; simpa using this
    subst hy hx
    refine wpAny_bind (wpAny_mono (turn i h1 h2 s' hI) (fun r s2 q2 => ?_) fun _ _ x => x)
    cases r with
    | true =>
      rw [if_pos rfl] at q2
      wp_walk
      exact ⟨rfl, i + 1, hrest, h1, q2⟩
    | false =>
      rw [if_neg Bool.false_ne_true] at q2
      obtain ⟨hp2, g2, d2, tk2, os2⟩ := s2
      wp_walk
      exact q2
  case fin =>
    rintro ⟨b1, b2⟩ s' ⟨hb', i, hz, hi, hI⟩
    simp only at hb'
    subst hb'
    have hge : items.size ≤ i := by
      rcases Nat.lt_or_ge i (items.toList.zip items2.toList).length with h' | h'
      · rw [List.drop_eq_getElem_cons h'] at hz; cases hz
      · exact hZ ▸ h'
    have hi' : i = items.size := by omega
    have hR : R (.ok (.ret (.bool true))) s' := fin s' (hi' ▸ hI)
    wp_walk
    simpa [Builtin.Tuple.tupleCompareSizes, hsz] using hR
  case h =>
    exact ⟨rfl, 0, rfl, Nat.zero_le _, h0⟩
theorem tupB_lt (l b : Addr) (items items2 : Array Value) (n n2 : Nat) (dd dd2 : Option Addr) (sl sl2 : Array (Option Value)) (hsz : items.size = items2.size) (I : Nat → Shared → Prop)
    (turn : ∀ i (h1 : i < items.size) (h2 : i < items2.size) s, I i s → wpAny (model prog w) A.in1 (eqBool items[i] items2[i]) (fun r s' => if r = true then I (i + 1) s' else wpAny (model prog w) A.in1 (richCompare .Lt items[i] items2[i]) (fun v s2 => R (.ok (.ret v)) s2) (fun e s2 => R (.error e) s2) s') (fun e s' => R (.error e) s') s)
    (fin : ∀ s, I items.size s → R (.ok (.ret (.bool false))) s) {s : Shared} (hl1 : s.heap.get? l = some { cls := .type "tuple", dict := dd, data := .seq items n, slots := sl }) (hb1 : s.heap.get? b = some { cls := .type "tuple", dict := dd2, data := .seq items2 n2, slots := sl2 }) (h : I 0 s) :
    wpAny (model prog w) A.in1 (Builtin.«tuple.__lt__» ⟨[.ref l, .ref b], []⟩) (GQ.FinOf prog w A R) (fun e s' => R (.error e) s') s := by
  have f2 := AutoSeq1.sub_tuple_tuple
  have hZ : (items.toList.zip items2.toList).length = items.size := by simp [hsz]
  have h0 := h
  obtain ⟨hp, g, d, tk, os⟩ := s
  wp_walk using wpAny_loadPart' hl1, wpAny_loadPart' hb1, wpAny_forIn_list _ (fun rest b s' => b.1 = none ∧ ∃ i, rest = (items.toList.zip items2.toList).drop i ∧ i ≤ items.size ∧ I i s') _
  case turn =>
    rintro ⟨y, x⟩ rest b s' ⟨hb', i, hz, hi, hI⟩
    have hlt : i < (items.toList.zip items2.toList).length := by
      rcases Nat.lt_or_ge i (items.toList.zip items2.toList).length with h' | h'
      · exact h'
      · rw [List.drop_of_length_le h'] at hz; cases hz
    have h1 : i < items.size := hZ ▸ hlt
    have h2 : i < items2.size := hsz ▸ h1
    rw [List.drop_eq_getElem_cons hlt] at hz
    injection hz with hyx hrest
    have hy : y = items[i] := by have := congrArg Prod.fst hyx; simpa using this
    have hx : x = items2[i] := by have := congrArg Prod.snd hyx; simpa using this
    subst hy hx
    refine wpAny_bind (wpAny_mono (turn i h1 h2 s' hI) (fun r s2 q2 => ?_) fun _ _ x => x)
    cases r with
    | true =>
      rw [if_pos rfl] at q2
      wp_walk
      exact ⟨rfl, i + 1, hrest, h1, q2⟩
    | false =>
      rw [if_neg Bool.false_ne_true] at q2
      obtain ⟨hp2, g2, d2, tk2, os2⟩ := s2
      generalize richCompare CmpOp.Lt items[i] items2[i] = rc at q2 ⊢
      wp_walk
      refine wpAny_mono q2 (fun v s3 q3 => ?_) fun _ _ x => x
      obtain ⟨hp3, g3, d3, tk3, os3⟩ := s3
      wp_walk
      exact q3
  case fin =>
    rintro ⟨b1, b2⟩ s' ⟨hb', i, hz, hi, hI⟩
    simp only at hb'
    subst hb'
    have hge : items.size ≤ i := by
      rcases Nat.lt_or_ge i (items.toList.zip items2.toList).length with h' | h'
      · rw [List.drop_eq_getElem_cons h'] at hz; cases hz
      · exact hZ ▸ h'
    have hi' : i = items.size := by omega
    have hR : R (.ok (.ret (.bool false))) s' := fin s' (hi' ▸ hI)
    wp_walk
    simpa [Builtin.Tuple.tupleCompareSizes, hsz] using hR
  case h =>
    exact ⟨rfl, 0, rfl, Nat.zero_le _, h0⟩
end
section
open PySem.SeqAt
open MeetsSeq MeetsSeq2 MeetsSeq3 SeqRoads2
variable {prog : Program} {w : World} {A : Around} {E : Value → Shared → Prop} {s : Shared} {l b : Addr} {items items2 : Array Value} {Q : Value → Shared → Prop}
theorem rc_tupB (hsz : items.size = items2.size) (hu : A.units < cLine) (I : Nat → Shared → Prop) (hl : s.heap.IsTuple l items) (hb : s.heap.IsTuple b items2)
    (turn : ∀ i (h1 : i < items.size) (h2 : i < items2.size) s, I i s → wpAny (model prog w) A.in1 (eqBool items[i] items2[i]) (fun r s' => if r = true then I (i + 1) s' else Q (.bool false) s') E s)
    (fin : ∀ s, I items.size s → Q (.bool true) s) (h : I 0 s) : wpAny (model prog w) A (richCompare .Eq (.ref l) (.ref b)) Q E s := by
  obtain ⟨⟨cls, dd, data, sl⟩, ho, hc, n, hd⟩ := id hl
  obtain ⟨⟨cls2, dd2, data2, sl2⟩, ho2, hc2, n2, hd2⟩ := id hb
  simp only at hc hd hc2 hd2
  subst hc hd hc2 hd2
  refine wpAny_richCompare_same_room (op := .Eq) ⟨_, ho, rfl⟩ ⟨_, ho2, rfl⟩ F.slot_tuple_eq (GQ.call_here F.slot_tuple_eq ⟨_, ho, rfl⟩ F.entry_tuple_eq (F.args_tuple_eq_2 _ _) ?_) hu
  exact tupB_eq (R := wants (fun v s' => v ≠ .notImplemented ∧ Q v s') E) l b items items2 n n2 dd dd2 sl sl2 hsz I (fun i h1 h2 s' q => wpAny_mono (turn i h1 h2 s' q) (fun r s2 q2 => by
    cases r with
    | true => exact q2
    | false => exact ⟨(fun x => nomatch x), q2⟩) fun _ _ x => x) (fun s' q => ⟨(fun x => nomatch x), fin s' q⟩) ho ho2 h
theorem rc_tupL (hsz : items.size = items2.size) (hu : A.units < cLine) (I : Nat → Shared → Prop) (hl : s.heap.IsTuple l items) (hb : s.heap.IsTuple b items2)
    (turn : ∀ i (h1 : i < items.size) (h2 : i < items2.size) s, I i s → wpAny (model prog w) A.in1 (eqBool items[i] items2[i]) (fun r s' => if r = true then I (i + 1) s' else wpAny (model prog w) A.in1 (richCompare .Lt items[i] items2[i]) (fun v s2 => v ≠ .notImplemented ∧ Q v s2) E s') E s)
    (fin : ∀ s, I items.size s → Q (.bool false) s) (h : I 0 s) : wpAny (model prog w) A (richCompare .Lt (.ref l) (.ref b)) Q E s := by
  obtain ⟨⟨cls, dd, data, sl⟩, ho, hc, n, hd⟩ := id hl
  obtain ⟨⟨cls2, dd2, data2, sl2⟩, ho2, hc2, n2, hd2⟩ := id hb
  simp only at hc hd hc2 hd2
  subst hc hd hc2 hd2
  refine wpAny_richCompare_same_room (op := .Lt) ⟨_, ho, rfl⟩ ⟨_, ho2, rfl⟩ F.slot_tuple_lt (GQ.call_here F.slot_tuple_lt ⟨_, ho, rfl⟩ F.entry_tuple_lt (F.args_tuple_lt_2 _ _) ?_) hu
  exact tupB_lt (R := wants (fun v s' => v ≠ .notImplemented ∧ Q v s') E) l b items items2 n n2 dd dd2 sl sl2 hsz I turn (fun s' q => ⟨(fun x => nomatch x), fin s' q⟩) ho ho2 h
end
/-- x == y inside a builtin: flat values, one object, or instances of C by their own == -/
def ElE (C : Addr) (sp : Sp) (x y : V) (H : Hp) (e : Bool) : Prop :=
  (flatV x = true ∧ flatV y = true ∧ eqV x y = e) ∨ (∃ a, x = .ref a ∧ y = .ref a ∧ e = true) ∨
  (∃ a b dx vs dy ws, x = .ref a ∧ y = .ref b ∧ a ≠ b ∧ SlX.Slt H a C dx vs ∧ SlX.Slt H b C dy ws ∧ ∀ Z : VK, Z (.bl e) H → sp [x, y] H Z E0)
/-- x < y inside a builtin: like data, or instances of C by their own < -/
def ElL (K : Frag) (C : Addr) (sp : Sp) (x y : V) (H : Hp) (e : Bool) : Prop :=
  (∃ d d', Dp K H x d ∧ Dp K H y d' ∧ PySem.W.alike d d' = true ∧ d ≠ .none ∧ d.depth ≤ 20 ∧ PySem.W.dataLt d d' = e) ∨
  (∃ a b dx vs dy ws, x = .ref a ∧ y = .ref b ∧ SlX.Slt H a C dx vs ∧ SlX.Slt H b C dy ws ∧ ∀ Z : VK, Z (.bl e) H → sp [x, y] H Z E0)
section
variable {X : Cx} {n : Nat} {C g g2 : Addr} {sp sp2 : Sp} {A : Around} {pins : List (Addr × Obj)} {s : Shared} {σ : L2.St} {H : Hp} {x y : V} {u v : Value} {e : Bool}
theorem Sub.env0 (sb : Sub X n A) (I : Inv X pins σ H s) : Env0 X.prog X.w X.K X.mg X.base A X.stack s H := by
  have e := I.env0
  exact ⟨by rw [sb.fr]; exact e.frames, e.mod, e.bs, e.bsz, e.funs, e.frf, e.hok, e.bare⟩
theorem own_rc {op : CmpOp} (hs : PySem.W.findIn X.K (.ref C) (cmpInfo op).2.1 = some (some (.ref g))) (hf : PySem.W.isFn X.K (.ref g) = true) (F : FnR X.prog X.w X.K X.mg X.base (L2.CX X.prog X.w) n g sp) (sb : Sub X n A) (I : Inv X pins σ H s)
    {a b : Addr} {dx dy : Addr} {vs ws : List (Option V)} (ha : SlX.Slt H a C dx vs) (hb : SlX.Slt H b C dy ws) (hsp : ∀ Z : VK, Z (.bl e) H → sp [.ref a, .ref b] H Z E0) {Q : Value → Shared → Prop} (q : ∀ s', Inv X pins σ H s' → Q (.bool e) s') :
    wpAny (model X.prog X.w) A (richCompare op (.ref a) (.ref b)) Q X.xe s := by
  obtain ⟨sl, od, _, J, _⟩ := SlX.slt_inst I ha
  obtain ⟨sl', od', _, J', _⟩ := SlX.slt_inst I hb
  obtain ⟨m, hF⟩ := I.fr
  refine PySem.W.cmp_K (op := op) (tb := .ref C) sb.room.units0 hF I.ok.mod.kin J J'.type (by simp [PySem.W.notFirst]) hs hf ?_
  refine wpAny_mono (wpAny_call (SlX.run_at (us := [.ref a, .ref b]) (ws := [.ref a, .ref b]) (Q := fun z H2 => z = .bl e ∧ H2 = H) F sb.room (Sub.env0 sb I) passL I (.cons rfl (.cons rfl .nil)) (hsp _ ⟨rfl, rfl⟩))) (fun z s2 hz2 => ?_) fun _ _ x => x
  obtain ⟨z2, H2, I2, rz, rfl, rfl⟩ := hz2
  cases (show z = Value.bool e from rz)
  exact q s2 I2
theorem el_eq (hs : PySem.W.findIn X.K (.ref C) "__eq__" = some (some (.ref g))) (hf : PySem.W.isFn X.K (.ref g) = true) (F : FnR X.prog X.w X.K X.mg X.base (L2.CX X.prog X.w) n g sp) (sb : Sub X n A) (I : Inv X pins σ H s)
    (rx : RelV x u) (ry : RelV y v) (d : ElE C sp x y H e) {Q : Bool → Shared → Prop} (q : ∀ s', Inv X pins σ H s' → Q e s') : wpAny (model X.prog X.w) A (eqBool u v) Q X.xe s := by
  rcases d with ⟨fx, fy, ee⟩ | ⟨a, rfl, rfl, rfl⟩ | ⟨a, b, dx, vs, dy, ws, rfl, rfl, hab, ha, hb, hsp⟩
  · have z := eqAt_V (A := A) (s := s) rx ry fx fy
    rw [ee] at z
    exact z X.prog X.w X.xe _ (q s I)
  · cases rx
    cases ry
    exact SeqAt.EqAt.same (A := A) (s := s) (.ref a) X.prog X.w X.xe _ (q s I)
  · cases rx
    cases ry
    exact GQ.eqBool_refG hab (own_rc (op := .Eq) hs hf F sb I ha hb hsp fun s' I' => ⟨e, rfl, q s' I'⟩)
theorem el_lt (hs : PySem.W.findIn X.K (.ref C) "__lt__" = some (some (.ref g))) (hf : PySem.W.isFn X.K (.ref g) = true) (F : FnR X.prog X.w X.K X.mg X.base (L2.CX X.prog X.w) n g sp) (sb : Sub X n A) (hu : A.units + 60 < cLine) (I : Inv X pins σ H s)
    (rx : RelV x u) (ry : RelV y v) (d : ElL X.K C sp x y H e) {Q : Value → Shared → Prop} (q : ∀ s', Inv X pins σ H s' → Q (.bool e) s') : wpAny (model X.prog X.w) A (richCompare .Lt u v) Q X.xe s := by
  rcases d with ⟨d, d', hd, hd', al, nn, dp, rfl⟩ | ⟨a, b, dx, vs, dy, ws, rfl, rfl, ha, hb, hsp⟩
  · obtain ⟨as, r1⟩ := Dp.reads I d x u hd rx
    obtain ⟨bs, r2⟩ := Dp.reads I d' y v hd' ry
    exact PySem.W.rcLt_alike d d' A s u v as bs r1 r2 al nn (by omega) X.prog X.w _ _ (q s I)
  · cases rx
    cases ry
    exact own_rc (op := .Lt) hs hf F sb I ha hb hsp q
/-- what is known of two tuples' items -/
def Tys (C : Addr) (sp : Sp) (xs ys : List V) (es : Nat → Bool) (H : Hp) : Prop := xs.length = ys.length ∧ ∀ (i : Nat) x y, xs[i]? = some x → ys[i]? = some y → (∀ j < i, es j = true) → ElE C sp x y H (es i)
theorem its_get {its : List Value} {xs : List V} (r : Vals xs its) {i : Nat} (h1 : i < its.toArray.size) : ∃ x, xs[i]? = some x ∧ RelV x its.toArray[i] := by
  have g1 : its[i]? = some its.toArray[i] := by
    have h1' : i < its.length := by simpa using h1
    rw [List.getElem?_eq_getElem h1'] <;> simp
  have k1 : i < xs.length := by rw [r.length]; simpa using h1
  obtain ⟨u, hu, ru⟩ := r.get (List.getElem?_eq_getElem k1)
  rw [g1] at hu
  rw [Option.some.inj hu]
  exact ⟨_, List.getElem?_eq_getElem k1, ru⟩
theorem tys_rc (hs : PySem.W.findIn X.K (.ref C) "__eq__" = some (some (.ref g))) (hf : PySem.W.isFn X.K (.ref g) = true) (F : FnR X.prog X.w X.K X.mg X.base (L2.CX X.prog X.w) n g sp) (sb : Sub X (n + 1) A) (I : Inv X pins σ H s)
    {a b : Addr} {xs ys : List V} {es : Nat → Bool} (ha : SqT X.K H a xs) (hb : SqT X.K H b ys) (d : Tys C sp xs ys es H) {Q : Value → Shared → Prop} (q : ∀ s', Inv X pins σ H s' → Q (.bool ((List.range xs.length).all es)) s') :
    wpAny (model X.prog X.w) A (richCompare .Eq (.ref a) (.ref b)) Q X.xe s := by
  obtain ⟨its, r, e, z⟩ := I.tuple ha
  obtain ⟨its2, r2, e2, z2⟩ := I.tuple hb
  have sz : its.toArray.size = xs.length := by rw [List.size_toArray, ← r.length]
  have hsz : its.toArray.size = its2.toArray.size := by rw [sz, List.size_toArray, ← r2.length]; exact d.1
  refine rc_tupB hsz sb.room.units0 (fun i s' => Inv X pins σ H s' ∧ ∀ j < i, es j = true) e e2 (fun i h1 h2 s' hI => ?_) (fun s' hI => ?_) ⟨I, fun _ h => by omega⟩
  · obtain ⟨x, ex, rx⟩ := its_get r h1
    obtain ⟨y, ey, ry⟩ := its_get r2 h2
    refine el_eq hs hf F sb.in1 hI.1 rx ry (d.2 i x y ex ey hI.2) fun s2 I2 => ?_
    cases ee : es i with
    | true =>
      rw [if_pos rfl]
      exact ⟨I2, fun j hj => by
        by_cases c : j = i
        · rw [c]; exact ee
        · exact hI.2 j (by omega)⟩
    | false =>
      rw [if_neg Bool.false_ne_true]
      have hq := q s2 I2
      rwa [show (List.range xs.length).all es = false from Bool.eq_false_iff.mpr fun h => by
        have := List.all_eq_true.mp h i (List.mem_range.mpr (by rw [← sz]; exact h1))
        rw [ee] at this
        cases this] at hq
  · have hq := q s' hI.1
    rwa [show (List.range xs.length).all es = true from List.all_eq_true.mpr fun j hj => hI.2 j (by rw [sz]; exact List.mem_range.mp hj)] at hq
/-- a < b, the first items that differ decide -/
def rLtT (K : Frag) (C : Addr) (spE spL : Sp) : R2 := fun x y H Q => ∃ (a b : Addr) (xs ys : List V) (es ls : Nat → Bool), x = .ref a ∧ y = .ref b ∧ SqT K H a xs ∧ SqT K H b ys ∧ Tys C spE xs ys es H ∧
  (∀ (i : Nat) x y, xs[i]? = some x → ys[i]? = some y → (∀ j < i, es j = true) → es i = false → ElL K C spL x y H (ls i)) ∧ Q (.bl (PySem.SeqAt.firstLt es ls false (List.range xs.length))) H
theorem firstLt_at {es ls : Nat → Bool} {fin : Bool} : ∀ (l : List Nat) {i : Nat} {t : List Nat}, (∀ j ∈ l, es j = true) → es i = false → PySem.SeqAt.firstLt es ls fin (l ++ i :: t) = ls i
  | [], _, _, _, h => PySem.SeqAt.firstLt_no h
  | j :: l, _, _, hl, h => by
    rw [List.cons_append, PySem.SeqAt.firstLt_yes (hl j List.mem_cons_self)]
    exact firstLt_at l (fun k hk => hl k (List.mem_cons_of_mem _ hk)) h
theorem firstLt_all {es ls : Nat → Bool} {fin : Bool} : ∀ (l : List Nat), (∀ j ∈ l, es j = true) → PySem.SeqAt.firstLt es ls fin l = fin
  | [], _ => rfl
  | j :: l, hl => by
    rw [PySem.SeqAt.firstLt_yes (hl j List.mem_cons_self)]
    exact firstLt_all l fun k hk => hl k (List.mem_cons_of_mem _ hk)
theorem range_at {n i : Nat} (h : i < n) : ∃ t, List.range n = List.range i ++ i :: t := by
  refine ⟨(List.range n).drop (i + 1), ?_⟩
  have h1 : (List.range n).take i = List.range i := by rw [List.take_range]; congr 1; omega
  have h2 : (List.range n).drop i = i :: (List.range n).drop (i + 1) := by
    rw [List.drop_eq_getElem_cons (by simpa using h)]
    simp
  rw [← h1, ← h2, List.take_append_drop]
theorem ltTK {P : Program} {w : World} {K : Frag} {mg : Str → Option Value} {base : Heap} (hP : X.prog = P) (hw : X.w = w) (hK : X.K = K) (hm : X.mg = mg) (hb : X.base = base)
    (hs : PySem.W.findIn K (.ref C) "__eq__" = some (some (.ref g))) (hf : PySem.W.isFn K (.ref g) = true) (F : FnR P w K mg base (L2.CX P w) n g sp)
    (hs2 : PySem.W.findIn K (.ref C) "__lt__" = some (some (.ref g2))) (hf2 : PySem.W.isFn K (.ref g2) = true) (F2 : FnR P w K mg base (L2.CX P w) n g2 sp2) (hr : Room (n + 1) X.A) (hu : X.A.units + 64 < cLine) : OpR X (compareOp .Lt) (rLtT K C sp sp2) := by
  subst hP hw hK hm hb
  intro pins s σ H x y v u Q I rx ry h
  obtain ⟨a, b, xs, ys, es, ls, rfl, rfl, ha, hb, d, dl, q⟩ := h
  cases (show v = Value.ref a from rx)
  cases (show u = Value.ref b from ry)
  obtain ⟨its, r, e, z⟩ := I.tuple ha
  obtain ⟨its2, r2, e2, z2⟩ := I.tuple hb
  have sz : its.toArray.size = xs.length := by rw [List.size_toArray, ← r.length]
  have hsz : its.toArray.size = its2.toArray.size := by rw [sz, List.size_toArray, ← r2.length]; exact d.1
  have sb : Sub X (n + 1) X.A := ⟨hr, rfl⟩
  show wpAny _ _ (richCompare .Lt (.ref a) (.ref b)) _ _ _
  refine rc_tupL hsz hr.units0 (fun i s' => Inv X pins σ H s' ∧ ∀ j < i, es j = true) e e2 (fun i h1 h2 s' hI => ?_) (fun s' hI => ?_) ⟨I, fun _ h => by omega⟩
  · obtain ⟨x, ex, rx⟩ := its_get r h1
    obtain ⟨y, ey, ry⟩ := its_get r2 h2
    refine el_eq hs hf F sb.in1 hI.1 rx ry (d.2 i x y ex ey hI.2) fun s2 I2 => ?_
    cases ee : es i with
    | true =>
      rw [if_pos rfl]
      exact ⟨I2, fun j hj => by
        by_cases c : j = i
        · rw [c]; exact ee
        · exact hI.2 j (by omega)⟩
    | false =>
      rw [if_neg Bool.false_ne_true]
      refine el_lt hs2 hf2 F2 sb.in1 (by have := (show X.A.in1.units = X.A.units + 1 from rfl); omega) I2 rx ry (dl i x y ex ey hI.2 ee) fun s3 I3 => ⟨(fun x => nomatch x), .bl (ls i), H, I3, rfl, ?_⟩
      obtain ⟨t, et⟩ := range_at (show i < xs.length by rw [← sz]; exact h1)
      rwa [et, firstLt_at _ (fun j hj => hI.2 j (List.mem_range.mp hj)) ee] at q
  · refine ⟨.bl false, H, hI.1, rfl, ?_⟩
    rwa [firstLt_all _ fun j hj => hI.2 j (by rw [sz]; exact List.mem_range.mp hj)] at q
/-- x in a list of tuples -/
def rInT (K : Frag) (C : Addr) (sp : Sp) (neg : Bool) : R2 := fun x y H Q => ∃ (a l : Addr) (xs : List V) (bs : List (Addr × List V)) (e : Addr → Bool), x = .ref a ∧ y = .ref l ∧ H l = some (.lst (bs.map fun b => .ref b.1)) ∧ SqT K H a xs ∧
  (∀ b ∈ bs, b.1 ≠ a → SqT K H b.1 b.2 ∧ ∃ es : Nat → Bool, e b.1 = (List.range b.2.length).all es ∧ Tys C sp b.2 xs es H) ∧
  Q (.bl (if neg then !(bs.any fun b => decide (b.1 = a) || e b.1) else bs.any fun b => decide (b.1 = a) || e b.1)) H
theorem contT (hs : PySem.W.findIn X.K (.ref C) "__eq__" = some (some (.ref g))) (hf : PySem.W.isFn X.K (.ref g) = true) (F : FnR X.prog X.w X.K X.mg X.base (L2.CX X.prog X.w) n g sp) (hr : Room (n + 2) X.A)
    {a l : Addr} {xs : List V} {bs : List (Addr × List V)} {e : Addr → Bool} (I : Inv X pins σ H s) (hl : H l = some (.lst (bs.map fun b => .ref b.1))) (ha : SqT X.K H a xs)
    (hb : ∀ b ∈ bs, b.1 ≠ a → SqT X.K H b.1 b.2 ∧ ∃ es : Nat → Bool, e b.1 = (List.range b.2.length).all es ∧ Tys C sp b.2 xs es H) {Q : Bool → Shared → Prop}
    (q : ∀ s', Inv X pins σ H s' → Q (bs.any fun b => decide (b.1 = a) || e b.1) s') : wpAny (model X.prog X.w) X.A (contains (.ref l) (.ref a)) Q X.xe s := by
  refine contains_G (N := bs.length) (fun i s' => Inv X pins σ H s' ∧ (bs.take i).any (fun b => decide (b.1 = a) || e b.1) = false) ?_ ?_ ⟨I, rfl⟩
  · rintro i s1 ⟨I1, no⟩
    obtain ⟨hz, its, m, rv, hg⟩ := (show ObjOk X.prog X.w H s1.heap l (.lst (bs.map fun b => V.ref b.1)) from I1.hok l _ hl)
    have hlen : its.length = bs.length := by rw [← rv.length, List.length_map]
    refine ⟨its.toArray, m, hg, by simp [hlen], fun h1 => ?_⟩
    have hi : i < bs.length := by simpa [hlen] using h1
    obtain ⟨x, ex, rx⟩ := its_get rv h1
    have eb := List.getElem?_eq_getElem hi
    generalize bs[i] = b at eb
    rw [List.getElem?_map, eb] at ex
    cases ex
    have mem := List.mem_of_getElem? eb
    rw [show its.toArray[i] = Value.ref b.1 from rx]
    have step : ∀ r : Bool, (decide (b.1 = a) || e b.1) = r → ∀ s2, Inv X pins σ H s2 → (if r = true then wants (fun v s' => ∃ b, v = .bool b ∧ Q b s') X.xe (.ok (.ret (.bool true))) s2 else Inv X pins σ H s2 ∧ (bs.take (i + 1)).any (fun b => decide (b.1 = a) || e b.1) = false) := by
      intro r er s2 I2
      have tk : bs.take (i + 1) = bs.take i ++ [b] := by rw [List.take_add_one, eb]; rfl
      cases r with
      | true =>
        rw [if_pos rfl]
        refine ⟨true, rfl, ?_⟩
        have hq := q s2 I2
        rw [show (bs.any fun b => decide (b.1 = a) || e b.1) = true from List.any_eq_true.mpr ⟨_, mem, er⟩] at hq
        exact hq
      | false =>
        rw [if_neg Bool.false_ne_true]
        refine ⟨I2, ?_⟩
        rw [tk, List.any_append, no, List.any_cons, er]
        rfl
    by_cases hab : b.1 = a
    · rw [hab]
      exact SeqAt.EqAt.same (A := X.A.in1) (s := s1) (.ref a) X.prog X.w _ _ (step true (by simp [hab]) s1 I1)
    · obtain ⟨hbt, es, ee, d⟩ := hb b mem hab
      refine GQ.eqBool_refG hab (tys_rc hs hf F (A := X.A.in1) (Sub.in1 ⟨hr, rfl⟩) I1 hbt ha d fun s2 I2 => ⟨_, rfl, ?_⟩)
      rw [← ee]
      exact step (e b.1) (by simp [hab]) s2 I2
  · rintro s1 ⟨I1, no⟩
    have hq := q s1 I1
    rw [List.take_length] at no
    rw [no] at hq
    exact hq
theorem inTK {P : Program} {w : World} {K : Frag} {mg : Str → Option Value} {base : Heap} (hP : X.prog = P) (hw : X.w = w) (hK : X.K = K) (hm : X.mg = mg) (hb : X.base = base)
    (hs : PySem.W.findIn K (.ref C) "__eq__" = some (some (.ref g))) (hf : PySem.W.isFn K (.ref g) = true) (F : FnR P w K mg base (L2.CX P w) n g sp) (hr : Room (n + 2) X.A) : OpR X (compareOp .In) (rInT K C sp false) := by
  subst hP hw hK hm hb
  intro pins s σ H x y v u Q I rx ry h
  obtain ⟨a, l, xs, bs, e, rfl, rfl, hl, ha, hb, q⟩ := h
  cases (show v = Value.ref a from rx)
  cases (show u = Value.ref l from ry)
  show wpAny _ _ (do return Value.bool (← contains (.ref l) (.ref a))) _ _ _
  exact wpAny_bind (contT hs hf F hr I hl ha hb fun s' I' => wpAny_pure ⟨.bl _, H, I', rfl, q⟩)
theorem notInTK {P : Program} {w : World} {K : Frag} {mg : Str → Option Value} {base : Heap} (hP : X.prog = P) (hw : X.w = w) (hK : X.K = K) (hm : X.mg = mg) (hb : X.base = base)
    (hs : PySem.W.findIn K (.ref C) "__eq__" = some (some (.ref g))) (hf : PySem.W.isFn K (.ref g) = true) (F : FnR P w K mg base (L2.CX P w) n g sp) (hr : Room (n + 2) X.A) : OpR X (compareOp .NotIn) (rInT K C sp true) := by
  subst hP hw hK hm hb
  intro pins s σ H x y v u Q I rx ry h
  obtain ⟨a, l, xs, bs, e, rfl, rfl, hl, ha, hb, q⟩ := h
  cases (show v = Value.ref a from rx)
  cases (show u = Value.ref l from ry)
  show wpAny _ _ (do return Value.bool (!(← contains (.ref l) (.ref a)))) _ _ _
  exact wpAny_bind (contT hs hf F hr I hl ha hb fun s' I' => wpAny_pure ⟨.bl _, H, I', rfl, q⟩)
end
end S
namespace S
open PySem PySem.Spec PyProof.Rows L2
/-! ### < <= > >= with an int at the left, by the right side's own reflected def -/
section
open PySem.W PySem.Calls
variable {prog : Program} {w : World} {A : Around} {E : Value → Shared → Prop} {s : Shared} {K : Frag} {x C f : Addr} {ox : Obj} {od : Option Obj}
/-- what is known of int's own slot for a comparison -/
structure IntCmp (op : CmpOp) (idl : String) (B : Builtin) : Prop where
  sl : Slot "int" (cmpInfo op).2.1 idl
  en : entryFor table idl = some B
  ar : ∀ a b : Value, argsOk idl ⟨[a, b], []⟩
  de : ∀ (a : Int) (t : Tok) (x : Addr), GivesAt (NoInt x) (B ⟨[.int a t, .ref x], []⟩) (.val (Value.notImplemented))
  hop : ∀ a b, compareOp op a b = richCompare op a b
theorem ic_lt : IntCmp .Lt "int.__lt__" Builtin.«int.__lt__» := ⟨PySem.F.slot_int_lt, PySem.F.entry_int_lt, PySem.F.args_int_lt_2, fun _ _ _ _ _ _ _ _ h q => decl_bin h q, fun _ _ => rfl⟩
theorem ic_gt : IntCmp .Gt "int.__gt__" Builtin.«int.__gt__» := ⟨PySem.F.slot_int_gt, PySem.F.entry_int_gt, PySem.F.args_int_gt_2, fun _ _ _ _ _ _ _ _ h q => decl_bin h q, fun _ _ => rfl⟩
theorem cmp_refl {op : CmpOp} {idl : String} {B : Builtin} {i : Int} {t : Tok} {Q : Value → Shared → Prop} (c : IntCmp op idl B) (hu : A.units < cLine) (X : K.In s.heap) (I : InstAt s.heap x ox C od) (hno : NoInt x s)
    (hsR : findIn K (.ref C) (cmpInfo op).2.2 = some (some (.ref f))) (hf : isFn K (.ref f) = true) (hsub : subIn K (.ref C) (.type "int") = some false)
    (h : wpAny (model prog w) A (call (.ref f) [.ref x, .int i t]) (PySem.W.CmpBack Q) E s) : wpAny (model prog w) A (richCompare op (.int i t) (.ref x)) Q E s := by
  have ha := typeIs_int s i t
  unfold richCompare
  simp only [ha.oneThing_none]
  refine wpAny_holding (wpAny_bind (wpAny_cRoomFor hu ?_))
  refine wpAny_bind (wpAny_typeOf ha (wpAny_bind (I.type.here ?_)))
  have hne : (Value.type "int" != Value.ref C) = true := rfl
  simp only [hne, if_true]
  refine wpAny_bind ((looks_subIn X hsub).here ?_)
  simp only [Bool.false_eq_true, if_false]
  refine wpAny_bind (wpAny_tryCompare_declines ha c.sl (call_givesAt (Q := fun v s1 => v = .notImplemented ∧ _) c.sl ha c.en (c.ar _ _) (c.de i t x) hno ⟨rfl, ?_⟩))
  simp only [Bool.not_false, if_true]
  unfold tryCompare
  refine wpAny_bind (wpAny_bind (ifBound_K X I hsR hf (wpAny_mono h (fun v s' hv => ?_) fun _ _ e => e)))
  cases v <;> first | exact hv.elim | exact wpAny_pure (wpAny_pure hv)
end
section
variable {X : Cx} {n k : Nat} {C f g : Addr} {sp spR : Sp} {op : CmpOp} {idl : String} {B : Builtin}
/-- a comparison by an own def, or by the reflected one where an int stands at the left -/
def rCmpB (K : Frag) (C : Addr) (sp spR : Sp) : R2 := fun x y H Q => rCmpL K C sp x y H Q ∨ ∃ b dy ws i, x = .int i ∧ y = .ref b ∧ SlX.Slt H b C dy ws ∧ spR [y, x] H Q E0
theorem op_cmpB (c : IntCmp op idl B) (hs : PySem.W.findIn X.K (.ref C) (cmpInfo op).2.1 = some (some (.ref f))) (hf : PySem.W.isFn X.K (.ref f) = true) (F : FnR X.prog X.w X.K X.mg X.base (L2.CX X.prog X.w) n f sp)
    (hsR : PySem.W.findIn X.K (.ref C) (cmpInfo op).2.2 = some (some (.ref g))) (hg : PySem.W.isFn X.K (.ref g) = true) (G : FnR X.prog X.w X.K X.mg X.base (L2.CX X.prog X.w) k g spR)
    (hsub : PySem.W.subIn X.K (.ref C) (.type "int") = some false) (hr : Room n X.A) (hr2 : Room k X.A) : OpR X (compareOp op) (rCmpB X.K C sp spR) := by
  intro pins s σ H x y v u Q I rx ry h
  rcases h with h | ⟨b, dy, ws, i, rfl, rfl, h1, q⟩
  · exact op_cmpL c.hop hs hf F hr pins s σ H x y v u Q I rx ry h
  · obtain ⟨t, rfl⟩ := (show ∃ t, v = Value.int i t from rx)
    cases (show u = Value.ref b from ry)
    obtain ⟨sl, od, _, J, _⟩ := SlX.slt_inst I h1
    rw [c.hop]
    refine cmp_refl c hr.units0 I.kIn J ⟨_, J.at_, fun _ _ => by intro z; cases z⟩ hsR hg hsub ?_
    refine wpAny_mono (wpAny_call (run_fnR (us := [.ref b, .int i t]) (vs := [.ref b, .int i]) G hr2 passL I (.cons rfl (.cons ⟨t, rfl⟩ .nil)) q)) (fun w s' z => ?_) fun _ _ x => x
    obtain ⟨z2, H2, I2, rz, qz⟩ := z
    exact SlX.cmpback rz ⟨z2, H2, I2, rz, qz⟩
end
end S
namespace S
open PySem PySem.Spec PyProof.Rows L2
/-! defs of eight arguments -/
def Sp8 (f : V → V → V → V → V → V → V → V → Hp → VK → XK → Prop) : Sp := fun vs H Q E => ∃ x y z u v w t r, vs = [x, y, z, u, v, w, t, r] ∧ f x y z u v w t r H Q E
theorem splen8 {vs : List V} {H : Hp} {Q : VK} {E : XK} {f} (h : Sp8 f vs H Q E) : vs.length = 8 := by obtain ⟨_, _, _, _, _, _, _, _, rfl, _⟩ := h; rfl
end S
namespace S
open PySem PySem.Spec PyProof.Rows L2
/-! ### o[i] = v and x += y by an own method; a def with a starred and a keyword-only parameter -/
section
variable {X : Cx} {n : Nat} {C g : Addr} {sp : Sp} {E : XK}
def rSetO (C : Addr) (sp : Sp) (E : XK) : TSet := fun o i v H Q => ∃ a dx fs, o = .ref a ∧ H a = some (.ins C dx fs) ∧ sp [o, i, v] H (fun _ H2 => Q H2) E
theorem set_own (hq : PySem.W.noSeq X.K C = true) (hs : PySem.W.findIn X.K (.ref C) "__setitem__" = some (some (.ref g))) (hf : PySem.W.isFn X.K (.ref g) = true)
    (F : FnR X.prog X.w X.K X.mg X.base (L2.CX X.prog X.w) n g sp) (hr : Room n X.A) (hx : Passes (L2.CX X.prog X.w) X E) : PSet X (rSetO C sp E) := by
  intro pins s σ H o i v ov iv u Q I ro ri rv h
  obtain ⟨a, dx, fs, rfl, ha, q⟩ := h
  cases (show ov = Value.ref a from ro)
  obtain ⟨mA, O, _⟩ := ins_get I.hok ha
  obtain ⟨od, J, _⟩ := O.look
  obtain ⟨m, hF⟩ := I.fr
  refine PySem.W.ksp_setItem hF I.ok.mod.kin J hq hs hf ?_
  refine wpAny_mono (wpAny_call (run_fnR (us := [.ref a, iv, u]) (vs := [.ref a, i, v]) F hr hx I (.cons rfl (.cons ri (.cons rv .nil))) q)) (fun w s' z => ?_) fun _ _ x => x
  obtain ⟨z2, H2, I2, rz, qz⟩ := z
  exact ⟨H2, I2, qz⟩
def rIpO (C : Addr) (sp : Sp) (E : XK) : TIp := fun x y H Q => ∃ a dx fs, x = .ref a ∧ H a = some (.ins C dx fs) ∧ sp [x, y] H Q E
theorem ip_own {op : Operator} (hc : PySem.W.selfFirst X.K C = true) (hs : PySem.W.findIn X.K (.ref C) (dunderI op.info.2) = some (some (.ref g))) (hf : PySem.W.isFn X.K (.ref g) = true)
    (F : FnR X.prog X.w X.K X.mg X.base (L2.CX X.prog X.w) n g sp) (hr : Room n X.A) (hx : Passes (L2.CX X.prog X.w) X E) : PIp X op (rIpO C sp E) := by
  intro pins s σ H x y v u Q I rx ry h
  obtain ⟨a, dx, fs, rfl, ha, q⟩ := h
  cases (show v = Value.ref a from rx)
  obtain ⟨mA, O, _⟩ := ins_get I.hok ha
  obtain ⟨od, J, _⟩ := O.look
  obtain ⟨m, hF⟩ := I.fr
  refine PySem.W.ksp_inplace hF I.ok.mod.kin J hc hs hf ?_
  refine wpAny_mono (wpAny_call (run_fnR (us := [.ref a, u]) (vs := [.ref a, y]) F hr hx I (.cons rfl (.cons ry .nil)) q)) (fun w s' z => ?_) fun _ _ x => x
  obtain ⟨z2, H2, I2, rz, qz⟩ := z
  exact SlX.cmpback rz ⟨z2, H2, I2, rz, qz⟩
end
/-- the binding of a def with one parameter, a starred one and a keyword-only one that is left out -/
def StarK (D : Addr) (p1 pk pv : Str) (a mv : Value) (rest : List Value) (t : Sem (List (Str × Value))) : Prop :=
  ∃ (β γ : Type) (k1 : Option Value → Sem β) (k2 : β → Sem γ) (k3 : γ → Sem (List (Str × Value))) (b : β), t = ((nsGet D pk >>= k1) >>= k2) >>= k3 ∧ k1 (some mv) = pure b ∧ (k2 b >>= k3) = (newTuple rest >>= fun t => pure [(p1, a), (pk, mv), (pv, t)])
section
variable {P : Program} {w : World} {K : PySem.W.Frag} {mg : Str → Option Value} {base : Heap} {k : Nat} {f : Addr} {fd : FuncData} {x qual : Str} {params : Arguments} {body : List Stmt} {scope : Scope} {N : List Str} {sp : Sp} {p1 pk pv : Str} {dv : V}
def spStar (sp : Sp) (dv : V) : Sp := fun vs H Q E => ∃ w rest, vs = w :: rest ∧ rest.length ≤ sizeLine ∧ ∀ p o, H p = Option.none → o.dict = Option.none → sp [w, dv, V.ref p] (upd H p (.frz o (.tup rest))) Q E
theorem FunD.star1K (F : FunD K x qual params body scope [] [(pk, dv)] f fd) (S : FnScope N [p1, pk, pv] scope)
    (hb : ∀ (D : Addr) (doc pm : Value) (an : Option Addr) (cdv ct : Value) (a mv : Value) (rest : List Value), StarK D p1 pk pv a mv rest (bindArgs (PySem.W.fnOf x qual params body scope .none (.ref D) doc pm an cdv ct) ⟨a :: rest, []⟩))
    (hbody : ∀ (cdv : Value) (A : Around) (outer : List Env) (s : Shared) (H : Hp) (vs : List V) (Q : VK) (E : XK), Room k (A.deeper (envOfC qual scope s.heap.objs.size f cdv)) → sp vs H Q E →
      ∃ t, PSs (cxOf (L2.CX P w) P w K mg base N qual scope f cdv A outer s H E) body t ∧ t { nx := fun _ H' => Q .non H', rt := Q } (start N vs) H) :
    FnR P w K mg base (L2.CX P w) (k + 1) f (spStar sp dv) := by
  obtain ⟨oc, od, dV, kV, doc, pm, an, cdv, ct, osl, rfl, lk, hcd, hD, hK⟩ := F.ex
  rcases hD with ⟨_, rfl⟩ | ⟨e, _⟩
  · rcases hK with e | ⟨D, rfl, hq⟩
    · cases e
    · obtain ⟨mv, hmv, rmv⟩ := hq _ List.mem_cons_self
      intro A outer s H us vs Q E hr e0 r hsp
      obtain ⟨w0, rest, ev, hz, hq'⟩ := hsp
      subst ev
      cases r with
      | @cons _ u1 _ u2 r1 r2 =>
      have hn : H s.heap.objs.size = Option.none := e0.hok.fresh (Nat.le_refl _)
      have hl2 : u2.length ≤ sizeLine := by rw [← r2.length]; exact hz
      have KX : K.In s.heap := e0.mod.kin.keeps fun b o e => (e0.bs b o e).1
      refine StX.run_bnd (ps := [p1, pk, pv]) lk hcd S hr e0 (G := fun xs H2 => ∃ p o, H p = Option.none ∧ o.dict = Option.none ∧ xs = [w0, dv, V.ref p] ∧ H2 = upd H p (.frz o (.tup rest))) (fun A' Ex Q' h => ?_) fun s2 H2 xs ⟨p, o, hp, ho, ex, eH⟩ hr' => ?_
      · obtain ⟨β, γ, k1, k2, k3, b, e1, e2, e3⟩ := hb D doc pm an cdv ct u1 mv u2
        rw [e1, bind_assoc]
        refine wpAny_bind (((PySem.W.looks_nsIn KX hmv).andThen (PySem.W.Looks.of_pure e2)).here ?_)
        rw [e3]
        refine wpAny_bind (wpAny_newTuple (wpAny_pure ?_) hl2)
        have new : ObjOk P w (upd H s.heap.objs.size (.frz ({ cls := .type "tuple", data := .seq u2.toArray } : Obj) (.tup rest))) (s.heap.push ({ cls := .type "tuple", data := .seq u2.toArray } : Obj)) s.heap.objs.size (.frz ({ cls := .type "tuple", data := .seq u2.toArray } : Obj) (.tup rest)) := ⟨Heap.get?_push_size _ rfl, hz, u2, r2, ⟨_, Heap.get?_push_size _ rfl, rfl, _, rfl⟩⟩
        have un := StX.un_laid (fs := frs outer) (s := s) (o := ({ cls := .type "tuple", data := .seq u2.toArray } : Obj)) (u := .frz ({ cls := .type "tuple", data := .seq u2.toArray } : Obj) (.tup rest)) hn
        exact h _ _ [w0, dv, V.ref s.heap.objs.size] [u1, mv, Value.ref s.heap.objs.size] (StX.env0_laid e0 new) un rfl (fun e s' => StX.cxUp outer s H _ _ E e s' un (fun b o q => Heap.get?_push_of_some _ q) rfl) (.cons r1 (.cons rmv (.cons rfl .nil))) rfl ⟨_, _, hn, rfl, rfl, rfl⟩
      · subst ex eH
        exact hbody cdv A outer s2 _ _ Q E hr' (hq' p o hp ho)
  · exact absurd rfl e
end
end S
namespace S
open PySem PySem.Spec PyProof.Rows L2
/-! ### making an instance by a promise for any row of arguments; o[i] = v and x += y by own methods, where they may raise; t.count(x) -/
def tMkR (C : Addr) (sp : Sp) (E : L2.St → XK) (t : TA) : TE := fun σ H Q => t σ H fun vs H1 => ∀ x dx, H1 x = Option.none → H1 dx = Option.none → dx ≠ x →
  sp (V.ref x :: vs) (upd (upd H1 dx (.own x)) x (.ins C dx [])) (fun v H2 => v = .non ∧ Q (.ref x) H2) (E σ)
section
variable {X : Cx} {k : Nat} {f C g : Addr} {sp : Sp} {E : L2.St → XK} {x : Str} {e o i : Expr} {es : List Expr} {t : TA} {p pos : Pos}
theorem run_mkR {pins : List (Addr × Obj)} {σ : L2.St} {H : Hp} {s : Shared} {Q : VK} {us : List Value} {vs : List V} (M : Mk X.K C f) (F : FnR X.prog X.w X.K X.mg X.base (L2.CX X.prog X.w) k f sp) (hr : Room (k + 1) X.A) (hx : PassesAt (L2.CX X.prog X.w) X σ (E σ)) (I : Inv X pins σ H s) (r : Vals vs us)
    (h : ∀ x dx, H x = Option.none → H dx = Option.none → dx ≠ x → sp (V.ref x :: vs) (upd (upd H dx (.own x)) x (.ins C dx [])) (fun v H2 => v = .non ∧ Q (.ref x) H2) (E σ)) :
    wpAny (model X.prog X.w) X.A (call (.ref C) us) (EP X pins σ Q) X.xe s := by
  have hq := h (s.heap.objs.size + 1) s.heap.objs.size (I.hok.fresh (Nat.le_succ _)) (I.hok.fresh (Nat.le_refl _)) (Nat.ne_of_lt (Nat.lt_succ_self _))
  have I2 := Inv.made (C := C) I
  have r2 : Vals (V.ref (s.heap.objs.size + 1) :: vs) (Value.ref (s.heap.objs.size + 1) :: us) := .cons rfl r
  refine wpAny_call (make_map (f := f) I.kIn M.makes M.init (beq_iff_eq.mp M.fn) (codeAny_mono (F _ X.stack _ _ (Value.ref (s.heap.objs.size + 1) :: us) _ _ (E σ) (hr.make C us []) (I2.env0.make C us []) r2 hq) fun r s' hq' => ?_))
  cases r with
  | error e => exact hx pins _ _ e s' I2 hq'
  | ok fl =>
    cases fl with
    | ret u =>
      obtain ⟨v, H', I3, rv, ev, q3⟩ := I2.after hq'
      subst ev
      exact ⟨rv, ⟨V.ref (s.heap.objs.size + 1), H', I3, rfl, q3⟩⟩
    | next => exact False.elim hq'
    | brk => exact False.elim hq'
    | cont => exact False.elim hq'
theorem pe_mkR (M : Mk X.K C f) (F : FnR X.prog X.w X.K X.mg X.base (L2.CX X.prog X.w) k f sp) (hr : Room (k + 1) X.A) (hg : Gl X x) (hm : X.mg x = some (.ref C)) (hx : ∀ σ, PassesAt (L2.CX X.prog X.w) X σ (E σ)) (ha : PA X (e :: es) t) (hdb : (x == ("__debug__" : Str)) = false := by decide)
    (he : starEach (e :: es) X.env = (false, eval e X.env) :: starEach es X.env := by rfl) (hpl : (backTo pos (starEach es X.env)).any (·.1) = false := by rfl) : PE X (.Call (.Name x p) (e :: es) [] pos) (tMkR C sp E t) := by
  refine ⟨fun pins s σ H Q I h => ?_⟩
  refine wpAny_Call_Name_kw (ld_glob I hg hm ?_ hdb)
  refine PySem.W.callWith_K (h₀ := X.base) I.ok.mod.kin M.kp (thn (ha.run pos pins s σ H _ I h) fun us s1 ⟨vs, H1, I1, r, q⟩ => ⟨I1.kIn, ?_⟩) he hpl
  exact run_mkR M F hr (hx σ) I1 r q
theorem pe_mkR0 (M : Mk X.K C f) (F : FnR X.prog X.w X.K X.mg X.base (L2.CX X.prog X.w) k f sp) (hr : Room (k + 1) X.A) (hg : Gl X x) (hm : X.mg x = some (.ref C)) (hx : ∀ σ, PassesAt (L2.CX X.prog X.w) X σ (E σ)) (hdb : (x == ("__debug__" : Str)) = false := by decide)
    (hpl : ((backTo pos (starEach [] X.env)).any (·.1) || (backToKw pos (keywordEach [] X.env)).any (·.1.isNone)) = false := by rfl) (hall : (backToKw pos (keywordEach [] X.env)).all (·.1.isSome) = true := by rfl) :
    PE X (.Call (.Name x p) [] [] pos) (tMkR C sp E tNil) := by
  refine ⟨fun pins s σ H Q I h => ?_⟩
  refine wpAny_Call_Name_kw (ld_glob I hg hm ?_ hdb)
  refine PySem.W.callWith_KW0 (first := []) (h₀ := X.base) I.ok.mod.kin M.kp hall ?_ hpl
  refine wpAny_evalAll_nil ⟨I.kIn, ?_⟩
  exact run_mkR (us := []) (vs := []) M F hr (hx σ) I .nil h
/-- o[i] = v by an own def -/
def sSetO (C : Addr) (sp : Sp) (E : L2.St → XK) (tv to ti : TE) : TS := fun D σ H => tv σ H fun v H1 => to σ H1 fun x H2 => ti σ H2 fun y H3 => ∃ a dx fs, x = .ref a ∧ H3 a = some (.ins C dx fs) ∧ sp [.ref a, y, v] H3 (fun _ H4 => D.nx σ H4) (E σ)
theorem ps_setO {value : Expr} {tv to ti : TE} {pos' : Pos} (hq : PySem.W.noSeq X.K C = true) (hs : PySem.W.findIn X.K (.ref C) "__setitem__" = some (some (.ref g))) (hf : PySem.W.isFn X.K (.ref g) = true)
    (F : FnR X.prog X.w X.K X.mg X.base (L2.CX X.prog X.w) k g sp) (hr : Room k X.A) (hx : ∀ σ, PassesAt (L2.CX X.prog X.w) X σ (E σ)) (ho : PE X o to) (hi : PE X i ti) (hv : PE X value tv)
    (hsw : swapsWith value (some (.Subscript o i pos')) pos.line X.env = pure false := by rfl) : PS X (.Assign [.Subscript o i pos'] value pos) (sSetO C sp E tv to ti) := by
  refine ⟨fun pins s σ H D I h => ?_⟩
  refine wpAny_Assign_Subscript (thn (hv.run pins s σ H _ I h) fun u s1 ⟨v, H1, I1, rv, q1⟩ => thn (ho.run pins s1 σ H1 _ I1 q1) fun ov s2 ⟨x, H2, I2, rx, q2⟩ => thn (hi.run pins s2 σ H2 _ I2 q2) fun iv s3 ⟨y, H3, I3, ry, a, dx, fs, ex, ea, q3⟩ => ?_) hsw
  subst ex
  obtain rfl : ov = Value.ref a := rx
  obtain ⟨mA, O, _⟩ := ins_get I3.hok ea
  obtain ⟨od, J, _⟩ := O.look
  obtain ⟨m, hF⟩ := I3.fr
  refine PySem.W.ksp_setItem hF I3.ok.mod.kin J hq hs hf ?_
  refine wpAny_mono (wpAny_call (run_at0 (us := [.ref a, iv, u]) (vs := [.ref a, y, v]) F hr I3 (hx σ) (.cons rfl (.cons ry (.cons rv .nil))) q3)) (fun w s' z => ?_) fun _ _ x => x
  obtain ⟨z2, H4, I4, rz, qz⟩ := z
  exact ⟨σ, H4, I4, qz⟩
/-- x += y by an own def -/
def sIpO (j : Nat) (C : Addr) (sp : Sp) (E : L2.St → XK) (te : TE) : TS := fun D σ H => ∃ v, σ[j]? = some (some v) ∧ te σ H fun y H1 => ∃ a dx fs, v = .ref a ∧ H1 a = some (.ins C dx fs) ∧ sp [v, y] H1 (fun z H2 => D.nx (σ.set j (some z)) H2) (E σ)
theorem ps_augO {op : Operator} {j : Nat} {te : TE} {pos' : Pos} (hN : X.N.Nodup) (hi : X.N[j]? = some x) (hl : Loc X.env.scope x) (he : PE X e te) (hc : PySem.W.selfFirst X.K C = true) (hs : PySem.W.findIn X.K (.ref C) (dunderI op.info.2) = some (some (.ref g))) (hf : PySem.W.isFn X.K (.ref g) = true)
    (F : FnR X.prog X.w X.K X.mg X.base (L2.CX X.prog X.w) k g sp) (hr : Room k X.A) (hx : ∀ σ, PassesAt (L2.CX X.prog X.w) X σ (E σ)) (hfn : X.fn x = true ∨ X.env.scope.names.lookup x = some .local := by first | exact .inl rfl | exact .inr rfl | assumption) :
    PS X (.AugAssign (.Name x pos') op e pos) (sIpO j C sp E te) := by
  refine ⟨fun pins s σ H D I h => ?_⟩
  obtain ⟨v, e1, h⟩ := h
  obtain ⟨m, hn, hl2⟩ := I.loc
  have vis : Vis X.env.scope x := by rcases hl with k | k; exact .inl k; exact .inr (.inl k)
  obtain ⟨u, r, l⟩ := hl2 j x v hi e1 vis
  refine wpAny_AugAssign_Name ?_
  have go : wpAny (model X.prog X.w) X.A (eval e X.env) (fun w s₂ => wpAny (model X.prog X.w) X.A (inplaceOp op u w) (fun r s₃ => wpAny (model X.prog X.w) X.A (storeName X.env x r) (fun _ => SP X pins D .next) X.xe s₃) X.xe s₂) X.xe s := by
    refine thn (he.run pins s σ H _ I h) fun w s1 ⟨y, H1, I1, r1, a, dx, fs, ev, ea, q1⟩ => ?_
    subst ev
    cases (show u = Value.ref a from r)
    obtain ⟨mA, O, _⟩ := ins_get I1.hok ea
    obtain ⟨od, J, _⟩ := O.look
    obtain ⟨mf, hF⟩ := I1.fr
    refine PySem.W.ksp_inplace hF I1.ok.mod.kin J hc hs hf ?_
    refine wpAny_mono (wpAny_call (run_at0 (us := [.ref a, w]) (vs := [.ref a, y]) F hr I1 (hx σ) (.cons rfl (.cons r1 .nil)) q1)) (fun rr s' z => ?_) fun _ _ x => x
    obtain ⟨zv, H2, I2, r2, q2⟩ := z
    exact SlX.cmpback r2 (store_ok I2 hN hi hl r2 (fun s3 I3 => ⟨_, H2, I3, q2⟩) hfn)
  rcases l with ⟨hk, hm⟩ | ⟨hk, c, hc2, hcell⟩
  · exact wpAny_loadName_local I.ok.kind hk hn hm go
  · rcases hk with hk | hk
    · exact wpAny_loadName_cell I.ok.kind hk hc2 hcell go
    · rcases hl with k | k
      · have : X.env.scope.names.lookup x = some .free := hk
        rw [k] at this; cases this
      · have : X.env.scope.names.lookup x = some .free := hk
        rw [k] at this; cases this
/-! t.count(x), texts -/
theorem dp_strs {K : PySem.W.Frag} {H : Hp} : ∀ ws : List Str, DpAll K H (ws.map V.str) (ws.map .str)
  | [] => .nil
  | _ :: ws => .cons (.str _) (dp_strs ws)
theorem plain_strs : ∀ ws : List Str, PyData.plainAll (ws.map .str) = true
  | [] => by simp [PyData.plainAll]
  | _ :: ws => by
    have := plain_strs ws
    simp [PyData.plainAll, PyData.plain, this]
theorem count_strs (z : Str) : ∀ ws : List Str, (((ws.map PyData.str).countP fun y => PyData.eqv y (.str z) : Nat)) = ws.count z
  | [] => rfl
  | w :: ws => by
    rw [List.map_cons, List.countP_cons, count_strs z ws, List.count_cons]
    have : PyData.eqv (.str w) (.str z) = (w == z) := by simp [PyData.eqv]
    rw [this]
def rCountT (K : PySem.W.Frag) : V → List V → Hp → VK → Prop := fun x xs H Q => ∃ (a : Addr) (ws : List Str) (z : Str), x = V.ref a ∧ xs = [.str z] ∧ SqT K H a (ws.map V.str) ∧ Q (.int (ws.count z : Nat)) H
theorem mt_countT (hu : X.A.units + 64 < cLine) : MtR X "tuple.count" (rCountT X.K) := by
  intro pins s σ H x xs v us Q I rx rxs h
  obtain ⟨a, ws, z, rfl, rfl, hs, q⟩ := h
  cases rx
  cases rxs with
  | cons ry rt =>
    rename_i uy ut
    cases rt
    obtain ⟨its, rv, ht, _⟩ := I.tuple hs
    obtain ⟨as, r1⟩ := Dp.readsAll I (ws.map .str) _ its (dp_strs ws) rv
    obtain ⟨bs, r2⟩ := Dp.reads I (.str z) _ uy (.str z) ry
    refine PySem.SeqAt.count_tuple_data (vs := its.toArray) ht (by simpa using r1) r2 (plain_strs ws) rfl ?_ ?_
    · have : PyData.depth (.str z) = 0 := by simp [PyData.depth]
      rw [this]
      omega
    · rw [count_strs]
      exact ⟨.int _, H, I.tok _, ⟨_, rfl⟩, q⟩
def rCountL (K : PySem.W.Frag) : V → List V → Hp → VK → Prop := fun x xs H Q => ∃ (a : Addr) (ws : List Str) (z : Str), x = V.ref a ∧ xs = [.str z] ∧ SqL K H a (ws.map V.str) ∧ Q (.int (ws.count z : Nat)) H
end
end S
namespace S
open PySem PySem.Spec PyProof.Rows L2
theorem hop_le : ∀ a b, compareOp .LtE a b = richCompare .LtE a b := fun _ _ => rfl
end S
namespace S
open PySem PySem.Spec PyProof.Rows L2
theorem mt_countK {X : Cx} {K : PySem.W.Frag} (hK : X.K = K) (hu : X.A.units + 64 < cLine) : MtR X "tuple.count" (rCountT K) := hK ▸ mt_countT hu
/-- t.count(x), a tuple of texts -/
def tTCnt (K : PySem.W.Frag) (to te : TE) : TE := fun σ H Q => to σ H fun x H1 => ∃ (a : Addr) (o : Obj) (ws : List Str), x = V.ref a ∧ H1 a = some (.frz o (.tup (ws.map V.str))) ∧ o.dict = none ∧ te σ H1 fun y H2 => ∃ z : Str, y = .str z ∧ SqT K H2 a (ws.map V.str) ∧ Q (.int (ws.count z : Nat)) H2
theorem pe_tcount {X : Cx} {K : PySem.W.Frag} {o e : Expr} {apos cpos : Pos} {to te : TE} (hK : X.K = K) (hu : X.A.units + 64 < cLine) (ho : PE X o to) (he : PE X e te) (m : M1 X o "count" apos e cpos) : PE X (.Call (.Attribute o "count" apos) [e] [] cpos) (tTCnt K to te) := by
  subst hK
  refine ⟨fun pins s σ H Q I h => ?_⟩
  refine wpAny_Call_method m.base m.few m.line PySem.F.plainAttrs_tuple PySem.F.slot_tuple_count PySem.F.type_tuple_count (thn (ho.run pins s σ H _ I h) fun u s1 ⟨x, H1, I1, rx, a, ob, ws, ex, ha, hdn, q1⟩ => ?_)
  subst ex
  obtain rfl : u = Value.ref a := rx
  obtain ⟨its, rv, ht, _⟩ := I1.tuple (X := X) (.inl (.inr ⟨ob, ha⟩))
  refine ⟨Heap.IsTuple.typeIs ht, fun b e => ?_, ?_⟩
  · cases e
    exact ⟨ob, (I1.hok a _ ha).1, hdn⟩
  rw [m.trees]
  refine PySem.Calls.callWith_builtin rfl (PySem.Calls.evalArgs_plain (PySem.Calls.spliced_cons (thn (he.run pins s1 σ H1 _ I1 q1) fun iv s2 ⟨y, H2, I2, ry, z, ey, ha2, q2⟩ => PySem.Calls.spliced_nil ?_)))
  subst ey
  exact mt_countT hu pins s2 σ H2 (.ref a) [.str z] (.ref a) [iv] Q I2 rfl (.cons ry .nil) ⟨a, ws, z, rfl, rfl, ha2, q2⟩
end S
namespace S
open PySem PySem.Spec PyProof.Rows L2
/-! ### a def with a starred and a keyword-only parameter that is given; own operators of plain classes -/
def FnRK (P : Program) (w : World) (K : PySem.W.Frag) (mg : Str → Option Value) (base : Heap) (CX : CXT) (k : Nat) (f : Addr) (pk : Str) (sp : Sp) : Prop :=
  ∀ (A : Around) (outer : List Env) (s : Shared) (H : Hp) (u1 u2 : Value) (w0 tv : V) (Q : VK) (E : XK), Room k A → Env0 P w K mg base A outer s H → RelV w0 u1 → RelV tv u2 → sp [w0, tv] H Q E →
    codeAny (model P w) A (.call (.ref f) ⟨[u1], [(pk, u2)]⟩) (CR CX outer P w H s Q E) s
section
variable {P : Program} {w : World} {K : PySem.W.Frag} {mg : Str → Option Value} {base : Heap} {k : Nat} {f : Addr} {fd : FuncData} {x qual : Str} {params : Arguments} {body : List Stmt} {scope : Scope} {N : List Str} {sp : Sp} {p1 pk pv : Str} {dv : V}
def spStarK (sp : Sp) : Sp := fun vs H Q E => ∃ w tv, vs = [w, tv] ∧ ∀ p o, H p = Option.none → o.dict = Option.none → sp [w, tv, V.ref p] (upd H p (.frz o (.tup []))) Q E
theorem FunD.star2K (F : FunD K x qual params body scope [] [(pk, dv)] f fd) (S : FnScope N [p1, pk, pv] scope)
    (hb : ∀ (D : Addr) (doc pm : Value) (an : Option Addr) (cdv ct : Value) (a mv : Value), bindArgs (PySem.W.fnOf x qual params body scope .none (.ref D) doc pm an cdv ct) ⟨[a], [(pk, mv)]⟩ = (newTuple [] >>= fun t => pure [(p1, a), (pk, mv), (pv, t)]))
    (hbody : ∀ (cdv : Value) (A : Around) (outer : List Env) (s : Shared) (H : Hp) (vs : List V) (Q : VK) (E : XK), Room k (A.deeper (envOfC qual scope s.heap.objs.size f cdv)) → sp vs H Q E →
      ∃ t, PSs (cxOf (L2.CX P w) P w K mg base N qual scope f cdv A outer s H E) body t ∧ t { nx := fun _ H' => Q .non H', rt := Q } (start N vs) H) :
    FnRK P w K mg base (L2.CX P w) (k + 1) f pk (spStarK sp) := by
  obtain ⟨oc, od, dV, kV, doc, pm, an, cdv, ct, osl, rfl, lk, hcd, hD, hK⟩ := F.ex
  rcases hD with ⟨_, rfl⟩ | ⟨e, _⟩
  · rcases hK with e | ⟨D, rfl, hq⟩
    · cases e
    · intro A outer s H u1 u2 w0 tv Q E hr e0 r1 r2 hsp
      obtain ⟨w0', tv', ev, hq'⟩ := hsp
      cases ev
      have hn : H s.heap.objs.size = Option.none := e0.hok.fresh (Nat.le_refl _)
      refine StX.run_bnd (ps := [p1, pk, pv]) lk hcd S hr e0 (G := fun xs H2 => ∃ p o, H p = Option.none ∧ o.dict = Option.none ∧ xs = [w0, tv, V.ref p] ∧ H2 = upd H p (.frz o (.tup []))) (fun A' Ex Q' h => ?_) fun s2 H2 xs ⟨p, o, hp, ho, ex, eH⟩ hr' => ?_
      · rw [hb D doc pm an cdv ct u1 u2]
        refine wpAny_bind (wpAny_newTuple (wpAny_pure ?_) (Nat.zero_le _))
        have new : ObjOk P w (upd H s.heap.objs.size (.frz ({ cls := .type "tuple", data := .seq ([] : List Value).toArray } : Obj) (.tup []))) (s.heap.push ({ cls := .type "tuple", data := .seq ([] : List Value).toArray } : Obj)) s.heap.objs.size (.frz ({ cls := .type "tuple", data := .seq ([] : List Value).toArray } : Obj) (.tup [])) := ⟨Heap.get?_push_size _ rfl, Nat.zero_le _, [], .nil, ⟨_, Heap.get?_push_size _ rfl, rfl, _, rfl⟩⟩
        have un := StX.un_laid (fs := frs outer) (s := s) (o := ({ cls := .type "tuple", data := .seq ([] : List Value).toArray } : Obj)) (u := .frz ({ cls := .type "tuple", data := .seq ([] : List Value).toArray } : Obj) (.tup [])) hn
        exact h _ _ [w0, tv, V.ref s.heap.objs.size] [u1, u2, Value.ref s.heap.objs.size] (StX.env0_laid e0 new) un rfl (fun e s' => StX.cxUp outer s H _ _ E e s' un (fun b o q => Heap.get?_push_of_some _ q) rfl) (.cons r1 (.cons r2 (.cons rfl .nil))) rfl ⟨_, _, hn, rfl, rfl, rfl⟩
      · subst ex eH
        exact hbody cdv A outer s2 _ _ Q E hr' (hq' p o hp ho)
  · exact absurd rfl e
end
def tMkRK (C : Addr) (sp : Sp) (E : L2.St → XK) (tk : TA) : TE := fun σ H Q => tk σ H fun zs H1 => ∃ tv, zs = [tv] ∧ ∀ x dx, H1 x = Option.none → H1 dx = Option.none → dx ≠ x →
  sp [V.ref x, tv] (upd (upd H1 dx (.own x)) x (.ins C dx [])) (fun v H2 => v = .non ∧ Q (.ref x) H2) (E σ)
section
variable {X : Cx} {k : Nat} {f C : Addr} {sp spR : Sp} {E : L2.St → XK} {x pk : Str} {kws : List Keyword} {tk : TA} {p pos : Pos}
theorem pe_mkRK (M : Mk X.K C f) (F : FnRK X.prog X.w X.K X.mg X.base (L2.CX X.prog X.w) k f pk sp) (hr : Room (k + 1) X.A) (hg : Gl X x) (hm : X.mg x = some (.ref C)) (hx : ∀ σ, PassesAt (L2.CX X.prog X.w) X σ (E σ)) (hkw : PK X kws tk)
    (hall : (backToKw pos (keywordEach kws X.env)).all (·.1.isSome) = true) (hks : (backToKw pos (keywordEach kws X.env)).filterMap (·.1) = [pk]) (hdb : (x == ("__debug__" : Str)) = false := by decide)
    (hpl : ((backTo pos (starEach [] X.env)).any (·.1) || (backToKw pos (keywordEach kws X.env)).any (·.1.isNone)) = false := by rfl) : PE X (.Call (.Name x p) [] kws pos) (tMkRK C sp E tk) := by
  refine ⟨fun pins s σ H Q I h => ?_⟩
  refine wpAny_Call_Name_kw (ld_glob I hg hm ?_ hdb)
  refine PySem.W.callWith_KW0 (first := []) (h₀ := X.base) I.ok.mod.kin M.kp hall (thn (hkw.run pos pins s σ H _ I h) fun ws s2 ⟨zs, H2, I2, rz, tv, ez, q⟩ => ⟨I2.kIn, ?_⟩) hpl
  subst ez
  rw [hks]
  cases rz with
  | @cons _ u _ us r1 r2 =>
  cases r2
  have hq := q (s2.heap.objs.size + 1) s2.heap.objs.size (I2.hok.fresh (Nat.le_succ _)) (I2.hok.fresh (Nat.le_refl _)) (Nat.ne_of_lt (Nat.lt_succ_self _))
  have J := Inv.made (C := C) I2
  refine wpAny_call (make_map (f := f) I2.kIn M.makes M.init (beq_iff_eq.mp M.fn) (codeAny_mono (F _ X.stack _ _ (Value.ref (s2.heap.objs.size + 1)) u (V.ref (s2.heap.objs.size + 1)) tv _ (E σ) (hr.make C [] [(pk, u)]) (J.env0.make C [] [(pk, u)]) rfl r1 hq) fun r s' hq' => ?_))
  match r, hq' with
  | .error e, hq' => exact hx σ pins _ _ e s' J hq'
  | .ok (.ret u), hq' =>
    obtain ⟨v, H', I3, rv, ev, q3⟩ := J.after hq'
    subst ev
    exact ⟨rv, ⟨V.ref (s2.heap.objs.size + 1), H', I3, rfl, q3⟩⟩
  | .ok .next, hq' => exact hq'.elim
  | .ok .brk, hq' => exact hq'.elim
  | .ok .cont, hq' => exact hq'.elim
end
/-- x op y, both instances of a plain class -/
def tBinI (C : Addr) (sp : Sp) (E : L2.St → XK) (ta tb : TE) : TE := fun σ H Q => ta σ H fun x H1 => tb σ H1 fun y H2 => ∃ a dx fs b dy gs, x = .ref a ∧ y = .ref b ∧ H2 a = some (.ins C dx fs) ∧ H2 b = some (.ins C dy gs) ∧ sp [x, y] H2 Q (E σ)
/-- x op y, one of them an instance of a plain class, the other an int -/
def tBinIN (C : Addr) (sp spR : Sp) (E : L2.St → XK) (ta tb : TE) : TE := fun σ H Q => ta σ H fun x H1 => tb σ H1 fun y H2 => (∃ a dx fs i, x = .ref a ∧ y = .int i ∧ H2 a = some (.ins C dx fs) ∧ sp [x, y] H2 Q (E σ)) ∨ (∃ b dy gs i, x = .int i ∧ y = .ref b ∧ H2 b = some (.ins C dy gs) ∧ spR [y, x] H2 Q (E σ))
section
variable {X : Cx} {C f g : Addr} {n k : Nat} {sp spR : Sp} {E : L2.St → XK} {op : Operator} {idl : String} {B : Builtin} {a b : Expr} {ta tb : TE} {pos : Pos}
theorem pe_binII (sf : PySem.W.selfFirst X.K C = true) (at_ : PySem.W.findIn X.K (.ref C) (PySem.dunder op.info.2) = some (some (.ref f))) (fn : PySem.W.isFn X.K (.ref f) = true)
    (F : FnR X.prog X.w X.K X.mg X.base (L2.CX X.prog X.w) n f sp) (hr : Room n X.A) (hx : ∀ σ, PassesAt (L2.CX X.prog X.w) X σ (E σ)) (ha : PE X a ta) (hb : PE X b tb) : PE X (.BinOp a op b pos) (tBinI C sp E ta tb) := by
  refine ⟨fun pins s σ H Q I h => wpAny_BinOp (binT ha hb I h fun v u s2 x y H2 I2 rx ry q => ?_)⟩
  obtain ⟨m, hF⟩ := I2.fr
  obtain ⟨a, dx, fs, b, dy, gs, rfl, rfl, h1, h2, q⟩ := q
  cases (show v = Value.ref a from rx)
  cases (show u = Value.ref b from ry)
  obtain ⟨mA, O, _⟩ := ins_get I2.hok h1
  obtain ⟨od, J, _⟩ := O.look
  obtain ⟨mB, O', _⟩ := ins_get I2.hok h2
  obtain ⟨od', J', _⟩ := O'.look
  exact PySem.W.binop_K hF I2.ok.mod.kin J J'.type sf at_ fn (wpAny_mono (wpAny_call (run_fnAt (us := [.ref a, .ref b]) (ws := [.ref a, .ref b]) F hr (hx σ) I2 (.cons rfl (.cons rfl .nil)) q)) (fun w s' z => cb_of z) fun _ _ x => x)
theorem pe_binIN (io : IntOp op idl B) (c : BinC X.K C op.info.2 f g) (F : FnR X.prog X.w X.K X.mg X.base (L2.CX X.prog X.w) n f sp) (hr : Room n X.A) (G : FnR X.prog X.w X.K X.mg X.base (L2.CX X.prog X.w) k g spR) (hr2 : Room k X.A)
    (hx : ∀ σ, PassesAt (L2.CX X.prog X.w) X σ (E σ)) (ha : PE X a ta) (hb : PE X b tb) : PE X (.BinOp a op b pos) (tBinIN C sp spR E ta tb) := by
  refine ⟨fun pins s σ H Q I h => wpAny_BinOp (binT ha hb I h fun v u s2 x y H2 I2 rx ry q => ?_)⟩
  obtain ⟨m, hF⟩ := I2.fr
  rcases q with ⟨a, dx, vs, i, rfl, rfl, h1, q⟩ | ⟨b, dy, ws, i, rfl, rfl, h1, q⟩
  · cases (show v = Value.ref a from rx)
    obtain ⟨t, rfl⟩ := (show ∃ t, u = Value.int i t from ry)
    obtain ⟨mA, O, _⟩ := ins_get I2.hok h1
    obtain ⟨od, J, _⟩ := O.look
    obtain ⟨fo, e1⟩ := c.i1
    obtain ⟨ro, e2⟩ := c.i2
    exact PySem.W.ksp_binT (T := "int") hF I2.ok.mod.kin J rfl c.sf c.at_ c.fn c.atR (.inr ⟨_, rfl⟩) e1 e2 c.us (wpAny_mono (wpAny_call (run_fnAt (us := [.ref a, .int i t]) (ws := [.ref a, .int i]) F hr (hx σ) I2 (.cons rfl (.cons ⟨t, rfl⟩ .nil)) q)) (fun w s' z => cb_of z) fun _ _ x => x)
  · obtain ⟨t, rfl⟩ := (show ∃ t, v = Value.int i t from rx)
    cases (show u = Value.ref b from ry)
    obtain ⟨mA, O, _⟩ := ins_get I2.hok h1
    obtain ⟨od, J, _⟩ := O.look
    exact bin_refl io I2.kIn J ⟨_, J.at_, fun _ _ => by intro z; cases z⟩ c.sf c.at_ c.atR c.fnR c.su (wpAny_mono (wpAny_call (run_fnAt (us := [.ref b, .int i t]) (ws := [.ref b, .int i]) G hr2 (hx σ) I2 (.cons rfl (.cons ⟨t, rfl⟩ .nil)) q)) (fun w s' z => cb_of z) fun _ _ x => x)
end
theorem sortedSK {X : Cx} {K : PySem.W.Frag} (hK : X.K = K) : CallR X (.builtin "sorted") (rSortedS K) := hK ▸ cr_sortedS
theorem boot_sorted : bootBuiltins "sorted" = some (.builtin "sorted") := by decide +kernel
end S
namespace S
open PySem PySem.Spec PyProof.Rows L2
/-! l.count(x), a list of texts -/
theorem mt_countL {X : Cx} (hu : X.A.units + 64 < cLine) : MtR X "list.count" (rCountL X.K) := by
  intro pins s σ H x xs v us Q I rx rxs h
  obtain ⟨a, ws, z, rfl, rfl, hs, q⟩ := h
  cases rx
  cases rxs with
  | cons ry rt =>
    rename_i uy ut
    cases rt
    obtain ⟨its, rv, ht, _⟩ := I.list hs
    obtain ⟨as, r1⟩ := Dp.readsAll I (ws.map .str) _ its (dp_strs ws) rv
    obtain ⟨bs, r2⟩ := Dp.reads I (.str z) _ uy (.str z) ry
    refine PySem.SeqAt.count_list_data (vs := its.toArray) ht.isList (by simpa using r1) r2 (plain_strs ws) rfl ?_ ?_
    · have : PyData.depth (.str z) = 0 := by simp [PyData.depth]
      rw [this]
      omega
    · rw [count_strs]
      exact ⟨.int _, H, I.tok _, ⟨_, rfl⟩, q⟩
theorem mt_countLK {X : Cx} {K : PySem.W.Frag} (hK : X.K = K) (hu : X.A.units + 64 < cLine) : MtR X "list.count" (rCountL K) := hK ▸ mt_countL hu
end S
namespace W
open PySem PySem.Spec PyProof.Rows L2
def top (i : Nat) : Stmt := PySem.Challenge.pw_seenshares_k27_counts_operators.main.body.getD i (.Pass ⟨0, 0, 0, 0⟩)
abbrev s_is_integer : Stmt := top 4
theorem sc_is_integer : FnScope ["value"] ["value"] (defScope s_is_integer) := by
  refine ⟨rfl, rfl, rfl, ?_, rfl, ?_, ?_⟩ <;> decide +kernel
abbrev d_is_integer : He.DefD := ⟨("is_integer", none), "is_integer", "is_integer", defArgs s_is_integer, defBody s_is_integer, defScope s_is_integer, [], []⟩
abbrev s_is_name : Stmt := top 5
theorem sc_is_name : FnScope ["value", "char"] ["value"] (defScope s_is_name) := by
  refine ⟨rfl, rfl, rfl, ?_, rfl, ?_, ?_⟩ <;> decide +kernel
abbrev d_is_name : He.DefD := ⟨("is_name", none), "is_name", "is_name", defArgs s_is_name, defBody s_is_name, defScope s_is_name, [], []⟩
abbrev s_NoCounts___init__ : Stmt := inClass (top 8) 0
theorem sc_NoCounts___init__ : FnScope ["self", "name"] ["self", "name"] (defScope s_NoCounts___init__) := by
  refine ⟨rfl, rfl, rfl, ?_, rfl, ?_, ?_⟩ <;> decide +kernel
abbrev d_NoCounts___init__ : He.DefD := ⟨("NoCounts", some "__init__"), "__init__", "NoCounts.__init__", defArgs s_NoCounts___init__, defBody s_NoCounts___init__, defScope s_NoCounts___init__, [], []⟩
abbrev s_merge : Stmt := top 10
theorem sc_merge : FnScope ["left", "right", "out", "at", "row"] ["left", "right"] (defScope s_merge) := by
  refine ⟨rfl, rfl, rfl, ?_, rfl, ?_, ?_⟩ <;> decide +kernel
abbrev d_merge : He.DefD := ⟨("merge", none), "merge", "merge", defArgs s_merge, defBody s_merge, defScope s_merge, [], []⟩
abbrev s_in_order : Stmt := top 11
theorem sc_in_order : FnScope ["rows", "parts", "row", "merged", "at"] ["rows"] (defScope s_in_order) := by
  refine ⟨rfl, rfl, rfl, ?_, rfl, ?_, ?_⟩ <;> decide +kernel
abbrev d_in_order : He.DefD := ⟨("in_order", none), "in_order", "in_order", defArgs s_in_order, defBody s_in_order, defScope s_in_order, [], []⟩
abbrev s_check_names : Stmt := top 13
theorem sc_check_names : FnScope ["names", "name"] ["names"] (defScope s_check_names) := by
  refine ⟨rfl, rfl, rfl, ?_, rfl, ?_, ?_⟩ <;> decide +kernel
abbrev d_check_names : He.DefD := ⟨("check_names", none), "check_names", "check_names", defArgs s_check_names, defBody s_check_names, defScope s_check_names, [], []⟩
abbrev s_Counts___init__ : Stmt := inClass (top 14) 0
theorem sc_Counts___init__ : FnScope ["self", "table", "names", "name"] ["self", "table", "names"] (defScope s_Counts___init__) := by
  refine ⟨rfl, rfl, rfl, ?_, rfl, ?_, ?_⟩ <;> decide +kernel
abbrev d_Counts___init__ : He.DefD := ⟨("Counts", some "__init__"), "__init__", "Counts.__init__", defArgs s_Counts___init__, defBody s_Counts___init__, defScope s_Counts___init__, [], [("table", .non)]⟩
abbrev s_Counts___getitem__ : Stmt := inClass (top 14) 1
theorem sc_Counts___getitem__ : FnScope ["self", "at"] ["self", "at"] (defScope s_Counts___getitem__) := by
  refine ⟨rfl, rfl, rfl, ?_, rfl, ?_, ?_⟩ <;> decide +kernel
abbrev d_Counts___getitem__ : He.DefD := ⟨("Counts", some "__getitem__"), "__getitem__", "Counts.__getitem__", defArgs s_Counts___getitem__, defBody s_Counts___getitem__, defScope s_Counts___getitem__, [], []⟩
abbrev s_Counts___setitem__ : Stmt := inClass (top 14) 2
theorem sc_Counts___setitem__ : FnScope ["self", "at", "worth"] ["self", "at", "worth"] (defScope s_Counts___setitem__) := by
  refine ⟨rfl, rfl, rfl, ?_, rfl, ?_, ?_⟩ <;> decide +kernel
abbrev d_Counts___setitem__ : He.DefD := ⟨("Counts", some "__setitem__"), "__setitem__", "Counts.__setitem__", defArgs s_Counts___setitem__, defBody s_Counts___setitem__, defScope s_Counts___setitem__, [], []⟩
abbrev s_Counts___contains__ : Stmt := inClass (top 14) 4
theorem sc_Counts___contains__ : FnScope ["self", "x"] ["self", "x"] (defScope s_Counts___contains__) := by
  refine ⟨rfl, rfl, rfl, ?_, rfl, ?_, ?_⟩ <;> decide +kernel
abbrev d_Counts___contains__ : He.DefD := ⟨("Counts", some "__contains__"), "__contains__", "Counts.__contains__", defArgs s_Counts___contains__, defBody s_Counts___contains__, defScope s_Counts___contains__, [], []⟩
abbrev s_Counts___len__ : Stmt := inClass (top 14) 5
theorem sc_Counts___len__ : FnScope ["self"] ["self"] (defScope s_Counts___len__) := by
  refine ⟨rfl, rfl, rfl, ?_, rfl, ?_, ?_⟩ <;> decide +kernel
abbrev d_Counts___len__ : He.DefD := ⟨("Counts", some "__len__"), "__len__", "Counts.__len__", defArgs s_Counts___len__, defBody s_Counts___len__, defScope s_Counts___len__, [], []⟩
abbrev s_Counts___iadd__ : Stmt := inClass (top 14) 6
theorem sc_Counts___iadd__ : FnScope ["self", "other", "name", "number"] ["self", "other"] (defScope s_Counts___iadd__) := by
  refine ⟨rfl, rfl, rfl, ?_, rfl, ?_, ?_⟩ <;> decide +kernel
abbrev d_Counts___iadd__ : He.DefD := ⟨("Counts", some "__iadd__"), "__iadd__", "Counts.__iadd__", defArgs s_Counts___iadd__, defBody s_Counts___iadd__, defScope s_Counts___iadd__, [], []⟩
abbrev s_Counts___add__ : Stmt := inClass (top 14) 7
theorem sc_Counts___add__ : FnScope ["self", "other", "names", "name"] ["self", "other"] (defScope s_Counts___add__) := by
  refine ⟨rfl, rfl, rfl, ?_, rfl, ?_, ?_⟩ <;> decide +kernel
abbrev d_Counts___add__ : He.DefD := ⟨("Counts", some "__add__"), "__add__", "Counts.__add__", defArgs s_Counts___add__, defBody s_Counts___add__, defScope s_Counts___add__, [], []⟩
abbrev s_Counts___sub__ : Stmt := inClass (top 14) 8
theorem sc_Counts___sub__ : FnScope ["self", "other", "name"] ["self", "other"] (defScope s_Counts___sub__) := by
  refine ⟨rfl, rfl, rfl, ?_, rfl, ?_, ?_⟩ <;> decide +kernel
abbrev d_Counts___sub__ : He.DefD := ⟨("Counts", some "__sub__"), "__sub__", "Counts.__sub__", defArgs s_Counts___sub__, defBody s_Counts___sub__, defScope s_Counts___sub__, [], []⟩
abbrev s_Counts___mul__ : Stmt := inClass (top 14) 9
theorem sc_Counts___mul__ : FnScope ["self", "other", "name"] ["self", "other"] (defScope s_Counts___mul__) := by
  refine ⟨rfl, rfl, rfl, ?_, rfl, ?_, ?_⟩ <;> decide +kernel
abbrev d_Counts___mul__ : He.DefD := ⟨("Counts", some "__mul__"), "__mul__", "Counts.__mul__", defArgs s_Counts___mul__, defBody s_Counts___mul__, defScope s_Counts___mul__, [], []⟩
abbrev s_Counts___rmul__ : Stmt := inClass (top 14) 10
theorem sc_Counts___rmul__ : FnScope ["self", "other", "name"] ["self", "other"] (defScope s_Counts___rmul__) := by
  refine ⟨rfl, rfl, rfl, ?_, rfl, ?_, ?_⟩ <;> decide +kernel
abbrev d_Counts___rmul__ : He.DefD := ⟨("Counts", some "__rmul__"), "__rmul__", "Counts.__rmul__", defArgs s_Counts___rmul__, defBody s_Counts___rmul__, defScope s_Counts___rmul__, [], []⟩
abbrev s_Counts___le__ : Stmt := inClass (top 14) 11
theorem sc_Counts___le__ : FnScope ["self", "other", "name"] ["self", "other"] (defScope s_Counts___le__) := by
  refine ⟨rfl, rfl, rfl, ?_, rfl, ?_, ?_⟩ <;> decide +kernel
abbrev d_Counts___le__ : He.DefD := ⟨("Counts", some "__le__"), "__le__", "Counts.__le__", defArgs s_Counts___le__, defBody s_Counts___le__, defScope s_Counts___le__, [], []⟩
abbrev s_Counts___eq__ : Stmt := inClass (top 14) 12
theorem sc_Counts___eq__ : FnScope ["self", "other"] ["self", "other"] (defScope s_Counts___eq__) := by
  refine ⟨rfl, rfl, rfl, ?_, rfl, ?_, ?_⟩ <;> decide +kernel
abbrev d_Counts___eq__ : He.DefD := ⟨("Counts", some "__eq__"), "__eq__", "Counts.__eq__", defArgs s_Counts___eq__, defBody s_Counts___eq__, defScope s_Counts___eq__, [], []⟩
abbrev s_Counts_present : Stmt := inClass (top 14) 13
theorem sc_Counts_present : FnScope ["self"] ["self"] (defScope s_Counts_present) := by
  refine ⟨rfl, rfl, rfl, ?_, rfl, ?_, ?_⟩ <;> decide +kernel
abbrev d_Counts_present : He.DefD := ⟨("Counts", some "present"), "present", "Counts.present", defArgs s_Counts_present, defBody s_Counts_present, defScope s_Counts_present, [], []⟩
abbrev s_Counts_total : Stmt := inClass (top 14) 14
theorem sc_Counts_total : FnScope ["self", "name"] ["self"] (defScope s_Counts_total) := by
  refine ⟨rfl, rfl, rfl, ?_, rfl, ?_, ?_⟩ <;> decide +kernel
abbrev d_Counts_total : He.DefD := ⟨("Counts", some "total"), "total", "Counts.total", defArgs s_Counts_total, defBody s_Counts_total, defScope s_Counts_total, [], []⟩
abbrev s__law_cell : Stmt := top 16
theorem sc__law_cell : FnScope ["_law_script", "_law_k", "_law_cell_here", "_law_number", "_law_total", "_law_step"] ["_law_script", "_law_k"] (defScope s__law_cell) := by
  refine ⟨rfl, rfl, rfl, ?_, rfl, ?_, ?_⟩ <;> decide +kernel
abbrev d__law_cell : He.DefD := ⟨("_law_cell", none), "_law_cell", "_law_cell", defArgs s__law_cell, defBody s__law_cell, defScope s__law_cell, [], []⟩
abbrev s__law_take : Stmt := top 17
theorem sc__law_take : FnScope ["_law_draw", "_law_size", "_law_taken"] ["_law_draw", "_law_size"] (defScope s__law_take) := by
  refine ⟨rfl, rfl, rfl, ?_, rfl, ?_, ?_⟩ <;> decide +kernel
abbrev d__law_take : He.DefD := ⟨("_law_take", none), "_law_take", "_law_take", defArgs s__law_take, defBody s__law_take, defScope s__law_take, [], []⟩
abbrev s__law_is_integer : Stmt := top 18
theorem sc__law_is_integer : FnScope ["_law_value"] ["_law_value"] (defScope s__law_is_integer) := by
  refine ⟨rfl, rfl, rfl, ?_, rfl, ?_, ?_⟩ <;> decide +kernel
abbrev d__law_is_integer : He.DefD := ⟨("_law_is_integer", none), "_law_is_integer", "_law_is_integer", defArgs s__law_is_integer, defBody s__law_is_integer, defScope s__law_is_integer, [], []⟩
abbrev s__law_name : Stmt := top 19
theorem sc__law_name : FnScope ["_law_draw", "_law_used", "_law_letters", "_law_word", "_law_k", "_law_letter"] ["_law_draw", "_law_used"] (defScope s__law_name) := by
  refine ⟨rfl, rfl, rfl, ?_, rfl, ?_, ?_⟩ <;> decide +kernel
abbrev d__law_name : He.DefD := ⟨("_law_name", none), "_law_name", "_law_name", defArgs s__law_name, defBody s__law_name, defScope s__law_name, [], []⟩
abbrev s__law_sorted : Stmt := top 20
theorem sc__law_sorted : FnScope ["_law_items", "_law_out", "_law_item", "_law_at", "_law_k"] ["_law_items"] (defScope s__law_sorted) := by
  refine ⟨rfl, rfl, rfl, ?_, rfl, ?_, ?_⟩ <;> decide +kernel
abbrev d__law_sorted : He.DefD := ⟨("_law_sorted", none), "_law_sorted", "_law_sorted", defArgs s__law_sorted, defBody s__law_sorted, defScope s__law_sorted, [], []⟩
abbrev s__law_counts_fit : Stmt := top 21
theorem sc__law_counts_fit : FnScope ["_law_counts", "_law_model", "_law_words_here", "_law_names", "_law_word"] ["_law_counts", "_law_model", "_law_words_here"] (defScope s__law_counts_fit) := by
  refine ⟨rfl, rfl, rfl, ?_, rfl, ?_, ?_⟩ <;> decide +kernel
abbrev d__law_counts_fit : He.DefD := ⟨("_law_counts_fit", none), "_law_counts_fit", "_law_counts_fit", defArgs s__law_counts_fit, defBody s__law_counts_fit, defScope s__law_counts_fit, [], []⟩
abbrev s__law_words : Stmt := top 22
theorem sc__law_words : FnScope ["_law_draw", "_law_many", "_law_words_here", "_law_k"] ["_law_draw", "_law_many"] (defScope s__law_words) := by
  refine ⟨rfl, rfl, rfl, ?_, rfl, ?_, ?_⟩ <;> decide +kernel
abbrev d__law_words : He.DefD := ⟨("_law_words", none), "_law_words", "_law_words", defArgs s__law_words, defBody s__law_words, defScope s__law_words, [], []⟩
abbrev s__law_numbers : Stmt := top 23
theorem sc__law_numbers : FnScope ["_law_draw", "_law_words_here", "_law_model", "_law_word"] ["_law_draw", "_law_words_here"] (defScope s__law_numbers) := by
  refine ⟨rfl, rfl, rfl, ?_, rfl, ?_, ?_⟩ <;> decide +kernel
abbrev d__law_numbers : He.DefD := ⟨("_law_numbers", none), "_law_numbers", "_law_numbers", defArgs s__law_numbers, defBody s__law_numbers, defScope s__law_numbers, [], []⟩
abbrev s__law_made : Stmt := top 24
theorem sc__law_made : FnScope ["_law_model", "_law_words_here", "_law_counts", "_law_word"] ["_law_model", "_law_words_here"] (defScope s__law_made) := by
  refine ⟨rfl, rfl, rfl, ?_, rfl, ?_, ?_⟩ <;> decide +kernel
abbrev d__law_made : He.DefD := ⟨("_law_made", none), "_law_made", "_law_made", defArgs s__law_made, defBody s__law_made, defScope s__law_made, [], []⟩
abbrev s__law_less : Stmt := top 25
theorem sc__law_less : FnScope ["_law_one", "_law_other", "_law_outcome", "e"] ["_law_one", "_law_other"] (defScope s__law_less) := by
  refine ⟨rfl, rfl, rfl, ?_, rfl, ?_, ?_⟩ <;> decide +kernel
abbrev d__law_less : He.DefD := ⟨("_law_less", none), "_law_less", "_law_less", defArgs s__law_less, defBody s__law_less, defScope s__law_less, [], []⟩
abbrev s__law_times : Stmt := top 26
theorem sc__law_times : FnScope ["_law_one", "_law_number", "_law_left", "_law_product", "_law_outcome", "e"] ["_law_one", "_law_number", "_law_left"] (defScope s__law_times) := by
  refine ⟨rfl, rfl, rfl, ?_, rfl, ?_, ?_⟩ <;> decide +kernel
abbrev d__law_times : He.DefD := ⟨("_law_times", none), "_law_times", "_law_times", defArgs s__law_times, defBody s__law_times, defScope s__law_times, [], []⟩
abbrev s__law_products_fit : Stmt := top 27
theorem sc__law_products_fit : FnScope ["_law_x", "_law_number", "_law_one", "_law_words_here", "_law_scaled", "_law_word", "_law_left", "_law_outcome"] ["_law_x", "_law_number", "_law_one", "_law_words_here"] (defScope s__law_products_fit) := by
  refine ⟨rfl, rfl, rfl, ?_, rfl, ?_, ?_⟩ <;> decide +kernel
abbrev d__law_products_fit : He.DefD := ⟨("_law_products_fit", none), "_law_products_fit", "_law_products_fit", defArgs s__law_products_fit, defBody s__law_products_fit, defScope s__law_products_fit, [], []⟩
abbrev s__law_order_fits : Stmt := top 28
theorem sc__law_order_fits : FnScope ["_law_x", "_law_y", "_law_one", "_law_other", "_law_words_here", "_law_above", "_law_word", "_law_below", "_law_outcome", "_law_rest"] ["_law_x", "_law_y", "_law_one", "_law_other", "_law_words_here"] (defScope s__law_order_fits) := by
  refine ⟨rfl, rfl, rfl, ?_, rfl, ?_, ?_⟩ <;> decide +kernel
abbrev d__law_order_fits : He.DefD := ⟨("_law_order_fits", none), "_law_order_fits", "_law_order_fits", defArgs s__law_order_fits, defBody s__law_order_fits, defScope s__law_order_fits, [], []⟩
abbrev s_law : Stmt := top 29
theorem sc_law : FnScope ["_law_script", "_law_draw", "_law_words_here", "_law_one", "_law_other", "_law_less_here", "_law_number", "_law_total", "_law_word", "_law_x", "_law_y", "_law_fresh"] ["_law_script"] (defScope s_law) := by
  refine ⟨rfl, rfl, rfl, ?_, rfl, ?_, ?_⟩ <;> decide +kernel
abbrev d_law : He.DefD := ⟨("law", none), "law", "law", defArgs s_law, defBody s_law, defScope s_law, [], []⟩
def fns : List He.DefD := [d_is_integer, d_is_name, d_NoCounts___init__, d_merge, d_in_order, d_check_names, d_Counts___init__, d_Counts___getitem__, d_Counts___setitem__, d_Counts___contains__, d_Counts___len__, d_Counts___iadd__, d_Counts___add__, d_Counts___sub__, d_Counts___mul__, d_Counts___rmul__, d_Counts___le__, d_Counts___eq__, d_Counts_present, d_Counts_total, d__law_cell, d__law_take, d__law_is_integer, d__law_name, d__law_sorted, d__law_counts_fit, d__law_words, d__law_numbers, d__law_made, d__law_less, d__law_times, d__law_products_fit, d__law_order_fits, d_law]
def gts : List He.DefD := []
def cks : List S.Ck := [
  (He.Fa.glo "is_integer").ok,
  (He.Fa.glo "is_name").ok,
  (He.Fa.glo "merge").ok,
  (He.Fa.glo "in_order").ok,
  (He.Fa.glo "check_names").ok,
  (He.Fa.glo "_law_cell").ok,
  (He.Fa.glo "_law_take").ok,
  (He.Fa.glo "_law_is_integer").ok,
  (He.Fa.glo "_law_name").ok,
  (He.Fa.glo "_law_sorted").ok,
  (He.Fa.glo "_law_counts_fit").ok,
  (He.Fa.glo "_law_words").ok,
  (He.Fa.glo "_law_numbers").ok,
  (He.Fa.glo "_law_made").ok,
  (He.Fa.glo "_law_less").ok,
  (He.Fa.glo "_law_times").ok,
  (He.Fa.glo "_law_products_fit").ok,
  (He.Fa.glo "_law_order_fits").ok,
  (He.Fa.glo "law").ok,
  (He.Fa.glo "NoCounts").ok,
  (He.Fa.glo "Counts").ok,
  (He.Fa.free "int").ok,
  (He.Fa.free "bool").ok,
  (He.Fa.free "str").ok,
  (He.Fa.free "list").ok,
  (He.Fa.free "isinstance").ok,
  (He.Fa.free "len").ok,
  (He.Fa.free "range").ok,
  (He.Fa.free "sum").ok,
  (He.Fa.free "sorted").ok,
  (He.Fa.str "LETTERS" "abcdefghijklmnopqrstuvwxyz").ok,
  (He.Fa.glo "KEPT_WORDS").ok,
  (fun K => He.tupB K "KEPT_WORDS" [.str "any", .str "closed", .str "end", .str "open", .str "to"]),
  (fun K => S.oexB K (He.ga K "NoCounts")),
  (fun K => xfB K (He.ga K "NoCounts")),
  (fun K => He.eqO (PySem.W.findIn K (.ref (He.ga K "NoCounts")) "__init__") (some (some (.ref (He.ma K (He.ga K "NoCounts") "__init__"))))),
  (fun K => decide (PySem.W.typeIn K (.ref (He.ma K (He.ga K "NoCounts") "__init__")) = some (.type "function"))),
  (fun K => He.eqO (PySem.W.findIn K (.ref (He.ga K "NoCounts")) "name") (some none)),
  (He.Fa.exm "NoCounts" "NoCounts" true).ok,
  (He.Fa.cls "Counts").ok,
  (He.Fa.mkr "Counts").ok,
  (He.Fa.noat "Counts" "table").ok,
  (He.Fa.meth "Counts" "__getitem__").ok,
  (He.Fa.meth "Counts" "__setitem__").ok,
  (He.Fa.meth "Counts" "__contains__").ok,
  (He.Fa.meth "Counts" "__len__").ok,
  (He.Fa.meth "Counts" "__iadd__").ok,
  (He.Fa.meth "Counts" "__add__").ok,
  (He.Fa.meth "Counts" "__sub__").ok,
  (He.Fa.meth "Counts" "__le__").ok,
  (He.Fa.meth "Counts" "__eq__").ok,
  (He.Fa.meth "Counts" "present").ok,
  (He.Fa.meth "Counts" "total").ok,
  (fun K => S.insB K (He.ga K "Counts")),
  (fun K => decide (PySem.W.kitOne K (.ref (He.ga K "Counts")) (.ref (He.ga K "Counts")) = some true)),
  (fun K => decide (PySem.W.kitOne K (.type "list") (.ref (He.ga K "Counts")) = some false)),
  (fun K => decide (PySem.W.kitOne K (.type "tuple") (.ref (He.ga K "Counts")) = some false)),
  (fun K => PySem.W.fnIn K (He.ma K (He.ga K "Counts") "__getitem__")),
  (fun K => PySem.W.noSeq K (He.ga K "Counts")),
  (fun K => PySem.W.selfFirst K (He.ga K "Counts")),
  (fun K => PySem.W.notFirst K (He.ga K "Counts") (.ref (He.ga K "Counts"))),
  (fun K => He.eqO (PySem.W.findIn K (.ref (He.ga K "Counts")) "__ne__") (some (some (.builtin "object.__ne__")))),
  (fun K => S.binB K (He.ga K "Counts") "mul" (He.ma K (He.ga K "Counts") "__mul__") (He.ma K (He.ga K "Counts") "__rmul__"))]
structure Txt (K : S.Frag) (mg : Str → Option Value) : Prop where
  F_is_integer : S.FunA K d_is_integer
  F_is_name : S.FunA K d_is_name
  F_NoCounts___init__ : S.FunA K d_NoCounts___init__
  F_merge : S.FunA K d_merge
  F_in_order : S.FunA K d_in_order
  F_check_names : S.FunA K d_check_names
  F_Counts___init__ : S.FunA K d_Counts___init__
  F_Counts___getitem__ : S.FunA K d_Counts___getitem__
  F_Counts___setitem__ : S.FunA K d_Counts___setitem__
  F_Counts___contains__ : S.FunA K d_Counts___contains__
  F_Counts___len__ : S.FunA K d_Counts___len__
  F_Counts___iadd__ : S.FunA K d_Counts___iadd__
  F_Counts___add__ : S.FunA K d_Counts___add__
  F_Counts___sub__ : S.FunA K d_Counts___sub__
  F_Counts___mul__ : S.FunA K d_Counts___mul__
  F_Counts___rmul__ : S.FunA K d_Counts___rmul__
  F_Counts___le__ : S.FunA K d_Counts___le__
  F_Counts___eq__ : S.FunA K d_Counts___eq__
  F_Counts_present : S.FunA K d_Counts_present
  F_Counts_total : S.FunA K d_Counts_total
  F__law_cell : S.FunA K d__law_cell
  F__law_take : S.FunA K d__law_take
  F__law_is_integer : S.FunA K d__law_is_integer
  F__law_name : S.FunA K d__law_name
  F__law_sorted : S.FunA K d__law_sorted
  F__law_counts_fit : S.FunA K d__law_counts_fit
  F__law_words : S.FunA K d__law_words
  F__law_numbers : S.FunA K d__law_numbers
  F__law_made : S.FunA K d__law_made
  F__law_less : S.FunA K d__law_less
  F__law_times : S.FunA K d__law_times
  F__law_products_fit : S.FunA K d__law_products_fit
  F__law_order_fits : S.FunA K d__law_order_fits
  F_law : S.FunA K d_law
  g_is_integer : mg "is_integer" = some (.ref (He.ga K "is_integer"))
  g_is_name : mg "is_name" = some (.ref (He.ga K "is_name"))
  g_merge : mg "merge" = some (.ref (He.ga K "merge"))
  g_in_order : mg "in_order" = some (.ref (He.ga K "in_order"))
  g_check_names : mg "check_names" = some (.ref (He.ga K "check_names"))
  g__law_cell : mg "_law_cell" = some (.ref (He.ga K "_law_cell"))
  g__law_take : mg "_law_take" = some (.ref (He.ga K "_law_take"))
  g__law_is_integer : mg "_law_is_integer" = some (.ref (He.ga K "_law_is_integer"))
  g__law_name : mg "_law_name" = some (.ref (He.ga K "_law_name"))
  g__law_sorted : mg "_law_sorted" = some (.ref (He.ga K "_law_sorted"))
  g__law_counts_fit : mg "_law_counts_fit" = some (.ref (He.ga K "_law_counts_fit"))
  g__law_words : mg "_law_words" = some (.ref (He.ga K "_law_words"))
  g__law_numbers : mg "_law_numbers" = some (.ref (He.ga K "_law_numbers"))
  g__law_made : mg "_law_made" = some (.ref (He.ga K "_law_made"))
  g__law_less : mg "_law_less" = some (.ref (He.ga K "_law_less"))
  g__law_times : mg "_law_times" = some (.ref (He.ga K "_law_times"))
  g__law_products_fit : mg "_law_products_fit" = some (.ref (He.ga K "_law_products_fit"))
  g__law_order_fits : mg "_law_order_fits" = some (.ref (He.ga K "_law_order_fits"))
  g_law : mg "law" = some (.ref (He.ga K "law"))
  g_NoCounts : mg "NoCounts" = some (.ref (He.ga K "NoCounts"))
  g_Counts : mg "Counts" = some (.ref (He.ga K "Counts"))
  n_int : mg "int" = none
  n_bool : mg "bool" = none
  n_str : mg "str" = none
  n_list : mg "list" = none
  n_isinstance : mg "isinstance" = none
  n_len : mg "len" = none
  n_range : mg "range" = none
  n_sum : mg "sum" = none
  n_sorted : mg "sorted" = none
  c_LETTERS : ∃ t, mg "LETTERS" = some (.str "abcdefghijklmnopqrstuvwxyz" t)
  g_KEPT_WORDS : mg "KEPT_WORDS" = some (.ref (He.ga K "KEPT_WORDS"))
  t_KEPT_WORDS : ∀ H : Hp, SqT K H (He.ga K "KEPT_WORDS") [V.str "any", V.str "closed", V.str "end", V.str "open", V.str "to"]
  ox_NoCounts : OexC K (He.ga K "NoCounts")
  xf_NoCounts : XfC K (He.ga K "NoCounts")
  xi_NoCounts : PySem.W.findIn K (.ref (He.ga K "NoCounts")) "__init__" = some (some (.ref (He.ma K (He.ga K "NoCounts") "__init__")))
  xt_NoCounts : PySem.W.typeIn K (.ref (He.ma K (He.ga K "NoCounts") "__init__")) = some (.type "function")
  xn_NoCounts_name : PySem.W.findIn K (.ref (He.ga K "NoCounts")) "name" = some none
  xm_NoCounts_NoCounts : PySem.W.exmOne K (.ref (He.ga K "NoCounts")) (.ref (He.ga K "NoCounts")) = some true
  cl_Counts : Cls K (He.ga K "Counts")
  mk_Counts : Mk K (He.ga K "Counts") (He.ma K (He.ga K "Counts") "__init__")
  na_Counts_table : NoAttr K (He.ga K "Counts") "table"
  me_Counts___getitem__ : Meth K (He.ga K "Counts") "__getitem__" (He.ma K (He.ga K "Counts") "__getitem__")
  me_Counts___setitem__ : Meth K (He.ga K "Counts") "__setitem__" (He.ma K (He.ga K "Counts") "__setitem__")
  me_Counts___contains__ : Meth K (He.ga K "Counts") "__contains__" (He.ma K (He.ga K "Counts") "__contains__")
  me_Counts___len__ : Meth K (He.ga K "Counts") "__len__" (He.ma K (He.ga K "Counts") "__len__")
  me_Counts___iadd__ : Meth K (He.ga K "Counts") "__iadd__" (He.ma K (He.ga K "Counts") "__iadd__")
  me_Counts___add__ : Meth K (He.ga K "Counts") "__add__" (He.ma K (He.ga K "Counts") "__add__")
  me_Counts___sub__ : Meth K (He.ga K "Counts") "__sub__" (He.ma K (He.ga K "Counts") "__sub__")
  me_Counts___le__ : Meth K (He.ga K "Counts") "__le__" (He.ma K (He.ga K "Counts") "__le__")
  me_Counts___eq__ : Meth K (He.ga K "Counts") "__eq__" (He.ma K (He.ga K "Counts") "__eq__")
  me_Counts_present : Meth K (He.ga K "Counts") "present" (He.ma K (He.ga K "Counts") "present")
  me_Counts_total : Meth K (He.ga K "Counts") "total" (He.ma K (He.ga K "Counts") "total")
  is_Counts : S.InsT K (He.ga K "Counts")
  ko_Counts_Counts : PySem.W.kitOne K (.ref (He.ga K "Counts")) (.ref (He.ga K "Counts")) = some true
  kb_Counts_list : PySem.W.kitOne K (.type "list") (.ref (He.ga K "Counts")) = some false
  kb_Counts_tuple : PySem.W.kitOne K (.type "tuple") (.ref (He.ga K "Counts")) = some false
  fn_Counts___getitem__ : PySem.W.fnIn K (He.ma K (He.ga K "Counts") "__getitem__") = true
  nq_Counts : PySem.W.noSeq K (He.ga K "Counts") = true
  sf_Counts : PySem.W.selfFirst K (He.ga K "Counts") = true
  nf_Counts : PySem.W.notFirst K (He.ga K "Counts") (.ref (He.ga K "Counts")) = true
  ne_Counts : PySem.W.findIn K (.ref (He.ga K "Counts")) "__ne__" = some (some (.builtin "object.__ne__"))
  bni_mul : S.BinC K (He.ga K "Counts") "mul" (He.ma K (He.ga K "Counts") "__mul__") (He.ma K (He.ga K "Counts") "__rmul__")
theorem txt_of {K : S.Frag} {h : Heap} {mg : Str → Option Value} (X : K.In h) (G : h.Ns mainGlobals mg) (c : S.SaysX cks fns gts K) : Txt K mg where
  F_is_integer := c.def_ 0
  F_is_name := c.def_ 1
  F_NoCounts___init__ := c.def_ 2
  F_merge := c.def_ 3
  F_in_order := c.def_ 4
  F_check_names := c.def_ 5
  F_Counts___init__ := c.def_ 6
  F_Counts___getitem__ := c.def_ 7
  F_Counts___setitem__ := c.def_ 8
  F_Counts___contains__ := c.def_ 9
  F_Counts___len__ := c.def_ 10
  F_Counts___iadd__ := c.def_ 11
  F_Counts___add__ := c.def_ 12
  F_Counts___sub__ := c.def_ 13
  F_Counts___mul__ := c.def_ 14
  F_Counts___rmul__ := c.def_ 15
  F_Counts___le__ := c.def_ 16
  F_Counts___eq__ := c.def_ 17
  F_Counts_present := c.def_ 18
  F_Counts_total := c.def_ 19
  F__law_cell := c.def_ 20
  F__law_take := c.def_ 21
  F__law_is_integer := c.def_ 22
  F__law_name := c.def_ 23
  F__law_sorted := c.def_ 24
  F__law_counts_fit := c.def_ 25
  F__law_words := c.def_ 26
  F__law_numbers := c.def_ 27
  F__law_made := c.def_ 28
  F__law_less := c.def_ 29
  F__law_times := c.def_ 30
  F__law_products_fit := c.def_ 31
  F__law_order_fits := c.def_ 32
  F_law := c.def_ 33
  g_is_integer := He.glo_ok X G (c.fact 0)
  g_is_name := He.glo_ok X G (c.fact 1)
  g_merge := He.glo_ok X G (c.fact 2)
  g_in_order := He.glo_ok X G (c.fact 3)
  g_check_names := He.glo_ok X G (c.fact 4)
  g__law_cell := He.glo_ok X G (c.fact 5)
  g__law_take := He.glo_ok X G (c.fact 6)
  g__law_is_integer := He.glo_ok X G (c.fact 7)
  g__law_name := He.glo_ok X G (c.fact 8)
  g__law_sorted := He.glo_ok X G (c.fact 9)
  g__law_counts_fit := He.glo_ok X G (c.fact 10)
  g__law_words := He.glo_ok X G (c.fact 11)
  g__law_numbers := He.glo_ok X G (c.fact 12)
  g__law_made := He.glo_ok X G (c.fact 13)
  g__law_less := He.glo_ok X G (c.fact 14)
  g__law_times := He.glo_ok X G (c.fact 15)
  g__law_products_fit := He.glo_ok X G (c.fact 16)
  g__law_order_fits := He.glo_ok X G (c.fact 17)
  g_law := He.glo_ok X G (c.fact 18)
  g_NoCounts := He.glo_ok X G (c.fact 19)
  g_Counts := He.glo_ok X G (c.fact 20)
  n_int := He.free_ok X G (c.fact 21)
  n_bool := He.free_ok X G (c.fact 22)
  n_str := He.free_ok X G (c.fact 23)
  n_list := He.free_ok X G (c.fact 24)
  n_isinstance := He.free_ok X G (c.fact 25)
  n_len := He.free_ok X G (c.fact 26)
  n_range := He.free_ok X G (c.fact 27)
  n_sum := He.free_ok X G (c.fact 28)
  n_sorted := He.free_ok X G (c.fact 29)
  c_LETTERS := He.str_ok X G (c.fact 30)
  g_KEPT_WORDS := He.glo_ok X G (c.fact 31)
  t_KEPT_WORDS := He.tupB_ok (c.fact 32)
  ox_NoCounts := S.oexB_ok (c.fact 33)
  xf_NoCounts := xfB_ok (c.fact 34)
  xi_NoCounts := He.eqO_ok (c.fact 35)
  xt_NoCounts := of_decide_eq_true (c.fact 36)
  xn_NoCounts_name := He.eqO_ok (c.fact 37)
  xm_NoCounts_NoCounts := He.exm_ok (c.fact 38)
  cl_Counts := He.cls_ok (c.fact 39)
  mk_Counts := He.mkr_ok (c.fact 40)
  na_Counts_table := He.noat_ok (c.fact 41)
  me_Counts___getitem__ := He.meth_ok (c.fact 42)
  me_Counts___setitem__ := He.meth_ok (c.fact 43)
  me_Counts___contains__ := He.meth_ok (c.fact 44)
  me_Counts___len__ := He.meth_ok (c.fact 45)
  me_Counts___iadd__ := He.meth_ok (c.fact 46)
  me_Counts___add__ := He.meth_ok (c.fact 47)
  me_Counts___sub__ := He.meth_ok (c.fact 48)
  me_Counts___le__ := He.meth_ok (c.fact 49)
  me_Counts___eq__ := He.meth_ok (c.fact 50)
  me_Counts_present := He.meth_ok (c.fact 51)
  me_Counts_total := He.meth_ok (c.fact 52)
  is_Counts := S.insB_ok (c.fact 53)
  ko_Counts_Counts := of_decide_eq_true (c.fact 54)
  kb_Counts_list := of_decide_eq_true (c.fact 55)
  kb_Counts_tuple := of_decide_eq_true (c.fact 56)
  fn_Counts___getitem__ := (c.fact 57)
  nq_Counts := (c.fact 58)
  sf_Counts := (c.fact 59)
  nf_Counts := (c.fact 60)
  ne_Counts := He.eqO_ok (c.fact 61)
  bni_mul := S.binB_ok (c.fact 62)
theorem kb_merge_2 {K : S.Frag} {mg : Str → Option Value} (T : Txt K mg) : KBn K (S.fdA K ("merge", none)) ["left", "right"] 2 [] (fun us _ => us ++ []) (fun vs _ => vs ++ []) :=
  S.kb_of_binds (T.F_merge.bindsN fun _ _ _ _ _ _ us hl => match us, hl with | [_, _], _ => rfl) .nil rfl
theorem kb_is_name_1 {K : S.Frag} {mg : Str → Option Value} (T : Txt K mg) : KBn K (S.fdA K ("is_name", none)) ["value"] 1 [] (fun us _ => us ++ []) (fun vs _ => vs ++ []) :=
  S.kb_of_binds (T.F_is_name.bindsN fun _ _ _ _ _ _ us hl => match us, hl with | [_], _ => rfl) .nil rfl
theorem kb_NoCounts___init___2 {K : S.Frag} {mg : Str → Option Value} (T : Txt K mg) : KBn K (S.fdA K ("NoCounts", some "__init__")) ["self", "name"] 2 [] (fun us _ => us ++ []) (fun vs _ => vs ++ []) :=
  S.kb_of_binds (T.F_NoCounts___init__.bindsN fun _ _ _ _ _ _ us hl => match us, hl with | [_, _], _ => rfl) .nil rfl
theorem kb_check_names_1 {K : S.Frag} {mg : Str → Option Value} (T : Txt K mg) : KBn K (S.fdA K ("check_names", none)) ["names"] 1 [] (fun us _ => us ++ []) (fun vs _ => vs ++ []) :=
  S.kb_of_binds (T.F_check_names.bindsN fun _ _ _ _ _ _ us hl => match us, hl with | [_], _ => rfl) .nil rfl
theorem kb_is_integer_1 {K : S.Frag} {mg : Str → Option Value} (T : Txt K mg) : KBn K (S.fdA K ("is_integer", none)) ["value"] 1 [] (fun us _ => us ++ []) (fun vs _ => vs ++ []) :=
  S.kb_of_binds (T.F_is_integer.bindsN fun _ _ _ _ _ _ us hl => match us, hl with | [_], _ => rfl) .nil rfl
theorem kb_in_order_1 {K : S.Frag} {mg : Str → Option Value} (T : Txt K mg) : KBn K (S.fdA K ("in_order", none)) ["rows"] 1 [] (fun us _ => us ++ []) (fun vs _ => vs ++ []) :=
  S.kb_of_binds (T.F_in_order.bindsN fun _ _ _ _ _ _ us hl => match us, hl with | [_], _ => rfl) .nil rfl
theorem kb__law_take_2 {K : S.Frag} {mg : Str → Option Value} (T : Txt K mg) : KBn K (S.fdA K ("_law_take", none)) ["_law_draw", "_law_size"] 2 [] (fun us _ => us ++ []) (fun vs _ => vs ++ []) :=
  S.kb_of_binds (T.F__law_take.bindsN fun _ _ _ _ _ _ us hl => match us, hl with | [_, _], _ => rfl) .nil rfl
theorem kb__law_sorted_1 {K : S.Frag} {mg : Str → Option Value} (T : Txt K mg) : KBn K (S.fdA K ("_law_sorted", none)) ["_law_items"] 1 [] (fun us _ => us ++ []) (fun vs _ => vs ++ []) :=
  S.kb_of_binds (T.F__law_sorted.bindsN fun _ _ _ _ _ _ us hl => match us, hl with | [_], _ => rfl) .nil rfl
theorem kb_Counts_present_1 {K : S.Frag} {mg : Str → Option Value} (T : Txt K mg) : KBn K (S.fdA K ("Counts", some "present")) ["self"] 1 [] (fun us _ => us ++ []) (fun vs _ => vs ++ []) :=
  S.kb_of_binds (T.F_Counts_present.bindsN fun _ _ _ _ _ _ us hl => match us, hl with | [_], _ => rfl) .nil rfl
theorem kb_Counts___len___1 {K : S.Frag} {mg : Str → Option Value} (T : Txt K mg) : KBn K (S.fdA K ("Counts", some "__len__")) ["self"] 1 [] (fun us _ => us ++ []) (fun vs _ => vs ++ []) :=
  S.kb_of_binds (T.F_Counts___len__.bindsN fun _ _ _ _ _ _ us hl => match us, hl with | [_], _ => rfl) .nil rfl
theorem kb__law_is_integer_1 {K : S.Frag} {mg : Str → Option Value} (T : Txt K mg) : KBn K (S.fdA K ("_law_is_integer", none)) ["_law_value"] 1 [] (fun us _ => us ++ []) (fun vs _ => vs ++ []) :=
  S.kb_of_binds (T.F__law_is_integer.bindsN fun _ _ _ _ _ _ us hl => match us, hl with | [_], _ => rfl) .nil rfl
theorem kb_Counts_total_1 {K : S.Frag} {mg : Str → Option Value} (T : Txt K mg) : KBn K (S.fdA K ("Counts", some "total")) ["self"] 1 [] (fun us _ => us ++ []) (fun vs _ => vs ++ []) :=
  S.kb_of_binds (T.F_Counts_total.bindsN fun _ _ _ _ _ _ us hl => match us, hl with | [_], _ => rfl) .nil rfl
theorem kb_Counts___getitem___2 {K : S.Frag} {mg : Str → Option Value} (T : Txt K mg) : KBn K (S.fdA K ("Counts", some "__getitem__")) ["self", "at"] 2 [] (fun us _ => us ++ []) (fun vs _ => vs ++ []) :=
  S.kb_of_binds (T.F_Counts___getitem__.bindsN fun _ _ _ _ _ _ us hl => match us, hl with | [_, _], _ => rfl) .nil rfl
theorem kb_Counts___contains___2 {K : S.Frag} {mg : Str → Option Value} (T : Txt K mg) : KBn K (S.fdA K ("Counts", some "__contains__")) ["self", "x"] 2 [] (fun us _ => us ++ []) (fun vs _ => vs ++ []) :=
  S.kb_of_binds (T.F_Counts___contains__.bindsN fun _ _ _ _ _ _ us hl => match us, hl with | [_, _], _ => rfl) .nil rfl
theorem kb__law_name_2 {K : S.Frag} {mg : Str → Option Value} (T : Txt K mg) : KBn K (S.fdA K ("_law_name", none)) ["_law_draw", "_law_used"] 2 [] (fun us _ => us ++ []) (fun vs _ => vs ++ []) :=
  S.kb_of_binds (T.F__law_name.bindsN fun _ _ _ _ _ _ us hl => match us, hl with | [_, _], _ => rfl) .nil rfl
theorem kb_Counts___setitem___3 {K : S.Frag} {mg : Str → Option Value} (T : Txt K mg) : KBn K (S.fdA K ("Counts", some "__setitem__")) ["self", "at", "worth"] 3 [] (fun us _ => us ++ []) (fun vs _ => vs ++ []) :=
  S.kb_of_binds (T.F_Counts___setitem__.bindsN fun _ _ _ _ _ _ us hl => match us, hl with | [_, _, _], _ => rfl) .nil rfl
theorem kb_Counts___sub___2 {K : S.Frag} {mg : Str → Option Value} (T : Txt K mg) : KBn K (S.fdA K ("Counts", some "__sub__")) ["self", "other"] 2 [] (fun us _ => us ++ []) (fun vs _ => vs ++ []) :=
  S.kb_of_binds (T.F_Counts___sub__.bindsN fun _ _ _ _ _ _ us hl => match us, hl with | [_, _], _ => rfl) .nil rfl
theorem kb_Counts___mul___2 {K : S.Frag} {mg : Str → Option Value} (T : Txt K mg) : KBn K (S.fdA K ("Counts", some "__mul__")) ["self", "other"] 2 [] (fun us _ => us ++ []) (fun vs _ => vs ++ []) :=
  S.kb_of_binds (T.F_Counts___mul__.bindsN fun _ _ _ _ _ _ us hl => match us, hl with | [_, _], _ => rfl) .nil rfl
theorem kb_Counts___rmul___2 {K : S.Frag} {mg : Str → Option Value} (T : Txt K mg) : KBn K (S.fdA K ("Counts", some "__rmul__")) ["self", "other"] 2 [] (fun us _ => us ++ []) (fun vs _ => vs ++ []) :=
  S.kb_of_binds (T.F_Counts___rmul__.bindsN fun _ _ _ _ _ _ us hl => match us, hl with | [_, _], _ => rfl) .nil rfl
theorem kb__law_times_3 {K : S.Frag} {mg : Str → Option Value} (T : Txt K mg) : KBn K (S.fdA K ("_law_times", none)) ["_law_one", "_law_number", "_law_left"] 3 [] (fun us _ => us ++ []) (fun vs _ => vs ++ []) :=
  S.kb_of_binds (T.F__law_times.bindsN fun _ _ _ _ _ _ us hl => match us, hl with | [_, _, _], _ => rfl) .nil rfl
theorem kb__law_counts_fit_3 {K : S.Frag} {mg : Str → Option Value} (T : Txt K mg) : KBn K (S.fdA K ("_law_counts_fit", none)) ["_law_counts", "_law_model", "_law_words_here"] 3 [] (fun us _ => us ++ []) (fun vs _ => vs ++ []) :=
  S.kb_of_binds (T.F__law_counts_fit.bindsN fun _ _ _ _ _ _ us hl => match us, hl with | [_, _, _], _ => rfl) .nil rfl
theorem kb_Counts___eq___2 {K : S.Frag} {mg : Str → Option Value} (T : Txt K mg) : KBn K (S.fdA K ("Counts", some "__eq__")) ["self", "other"] 2 [] (fun us _ => us ++ []) (fun vs _ => vs ++ []) :=
  S.kb_of_binds (T.F_Counts___eq__.bindsN fun _ _ _ _ _ _ us hl => match us, hl with | [_, _], _ => rfl) .nil rfl
theorem kb__law_less_2 {K : S.Frag} {mg : Str → Option Value} (T : Txt K mg) : KBn K (S.fdA K ("_law_less", none)) ["_law_one", "_law_other"] 2 [] (fun us _ => us ++ []) (fun vs _ => vs ++ []) :=
  S.kb_of_binds (T.F__law_less.bindsN fun _ _ _ _ _ _ us hl => match us, hl with | [_, _], _ => rfl) .nil rfl
theorem kb_Counts___add___2 {K : S.Frag} {mg : Str → Option Value} (T : Txt K mg) : KBn K (S.fdA K ("Counts", some "__add__")) ["self", "other"] 2 [] (fun us _ => us ++ []) (fun vs _ => vs ++ []) :=
  S.kb_of_binds (T.F_Counts___add__.bindsN fun _ _ _ _ _ _ us hl => match us, hl with | [_, _], _ => rfl) .nil rfl
theorem kb__law_cell_2 {K : S.Frag} {mg : Str → Option Value} (T : Txt K mg) : KBn K (S.fdA K ("_law_cell", none)) ["_law_script", "_law_k"] 2 [] (fun us _ => us ++ []) (fun vs _ => vs ++ []) :=
  S.kb_of_binds (T.F__law_cell.bindsN fun _ _ _ _ _ _ us hl => match us, hl with | [_, _], _ => rfl) .nil rfl
theorem kb__law_words_2 {K : S.Frag} {mg : Str → Option Value} (T : Txt K mg) : KBn K (S.fdA K ("_law_words", none)) ["_law_draw", "_law_many"] 2 [] (fun us _ => us ++ []) (fun vs _ => vs ++ []) :=
  S.kb_of_binds (T.F__law_words.bindsN fun _ _ _ _ _ _ us hl => match us, hl with | [_, _], _ => rfl) .nil rfl
theorem kb__law_numbers_2 {K : S.Frag} {mg : Str → Option Value} (T : Txt K mg) : KBn K (S.fdA K ("_law_numbers", none)) ["_law_draw", "_law_words_here"] 2 [] (fun us _ => us ++ []) (fun vs _ => vs ++ []) :=
  S.kb_of_binds (T.F__law_numbers.bindsN fun _ _ _ _ _ _ us hl => match us, hl with | [_, _], _ => rfl) .nil rfl
theorem kb__law_made_2 {K : S.Frag} {mg : Str → Option Value} (T : Txt K mg) : KBn K (S.fdA K ("_law_made", none)) ["_law_model", "_law_words_here"] 2 [] (fun us _ => us ++ []) (fun vs _ => vs ++ []) :=
  S.kb_of_binds (T.F__law_made.bindsN fun _ _ _ _ _ _ us hl => match us, hl with | [_, _], _ => rfl) .nil rfl
theorem kb__law_products_fit_4 {K : S.Frag} {mg : Str → Option Value} (T : Txt K mg) : KBn K (S.fdA K ("_law_products_fit", none)) ["_law_x", "_law_number", "_law_one", "_law_words_here"] 4 [] (fun us _ => us ++ []) (fun vs _ => vs ++ []) :=
  S.kb_of_binds (T.F__law_products_fit.bindsN fun _ _ _ _ _ _ us hl => match us, hl with | [_, _, _, _], _ => rfl) .nil rfl
theorem kb__law_order_fits_5 {K : S.Frag} {mg : Str → Option Value} (T : Txt K mg) : KBn K (S.fdA K ("_law_order_fits", none)) ["_law_x", "_law_y", "_law_one", "_law_other", "_law_words_here"] 5 [] (fun us _ => us ++ []) (fun vs _ => vs ++ []) :=
  S.kb_of_binds (T.F__law_order_fits.bindsN fun _ _ _ _ _ _ us hl => match us, hl with | [_, _, _, _, _], _ => rfl) .nil rfl
theorem kb_Counts___iadd___2 {K : S.Frag} {mg : Str → Option Value} (T : Txt K mg) : KBn K (S.fdA K ("Counts", some "__iadd__")) ["self", "other"] 2 [] (fun us _ => us ++ []) (fun vs _ => vs ++ []) :=
  S.kb_of_binds (T.F_Counts___iadd__.bindsN fun _ _ _ _ _ _ us hl => match us, hl with | [_, _], _ => rfl) .nil rfl
theorem kb_Counts___le___2 {K : S.Frag} {mg : Str → Option Value} (T : Txt K mg) : KBn K (S.fdA K ("Counts", some "__le__")) ["self", "other"] 2 [] (fun us _ => us ++ []) (fun vs _ => vs ++ []) :=
  S.kb_of_binds (T.F_Counts___le__.bindsN fun _ _ _ _ _ _ us hl => match us, hl with | [_, _], _ => rfl) .nil rfl
end W

namespace W
open PySem PySem.W PySem.Calls PyProof.Rows
/-! the head: its run in four looks; the facts over all that the top made -/
abbrev R : PySem.W.OpenRow := PySem.W.OpenLaw.row PySem.Challenge.rw_seenshares_k27_counts_operators
def obR (g : Addr → Option Obj) : He.AlD := S.obsX cks fns gts (He.frG g (List.range 2500))
def hk : PySem.W.Hook where
  α := He.AlD
  obs := fun s => obR s.heap.get?
  val := fun _ => S.valX fns gts
  says := fun _ h => ∃ K : S.Frag, K.In h ∧ S.SaysX cks fns gts K
  of := fun _ _ e => ⟨_, He.frG_in, e⟩
  keeps := fun _ _ _ ⟨K, hK, c⟩ k => ⟨K, PySem.W.Frag.In.keeps hK k, c⟩
def ob (s : PySem.W.SharedT) : He.AlD := obR (HandSHeadRun.getT s)
theorem ob_eq (s : PySem.W.SharedT) : ob s = hk.obs s.abs := by
  have e : HandSHeadRun.getT s = s.abs.heap.get? := funext (HandSHeadRun.getT_eq s)
  unfold ob
  rw [e]
  rfl
def lo0 : List PySem.Str := ["_wall", "LETTERS", "KEPT_WORDS", "is_integer", "is_name", "SeenError", "NoCounts", "merge", "in_order", "check_names", "Counts", "_law_cell", "_law_take", "_law_is_integer", "_law_name", "_law_sorted", "_law_counts_fit", "_law_words", "_law_numbers", "_law_made", "_law_less", "_law_times", "_law_products_fit", "_law_order_fits"]
def lo : List PySem.Str := lo0
noncomputable abbrev endS (w : World) (os : OsState) : Option PySem.W.SharedT := HandSHeadRun.endF (HandSHeadRun.stepQ (HandSHeadRun.denQ HandSHeadRun.tabQ) R.prog w) 9000 R.prog w os
theorem map4 {α β γ δ ε : Type} {x : Option α} {f : α → β} {g : α → γ} {h : α → δ × ε} {a : β} {b : γ} {c : δ × ε} (e1 : x.map f = some a) (e2 : x.map g = some b) (e3 : x.map (fun s => (h s).1) = some c.1) (e4 : x.map (fun s => (h s).2) = some c.2) : x.map (fun s => (f s, g s, h s)) = some (a, b, c) := by
  cases x with
  | none => cases e1
  | some s =>
    injection e1 with e1
    injection e2 with e2
    injection e3 with e3
    injection e4 with e4
    show some (f s, g s, h s) = _
    rw [e1, e2, show h s = c from Prod.ext e3 e4]
set_option maxHeartbeats 0 in
theorem run1 (w : World) (os : OsState) : (endS w os).map (fun s => HandSHeadRun.looksF R.prog (boot_heap w.params) s.abs) = some true := by
  kernel_rfl
set_option maxHeartbeats 0 in
theorem run2 (w : World) (os : OsState) : (endS w os).map (fun s => HandSHeadRun.seenQ (PySem.W.view R.prog [29]) lo (importedModules R.prog.main.body) (fun s => xlAt (PySem.W.view R.prog [29]) [] s && recOk R.toRowW.records s) s.abs) = some (openGood (PySem.W.view R.prog [29]) lo) := by
  kernel_rfl
set_option maxHeartbeats 0 in
theorem run3 (w : World) (os : OsState) : (endS w os).map (fun s => (ob s).1) = some true := by
  kernel_rfl
set_option maxHeartbeats 0 in
theorem run4 (w : World) (os : OsState) : (endS w os).map (fun s => (ob s).2) = some (S.valX fns gts).2 := by
  kernel_rfl
theorem run (w : World) : HandSHeadRun.RunEq R (PySem.W.view R.prog [29]) hk ob 9000 lo w := fun os => map4 (run1 w os) (run2 w os) (run3 w os) (run4 w os)
end W

namespace W
open PySem PySem.Spec PyProof.Rows L2
section
variable {P : Program} {w : World} {K : S.Frag} {mg : Str → Option Value} {base : Heap}
open S
theorem isi_true {H : Hp} {i : Int} : TyX K H (.int i) (.type "int") := .base (.int i)
def sp_isint (K : S.Frag) : Sp := Sp1 fun x H Q _ => ∃ b, IsI K H x b ∧ Q (.bl b) H
theorem ok_is_integer (T : Txt K mg) : FnOk P w K mg base (L2.CX P w) 1 (He.fAd K ("is_integer", none)) (S.fdA K ("is_integer", none)) ["value"] (sp_isint K) := by
  refine FunD.ok T.F_is_integer sc_is_integer (fun vs H Q E h => S.splen1 h) (fun cdv A outer s H vs Q E hr h => ?_)
  have hu := hu_of hr
  refine ⟨_, (pss_one (ps_ret (pe_and (pe_callB (S.isiK (K := K) rfl) rfl T.n_isinstance S.boot_isinstance (pa_cons (pv 0) (pa_cons (pe_bltn (v := .ty "int") rfl T.n_int S.boot_int rfl) pa_nil))) (pe_one (pe_not (pe_callB (S.isiK (K := K) rfl) rfl T.n_isinstance S.boot_isinstance (pa_cons (pv 0) (pa_cons (pe_bltn (v := .ty "bool") rfl T.n_bool S.boot_bool rfl) pa_nil)))))))), ?_⟩
  obtain ⟨x, rfl, b, hb, q⟩ := h
  cases hb with
  | int i => exact ⟨_, rfl, _, _, _, _, true, rfl, .ty _, isi_true, kit_ty (by decide +kernel), _, rfl, _, rfl, _, _, _, _, false, rfl, .ty _, isi_true, kit_ty (by decide +kernel), _, rfl, q⟩
  | bl b => exact ⟨_, rfl, _, _, _, _, true, rfl, .ty _, .base (.bl b), kit_ty (by decide +kernel), _, rfl, _, rfl, _, _, _, _, true, rfl, .ty _, .base (.bl b), kit_ty (by decide +kernel), _, rfl, q⟩
  | oth h e => exact ⟨_, rfl, _, _, _, _, false, rfl, .ty _, h, e, _, rfl, q⟩
/-- x is an integer from a to c, or not, as b says -/
def Win (K : S.Frag) (H : Hp) (x : V) (a c : Int) (b : Bool) : Prop := (∃ i, x = .int i ∧ b = (decide (a ≤ i) && decide (i ≤ c))) ∨ (IsI K H x false ∧ b = false)
def sp_within (K : S.Frag) : Sp := Sp3 fun x lo hi H Q _ => ∃ a c b, lo = .int a ∧ hi = .int c ∧ Win K H x a c b ∧ Q (.bl b) H
end
end W

namespace W
open PySem PySem.Spec PyProof.Rows L2
section
variable {P : Program} {w : World} {K : S.Frag} {mg : Str → Option Value} {base : Heap}
open S
/-- the values that the law hands about -/
inductive Od (H : Hp) : V → Prop where
  | int (i : Int) : Od H (.int i)
  | non : Od H .non
  | bl (b : Bool) : Od H (.bl b)
  | str (z : Str) : Od H (.str z)
  | tup {a : Addr} {xs : List V} (h : H a = some (.tup xs)) : Od H (.ref a)
  | lst {a : Addr} {xs : List V} (h : H a = some (.lst xs)) : Od H (.ref a)
  | dK {a : Addr} {xs : List (Key × V)} (h : H a = some (.dK xs)) : Od H (.ref a)
theorem Od.mono {H H' : Hp} {x : V} (h : Od H x) (s : Same H H') : Od H' x := by
  cases h with
  | int i => exact .int i
  | non => exact .non
  | bl b => exact .bl b
  | str z => exact .str z
  | tup h => exact .tup (s _ _ h)
  | lst h => exact .lst (s _ _ h)
  | dK h => exact .dK (s _ _ h)
def isInt : V → Bool
  | .int _ => true
  | _ => false
theorem Od.isi {H : Hp} {x : V} (h : Od H x) : IsI K H x (isInt x) := by
  cases h with
  | int i => exact .int i
  | non => exact .oth (.base .non) (kit_ty (by decide +kernel))
  | bl b => exact .bl b
  | str z => exact .oth (.base (.str z)) (kit_ty (by decide +kernel))
  | tup h => exact .oth (.base (.tup h)) (kit_ty (by decide +kernel))
  | lst h => exact .oth (.base (.lst h)) (kit_ty (by decide +kernel))
  | dK h => exact .oth (.base (.dK h)) (kit_ty (by decide +kernel))
/-- an integer from a to b -/
def inR (a b : Int) : V → Bool
  | .int i => decide (a ≤ i) && decide (i ≤ b)
  | _ => false
theorem Od.within {H : Hp} {x : V} {a b : Int} (h : Od H x) : Win K H x a b (inR a b x) := by
  cases h with
  | int i => exact .inl ⟨i, rfl, rfl⟩
  | non => exact .inr ⟨Od.isi .non, rfl⟩
  | bl b => exact .inr ⟨Od.isi (.bl b), rfl⟩
  | str z => exact .inr ⟨Od.isi (.str z), rfl⟩
  | tup h => exact .inr ⟨Od.isi (.tup h), rfl⟩
  | lst h => exact .inr ⟨Od.isi (.lst h), rfl⟩
  | dK h => exact .inr ⟨Od.isi (.dK h), rfl⟩
end
end W

namespace W
open PySem PySem.Spec PyProof.Rows L2
section
variable {P : Program} {w : World} {K : S.Frag} {mg : Str → Option Value} {base : Heap}
open S
theorem ok__law_cell (T : Txt K mg) : FnOk P w K mg base (L2.CX P w) 1 (He.fAd K ("_law_cell", none)) (S.fdA K ("_law_cell", none)) ["_law_script", "_law_k"] (spCellN K) := by
  refine FunD.ok T.F__law_cell sc__law_cell (fun vs H Q E h => S.splen2 h) (fun cdv A outer s H vs Q E hr h => ?_)
  have hu := hu_of hr
  refine ⟨_, (pss_cons (ps_set (i := 2) sc__law_cell.nd rfl (by first | exact Or.inl rfl | exact Or.inr rfl) pe_int)
      (S.pss_cut (ps_if (pt_cmpR op_lt (pv 1) (pe_callB (S.lenK (K := K) rfl) rfl T.n_len S.boot_len (pa_cons (pv 0) pa_nil)) (nomark _)) (pss_one (ps_set (i := 2) sc__law_cell.nd rfl (by first | exact Or.inl rfl | exact Or.inr rfl) (pe_ix (S.ixK (K := K) rfl) (pv 0) (pv 1) (fun _ _ => rfl)))) pss_nil)
      (pss_cons (ps_if (pt_cmpR op_ge (pv 2) (pe_op op_pow pe_int pe_int) (nomark _)) (pss_one (ps_ret (pv 2))) pss_nil)
      (pss_cons (ps_set (i := 3) sc__law_cell.nd rfl (by first | exact Or.inl rfl | exact Or.inr rfl) (pe_op op_mod (pe_callTy call_int1 rfl T.n_int S.boot_int (pa_cons (pe_op op_add (pe_op op_add (pe_op S.op_mulA (pv 2) pe_int) (pe_op S.op_mulA (pv 1) pe_int)) pe_int) pa_nil)) pe_int))
      (pss_cons (ps_set (i := 4) sc__law_cell.nd rfl (by first | exact Or.inl rfl | exact Or.inr rfl) pe_int)
      (pss_cons (ps_for (S.own_of rfl) rfl (pi_range1 rfl T.n_range (pa_cons pe_int pa_nil)) (pg_name (i := 5) sc__law_cell.nd rfl (by first | exact Or.inl rfl | exact Or.inr rfl))
        (pss_cons (ps_set (i := 3) sc__law_cell.nd rfl (by first | exact Or.inl rfl | exact Or.inr rfl) (pe_op op_mod (pe_callTy call_int1 rfl T.n_int S.boot_int (pa_cons (pe_op op_add (pe_op op_add (pe_op S.op_mulA (pv 3) pe_int) (pe_op S.op_mulA (pv 5) pe_int)) pe_int) pa_nil)) pe_int))
      (pss_cons (ps_set (i := 3) sc__law_cell.nd rfl (by first | exact Or.inl rfl | exact Or.inr rfl) (pe_op op_mod (pe_callTy call_int1 rfl T.n_int S.boot_int (pa_cons (pe_op S.op_mulA (pv 3) (pe_op op_add (pe_op op_fdivW (pv 3) pe_int) pe_int)) pa_nil)) pe_int))
      (pss_one (ps_set (i := 4) sc__law_cell.nd rfl (by first | exact Or.inl rfl | exact Or.inr rfl) (pe_op op_add (pe_op S.op_mulA (pv 4) pe_int) (pv 3)))))))
      (pss_one (ps_ret (pv 4))))))))), ?_⟩
  obtain ⟨_, _, rfl, a, ns, k, rfl, rfl, hk, hS, q⟩ := h
  refine ⟨fun τ J => J = H ∧ ∃ c : Int, τ = [some (.ref a), some (.int k), some (.int c), none, none, none], ?_, ?_⟩
  · refine ⟨_, rfl, _, rfl, _, (ns.map V.int).length, rfl, .inl ⟨_, hS, rfl⟩, _, _, rfl, rfl, _, rfl, ?_⟩
    by_cases c : k < ((ns.map V.int).length : Int)
    · obtain ⟨m, rfl⟩ : ∃ m : Nat, k = (m : Int) := ⟨k.toNat, by omega⟩
      rw [List.length_map] at c
      exact iteY (by simpa using c) ⟨_, rfl, _, rfl, .inl ⟨a, _, _, _, rfl, rfl, hS, int_at (by omega), rfl, _, rfl⟩⟩
    · exact iteN (by simpa using c) ⟨rfl, _, rfl⟩
  · rintro τ J ⟨rfl, c, rfl⟩
    refine ⟨_, rfl, _, _, rfl, rfl, ⟨by decide, by decide, by decide⟩, _, _, rfl, rfl, _, rfl, ?_⟩
    refine ite2 (fun h => ⟨_, rfl, q _ ?_⟩) (fun _ => ?_)
    · have h2 : (10 : Int) ^ 18 ≤ c := by simpa using h
      omega
    refine ⟨_, rfl, _, _, rfl, rfl, mul_small (by decide), _, rfl, _, _, rfl, rfl, mul_small (by decide), _, _, rfl, rfl, _, _, rfl, rfl, .inl ⟨_, rfl, _, _, rfl, rfl, (by show (0 : Int) < 2147483647; decide), ?_⟩⟩
    refine ⟨8, rfl, by decide, by decide, for_range (n := 8) (fun i σ J2 => J2 = J ∧ ∃ (x y : Int) (st : Option V), 0 ≤ x ∧ x < 2147483647 ∧ 0 ≤ y ∧ σ = [some (.ref a), some (.int k), some (.int c), some (.int x), some (.int y), st]) ⟨rfl, _, _, none, Int.emod_nonneg _ (by decide), Int.emod_lt_of_pos _ (by decide), Int.le_refl 0, rfl⟩ ?_ ?_⟩
    · rintro i σ J2 hi ⟨rfl, x, y, st, h0, h1, hy, rfl⟩
      refine ⟨_, rfl, _, _, rfl, rfl, mul_small (by decide), _, rfl, _, _, rfl, rfl, mul_small (by decide), _, _, rfl, rfl, _, _, rfl, rfl, .inl ⟨_, rfl, _, _, rfl, rfl, (by show (0 : Int) < 2147483647; decide), ?_⟩⟩
      refine ⟨_, rfl, _, rfl, _, _, rfl, rfl, div_small (by decide) (by decide), _, _, rfl, rfl, _, _, rfl, rfl, mul_smallL (mod_small _ (by decide) (by decide)), .inl ⟨_, rfl, _, _, rfl, rfl, (by show (0 : Int) < 2147483629; decide), ?_⟩⟩
      refine ⟨_, rfl, _, _, rfl, rfl, mul_small (by decide), _, rfl, _, _, rfl, rfl, rfl, _, _, some (.int (0 + (i : Int))), mod_lo _ (by decide), Int.lt_trans (mod_hi _ (by decide)) (by decide), ?_, rfl⟩
      exact Int.add_nonneg (Int.mul_nonneg hy (by decide)) (mod_lo _ (by decide))
    · rintro σ J2 ⟨rfl, x, y, st, _, _, hy, rfl⟩
      exact ⟨_, rfl, q y hy⟩
def spTake : Sp := Sp2 fun x y H Q _ => ∃ (a : Addr) (n m : Int), x = .ref a ∧ H a = some (.lst [.int n]) ∧ y = .int m ∧ 0 < m ∧ m < 2 ^ 120 ∧ ∀ t n', 0 ≤ t → t < m → Q (.int t) (upd H a (.lst [.int n']))
theorem ok__law_take (T : Txt K mg) : FnOk P w K mg base (L2.CX P w) 1 (He.fAd K ("_law_take", none)) (S.fdA K ("_law_take", none)) ["_law_draw", "_law_size"] (spTake) := by
  refine FunD.ok T.F__law_take sc__law_take (fun vs H Q E h => S.splen2 h) (fun cdv A outer s H vs Q E hr h => ?_)
  have hu := hu_of hr
  refine ⟨_, (pss_cons (ps_set (i := 2) sc__law_take.nd rfl (by first | exact Or.inl rfl | exact Or.inr rfl) (pe_op op_mod (pe_callTy call_int1 rfl T.n_int S.boot_int (pa_cons (pe_ix (S.ixK (K := K) rfl) (pv 0) pe_int (fun _ _ => rfl)) pa_nil)) (pv 1)))
      (pss_cons (ps_asg (pe_op op_fdivW (pe_ix (S.ixK (K := K) rfl) (pv 0) pe_int (fun _ _ => rfl)) (pv 1)) (pg_sub (pv 0) pe_int set_list))
      (pss_one (ps_ret (pv 2))))), ?_⟩
  obtain ⟨_, _, rfl, a, n, m, rfl, ha, rfl, h0, h1, q⟩ := h
  refine ⟨_, rfl, .inl ⟨a, _, 0, _, rfl, rfl, .inl (.inl ha), rfl, .inl ⟨_, rfl, _, rfl, _, _, rfl, rfl, h0, ?_⟩⟩⟩
  refine ⟨_, rfl, .inl ⟨a, _, 0, _, rfl, rfl, .inl (.inl ha), rfl, _, rfl, _, _, rfl, rfl, wide_div (b := 120) h0 (by omega) (by decide) (by decide), ?_⟩⟩
  exact ⟨_, rfl, a, _, 0, 0, rfl, rfl, ha, rfl, _, rfl, q _ _ (mod_lo _ h0) (mod_hi _ h0)⟩
end
end W

namespace W
open PySem PySem.Spec PyProof.Rows L2
section
variable {P : Program} {w : World} {K : S.Frag} {mg : Str → Option Value} {base : Heap}
open S
/-- the draws at a went on, all else stands -/
structure Dr (a : Addr) (H H' : Hp) : Prop where
  at_ : ∃ m : Int, H' a = some (.lst [.int m])
  kp : ∀ b o, b ≠ a → H b = some o → H' b = some o
theorem Dr.trans {a : Addr} {H H1 H2 : Hp} (x : Dr a H H1) (y : Dr a H1 H2) : Dr a H H2 := ⟨y.at_, fun b o n h => y.kp b o n (x.kp b o n h)⟩
theorem Dr.upd {a : Addr} {H : Hp} {n : Int} : Dr a H (upd H a (.lst [.int n])) := ⟨⟨n, upd_same⟩, fun b o nb h => by rw [upd_ne nb]; exact h⟩
theorem Dr.same {a : Addr} {H H' : Hp} {n : Int} (h : H a = some (.lst [.int n])) (s : Same H H') : Dr a H H' := ⟨⟨n, s _ _ h⟩, fun b o _ h => s b o h⟩
/-- values that do not lean on the draws -/
inductive Oa (a : Addr) (H : Hp) : V → Prop where
  | int (i : Int) : Oa a H (.int i)
  | non : Oa a H .non
  | bl (b : Bool) : Oa a H (.bl b)
  | str (z : Str) : Oa a H (.str z)
  | tup {c : Addr} {xs : List V} (n : c ≠ a) (h : H c = some (.tup xs)) : Oa a H (.ref c)
  | lst {c : Addr} {xs : List V} (n : c ≠ a) (h : H c = some (.lst xs)) : Oa a H (.ref c)
  | dK {c : Addr} {xs : List (Key × V)} (n : c ≠ a) (h : H c = some (.dK xs)) : Oa a H (.ref c)
theorem Oa.od {a : Addr} {H : Hp} {x : V} (h : Oa a H x) : Od H x := by
  cases h with
  | int i => exact .int i
  | non => exact .non
  | bl b => exact .bl b
  | str z => exact .str z
  | tup n h => exact .tup h
  | lst n h => exact .lst h
  | dK n h => exact .dK h
theorem Oa.dr {a : Addr} {H H' : Hp} {x : V} (h : Oa a H x) (d : Dr a H H') : Oa a H' x := by
  cases h with
  | int i => exact .int i
  | non => exact .non
  | bl b => exact .bl b
  | str z => exact .str z
  | tup n h => exact .tup n (d.kp _ _ n h)
  | lst n h => exact .lst n (d.kp _ _ n h)
  | dK n h => exact .dK n (d.kp _ _ n h)
theorem ix3 {H : Hp} {a : Addr} {xs : List V} {v : V} {i : Int} {Q : VK} (ha : H a = some (.lst xs)) (e : atI xs i = some v) (q : Q v H) : rIx K (.ref a) (.int i) H Q := .inl ⟨a, _, _, _, rfl, rfl, .inl (.inl ha), e, q⟩
theorem ixT {H : Hp} {a : Addr} {xs : List V} {v : V} {i : Int} {Q : VK} (ha : H a = some (.tup xs)) (e : atI xs i = some v) (q : Q v H) : rIx K (.ref a) (.int i) H Q := .inr (.inl ⟨a, _, _, _, rfl, rfl, .inl (.inl ha), e, q⟩)
theorem isInt_int {x : V} (h : isInt x = true) : ∃ i, x = .int i := by cases x <;> first | exact ⟨_, rfl⟩ | cases h
theorem inR_not {x : V} {a b : Int} (h : isInt x = false) : inR a b x = false := by cases x <;> first | rfl | cases h
/-- one new thing at r beside what stood -/
theorem dr_same {r : Addr} {H H1 H2 : Hp} (h : Same H H1) (n : H r = none) (d : Dr r H1 H2) : Same H H2 := fun b o e => d.kp b o (ne_of_none e n) (h b o e)
end
end W

namespace W
open PySem PySem.Spec PyProof.Rows L2
section
variable {P : Program} {w : World} {K : S.Frag} {mg : Str → Option Value} {base : Heap}
open S
theorem ok__law_is_integer (T : Txt K mg) : FnOk P w K mg base (L2.CX P w) 1 (He.fAd K ("_law_is_integer", none)) (S.fdA K ("_law_is_integer", none)) ["_law_value"] (sp_isint K) := by
  refine FunD.ok T.F__law_is_integer sc__law_is_integer (fun vs H Q E h => S.splen1 h) (fun cdv A outer s H vs Q E hr h => ?_)
  have hu := hu_of hr
  refine ⟨_, (pss_one (ps_ret (pe_and (pe_callB (S.isiK (K := K) rfl) rfl T.n_isinstance S.boot_isinstance (pa_cons (pv 0) (pa_cons (pe_bltn (v := .ty "int") rfl T.n_int S.boot_int rfl) pa_nil))) (pe_one (pe_not (pe_callB (S.isiK (K := K) rfl) rfl T.n_isinstance S.boot_isinstance (pa_cons (pv 0) (pa_cons (pe_bltn (v := .ty "bool") rfl T.n_bool S.boot_bool rfl) pa_nil)))))))), ?_⟩
  obtain ⟨x, rfl, b, hb, q⟩ := h
  cases hb with
  | int i => exact ⟨_, rfl, _, _, _, _, true, rfl, .ty _, isi_true, kit_ty (by decide +kernel), _, rfl, _, rfl, _, _, _, _, false, rfl, .ty _, isi_true, kit_ty (by decide +kernel), _, rfl, q⟩
  | bl b => exact ⟨_, rfl, _, _, _, _, true, rfl, .ty _, .base (.bl b), kit_ty (by decide +kernel), _, rfl, _, rfl, _, _, _, _, true, rfl, .ty _, .base (.bl b), kit_ty (by decide +kernel), _, rfl, q⟩
  | oth h e => exact ⟨_, rfl, _, _, _, _, false, rfl, .ty _, h, e, _, rfl, q⟩
end
end W

namespace W
open PySem PySem.Spec PyProof.Rows L2
section
variable {P : Program} {w : World} {K : S.Frag} {mg : Str → Option Value} {base : Heap}
open S
/-! names -/
abbrev abc : Str := "abcdefghijklmnopqrstuvwxyz"
abbrev keptW : List V := [.str "any", .str "closed", .str "end", .str "open", .str "to"]
def isNm (z : Str) : Bool := (decide (1 ≤ z.length) && decide (z.length ≤ 8)) && (!inV (.str z) keptW && z.cps.toList.all fun c => decide (c ∈ abc.cps.toList))
def nmV : V → Bool
  | .str z => isNm z
  | _ => false
def isStr : V → Bool
  | .str _ => true
  | _ => false
def isBl : V → Bool
  | .bl _ => true
  | _ => false
/-- a text of bounded length, or none -/
def sml : V → Prop
  | .str z => z.length ≤ 1000
  | _ => True
theorem Od.str? {H : Hp} {x : V} (h : Od H x) : ∃ t, TyX K H x t ∧ PySem.W.kitOne K t (.type "str") = some (isStr x) := by
  cases h with
  | int i => exact ⟨_, .base (.int i), kit_ty (r := false) (by decide +kernel)⟩
  | non => exact ⟨_, .base .non, kit_ty (r := false) (by decide +kernel)⟩
  | bl b => exact ⟨_, .base (.bl b), kit_ty (r := false) (by decide +kernel)⟩
  | str z => exact ⟨_, .base (.str z), kit_ty (r := true) (by decide +kernel)⟩
  | tup h => exact ⟨_, .base (.tup h), kit_ty (r := false) (by decide +kernel)⟩
  | lst h => exact ⟨_, .base (.lst h), kit_ty (r := false) (by decide +kernel)⟩
  | dK h => exact ⟨_, .base (.dK h), kit_ty (r := false) (by decide +kernel)⟩
theorem Od.bl? {H : Hp} {x : V} (h : Od H x) : ∃ t, TyX K H x t ∧ PySem.W.kitOne K t (.type "bool") = some (isBl x) := by
  cases h with
  | int i => exact ⟨_, .base (.int i), kit_ty (r := false) (by decide +kernel)⟩
  | non => exact ⟨_, .base .non, kit_ty (r := false) (by decide +kernel)⟩
  | bl b => exact ⟨_, .base (.bl b), kit_ty (r := true) (by decide +kernel)⟩
  | str z => exact ⟨_, .base (.str z), kit_ty (r := false) (by decide +kernel)⟩
  | tup h => exact ⟨_, .base (.tup h), kit_ty (r := false) (by decide +kernel)⟩
  | lst h => exact ⟨_, .base (.lst h), kit_ty (r := false) (by decide +kernel)⟩
  | dK h => exact ⟨_, .base (.dK h), kit_ty (r := false) (by decide +kernel)⟩
theorem all_take {z : Str} {i c : Nat} (h : z.cps[i]? = some c) : z.cps.toList.take (i + 1) = z.cps.toList.take i ++ [c] := by
  rw [List.take_succ, ← Array.getElem?_toList] at *
  rw [h]
  rfl
def spNm (K : S.Frag) : Sp := Sp1 fun x H Q _ => Od H x ∧ sml x ∧ Q (.bl (nmV x)) H
theorem ok_is_name (T : Txt K mg) : FnOk P w K mg base (L2.CX P w) 1 (He.fAd K ("is_name", none)) (S.fdA K ("is_name", none)) ["value"] (spNm K) := by
  refine FunD.ok T.F_is_name sc_is_name (fun vs H Q E h => S.splen1 h) (fun cdv A outer s H vs Q E hr h => ?_)
  have hu := hu_of hr
  refine ⟨_, (pss_cons (ps_if (PW.pt (pw_or (pt_not (pt_val (pe_callB (S.isiK (K := K) rfl) rfl T.n_isinstance S.boot_isinstance (pa_cons (pv 0) (pa_cons (pe_bltn (v := .ty "str") rfl T.n_str S.boot_str rfl) pa_nil))))) (pw_or (pt_not (pt_chain op_le op_le pe_int (pe_callB (S.lenK (K := K) rfl) rfl T.n_len S.boot_len (pa_cons (pv 0) pa_nil)) pe_int)) (pw_or1 (pt_cmpR (S.inK (K := K) rfl) (pv 0) (pe_glob (v := .ref _) rfl T.g_KEPT_WORDS rfl) rfl))))) (pss_one (ps_ret pe_bl)) pss_nil)
      (pss_cons (ps_for (S.own_of rfl) rfl (pi_str (pv 0)) (pg_name (i := 1) sc_is_name.nd rfl (by first | exact Or.inl rfl | exact Or.inr rfl))
        (pss_one (ps_if (pt_cmpR op_notIn_sign (pv 1) (S.pe_globS rfl T.c_LETTERS) rfl) (pss_one (ps_ret pe_bl)) pss_nil)))
      (pss_one (ps_ret pe_bl)))), ?_⟩
  obtain ⟨x, rfl, ox, sx, q⟩ := h
  obtain ⟨t, ty, kt⟩ := ox.str? (K := K)
  refine ⟨_, rfl, _, _, _, _, _, rfl, .ty _, ty, kt, _, rfl, ?_⟩
  cases c1 : isStr x with
  | false =>
    have e : nmV x = false := by cases x <;> first | rfl | cases c1
    rw [e] at q
    exact iteT (iteT q)
  | true =>
    obtain ⟨z, rfl⟩ : ∃ z, x = .str z := by cases x <;> first | exact ⟨_, rfl⟩ | cases c1
    have sz : z.length ≤ 1000 := sx
    have bad : isNm z = false → Q (.bl false) H := fun e => by
      have e2 : nmV (.str z) = false := e
      rw [e2] at q
      exact q
    have q1 : ((1 : Int) ≤ (z.length : Int)) ↔ 1 ≤ z.length := by omega
    have q2 : ((z.length : Int) ≤ 8) ↔ z.length ≤ 8 := by omega
    refine iteF ⟨_, rfl, _, z.length, rfl, ⟨Nat.le_trans sz (by decide), rfl⟩, _, _, rfl, rfl, _, rfl, ?_⟩
    by_cases d1 : 1 ≤ z.length
    · refine iteY (decide_eq_true (by omega)) ⟨_, _, rfl, rfl, _, rfl, ?_⟩
      by_cases d2 : z.length ≤ 8
      · refine iteN (by simpa [q2] using d2) ⟨_, rfl, _, _, rfl, .inr (T.t_KEPT_WORDS H), rfl, rfl, _, rfl, ?_⟩
        cases d3 : inV (.str z) keptW with
        | true => exact iteY rfl (bad (by simp [isNm, d3]))
        | false =>
          refine iteN (by decide) ?_
          refine ⟨_, rfl, z, rfl, for_str (fun i σ J => J = H ∧ (∃ t, σ = [some (.str z), t]) ∧ (z.cps.toList.take i).all (fun c => decide (c ∈ abc.cps.toList)) = true) ⟨rfl, ⟨_, rfl⟩, rfl⟩ ?_ ?_⟩
          · rintro i c σ J hc ⟨rfl, ⟨t, rfl⟩, ha⟩
            refine ⟨_, rfl, _, _, rfl, rfl, _, rfl, ?_⟩
            by_cases d4 : c ∈ abc.cps.toList
            · refine iteN (by simp [d4]) ⟨rfl, ⟨_, rfl⟩, ?_⟩
              rw [all_take hc, List.all_append, ha, List.all_cons, decide_eq_true d4]
              rfl
            · refine iteY (by simp [d4]) (bad ?_)
              have m : c ∈ z.cps.toList := by
                rw [← Array.getElem?_toList] at hc
                exact List.mem_of_getElem? hc
              have e : (z.cps.toList.all fun c => decide (c ∈ abc.cps.toList)) = false := by
                rw [List.all_eq_false]
                exact ⟨c, m, by simp [d4]⟩
              simp only [isNm, e, Bool.and_false]
          · rintro σ J ⟨rfl, ⟨t, rfl⟩, ha⟩
            have e : nmV (.str z) = true := by
              have ha2 : (z.cps.toList.all fun c => decide (c ∈ abc.cps.toList)) = true := by
                rw [show z.cps.size = z.cps.toList.length by simp, List.take_length] at ha
                exact ha
              show isNm z = true
              simp only [isNm, ha2, d3, decide_eq_true d1, decide_eq_true d2]
              rfl
            rw [e] at q
            exact q
      · exact iteY (by simpa [q2] using d2) (bad (by simp [isNm, d2]))
    · exact iteN (fun c => d1 (by have := of_decide_eq_true c; omega)) ⟨_, rfl, iteT (bad (by simp [isNm, d1]))⟩
def intOf : V → Int
  | .int i => i
  | _ => 0
def mostV (l m : V) : V := if m = .non then l else m
/-- what is wrong with these four, or "" -/
def dueP (n l m t : V) : Str := if !nmV n then "name" else if !inR 1 6 l then "least" else if !inR (intOf l) 6 (mostV l m) then "most" else if !isBl t then "let" else ""
def fldP (n l m t : V) : List (Str × V) := [("name", n), ("least", l), ("most", m), ("let", t)]
theorem inR_int {a b : Int} {x : V} (h : inR a b x = true) : ∃ i, x = .int i ∧ a ≤ i ∧ i ≤ b := by
  cases x with
  | int i => simp [inR] at h; exact ⟨i, rfl, h⟩
  | _ => cases h
def spPlace (K : S.Frag) : Sp := Sp5 fun self n l m t H Q E => ∃ p dx, self = .ref p ∧ H p = some (.ins (He.ga K "Place") dx []) ∧ Od H n ∧ sml n ∧ Od H l ∧ Od H m ∧ Od H t ∧
  (dueP n l m t = "" → ∀ H', (∀ b o, H b = some o → b ≠ p → H' b = some o) → H' p = some (.ins (He.ga K "Place") dx (fldP n l (mostV l m) t)) → Q .non H') ∧
  (dueP n l m t ≠ "" → ∀ d H', H d = none → Same H H' → H' d = some (.xd [("why", .str (dueP n l m t))]) → E (.ref (He.ga K "BadPlace")) (some d) H')
section
variable (n l m t : V)
theorem lk_name : (fldP n l m t).lookup ("name" : Str) = some n := by
  unfold fldP
  rw [lookup_put, if_pos rfl]
theorem lk_least : (fldP n l m t).lookup ("least" : Str) = some l := by
  unfold fldP
  rw [lookup_put, if_neg (by decide +kernel), lookup_put, if_pos rfl]
theorem lk_most : (fldP n l m t).lookup ("most" : Str) = some m := by
  unfold fldP
  rw [lookup_put, if_neg (by decide +kernel), lookup_put, if_neg (by decide +kernel), lookup_put, if_pos rfl]
theorem lk_let : (fldP n l m t).lookup ("let" : Str) = some t := by
  unfold fldP
  rw [lookup_put, if_neg (by decide +kernel), lookup_put, if_neg (by decide +kernel), lookup_put, if_neg (by decide +kernel), lookup_put, if_pos rfl]
theorem lk_key : (fldP n l m t).lookup ("place_key" : Str) = none := by
  unfold fldP
  rw [lookup_put, if_neg (by decide +kernel), lookup_put, if_neg (by decide +kernel), lookup_put, if_neg (by decide +kernel), lookup_put, if_neg (by decide +kernel)]
  rfl
end
/-- a place stands at p -/
def PlAt (K : S.Frag) (H : Hp) (p : Addr) (n l m t : V) : Prop := ∃ dx, H p = some (.ins (He.ga K "Place") dx (fldP n l m t))
theorem PlAt.same {H H' : Hp} {p : Addr} {n l m t : V} (h : PlAt K H p n l m t) (s : Same H H') : PlAt K H' p n l m t := let ⟨dx, e⟩ := h; ⟨dx, s _ _ e⟩
def spKey (K : S.Frag) : Sp := Sp1 fun x H Q _ => ∃ p n l m t, x = .ref p ∧ PlAt K H p n l m t ∧ ∀ k, H k = none → Q (.ref k) (upd H k (.tup [n, l, m, t]))
def spPEq (K : S.Frag) : Sp := Sp2 fun x y H Q _ => ∃ p n l m t q n' l' m' t', x = .ref p ∧ y = .ref q ∧ PlAt K H p n l m t ∧ PlAt K H q n' l' m' t' ∧ [n, l, m, t].all sca = true ∧ [n', l', m', t'].all sca = true ∧
  ∀ H', Same H H' → Q (.bl (PyData.eqvAll ([n, l, m, t].map dat) ([n', l', m', t'].map dat))) H'
end
end W

namespace W
open PySem PySem.Spec PyProof.Rows L2
section
variable {P : Program} {w : World} {K : S.Frag} {mg : Str → Option Value} {base : Heap}
open S
/-! drawn names -/
theorem str_len (z : Str) : z.length = z.cps.toList.length := by simp [Str.length]
theorem app_cps (x y : Str) : (x ++ y).cps.toList = x.cps.toList ++ y.cps.toList := by
  show ((⟨x.cps ++ y.cps⟩ : Str)).cps.toList = _
  simp
theorem app_len (x y : Str) : (x ++ y).length = x.length + y.length := by rw [str_len, str_len, str_len, app_cps, List.length_append]
theorem eqV_str (a b : Str) : eqV (.str a) (.str b) = decide (a = b) := by
  show (a == b) = _
  rw [Bool.eq_iff_iff]
  simp
theorem inV_str (z : Str) (ws : List Str) : inV (.str z) (ws.map V.str) = decide (z ∈ ws) := by
  unfold inV
  rw [List.any_map, Bool.eq_iff_iff]
  simp only [List.any_eq_true, Function.comp, eqV_str, decide_eq_true_eq]
  constructor
  · rintro ⟨x, h, rfl⟩
    exact h
  · intro h
    exact ⟨z, h, rfl⟩
theorem flat_strs (ws : List Str) : (ws.map V.str).all flatV = true := by
  rw [List.all_map, List.all_eq_true]
  exact fun _ _ => rfl
/-- as many holes as pigeons -/
theorem nodup_le {α : Type} [DecidableEq α] : ∀ {l m : List α}, l.Nodup → (∀ x ∈ l, x ∈ m) → l.length ≤ m.length
  | [], m, _, _ => Nat.zero_le _
  | a :: l, m, h, s => by
    have ha : a ∈ m := s a List.mem_cons_self
    have hn := List.nodup_cons.mp h
    have e : (m.erase a).length = m.length - 1 := List.length_erase_of_mem ha
    have p : 0 < m.length := List.length_pos_of_mem ha
    have r : l.length ≤ (m.erase a).length := nodup_le hn.2 fun x hx => by
      have hx2 := s x (List.mem_cons_of_mem _ hx)
      have ne : x ≠ a := fun z => hn.1 (z ▸ hx)
      exact (List.mem_erase_of_ne ne).mpr hx2
    rw [List.length_cons]
    omega
theorem atI_lt {α : Type} {xs : List α} {i : Int} {v : α} (h0 : 0 ≤ i) (h : xs[i.toNat]? = some v) : atI xs i = some v := by
  obtain ⟨k, rfl⟩ : ∃ k : Nat, i = (k : Int) := ⟨i.toNat, by omega⟩
  exact atI_nat (by simpa using h)
def signs : List Str := abc.cps.toList.map fun c => ⟨#[c]⟩
theorem signs_nd : signs.Nodup := by decide +kernel
theorem signs_len : signs.length = 26 := by decide +kernel
theorem signs_nm : signs.all isNm = true := by decide +kernel
/-- used at u: the texts ws, fewer than the letters -/
def spName (K : S.Frag) : Sp := Sp2 fun x y H Q _ => ∃ (a u : Addr) (n : Int) (ws : List Str), x = .ref a ∧ y = .ref u ∧ a ≠ u ∧ H a = some (.lst [.int n]) ∧ H u = some (.lst (ws.map V.str)) ∧ ws.length < 26 ∧
  ∀ z H', isNm z = true → z ∉ ws → Dr a H H' → Q (.str z) H'
theorem ok__law_name (T : Txt K mg) : FnOk P w K mg base (L2.CX P w) 2 (He.fAd K ("_law_name", none)) (S.fdA K ("_law_name", none)) ["_law_draw", "_law_used"] (spName K) := by
  have G__law_take := ok__law_take (P := P) (w := w) (base := base) T
  refine FunD.ok T.F__law_name sc__law_name (fun vs H Q E h => S.splen2 h) (fun cdv A outer s H vs Q E hr h => ?_)
  have hu := hu_of hr
  refine ⟨_, (pss_cons (ps_set (i := 2) sc__law_name.nd rfl (by first | exact Or.inl rfl | exact Or.inr rfl) pe_str)
      (pss_cons (ps_set (i := 3) sc__law_name.nd rfl (by first | exact Or.inl rfl | exact Or.inr rfl) pe_str)
      (pss_cons (ps_for (S.own_of rfl) rfl (pi_range1 rfl T.n_range (pa_cons (pe_op op_add pe_int (S.pe_fnS G__law_take (hr.mono (by decide)) rfl T.g__law_take T.F__law_take.kp (kb__law_take_2 T) S.pas0 (pa_cons (pv 0) (pa_cons pe_int pa_nil)) pk_nil rfl rfl)) pa_nil)) (pg_name (i := 4) sc__law_name.nd rfl (by first | exact Or.inl rfl | exact Or.inr rfl))
        (pss_one (ps_set (i := 3) sc__law_name.nd rfl (by first | exact Or.inl rfl | exact Or.inr rfl) (pe_op op_add_str (pv 3) (pe_ix (S.ixK (K := K) rfl) (pv 2) (S.pe_fnS G__law_take (hr.mono (by decide)) rfl T.g__law_take T.F__law_take.kp (kb__law_take_2 T) S.pas0 (pa_cons (pv 0) (pa_cons pe_int pa_nil)) pk_nil rfl rfl) (fun _ _ => rfl))))))
      (S.pss_cut (ps_if (PW.pt (pw_and (pt_cmpR (S.notInK (K := K) rfl) (pv 3) (pv 1) rfl) (pw_and1 (pt_cmpR (S.notInK (K := K) rfl) (pv 3) (pe_lst (pa_cons pe_str (pa_cons pe_str (pa_cons pe_str (pa_cons pe_str (pa_cons pe_str pa_nil)))))) rfl)))) (pss_one (ps_ret (pv 3))) pss_nil)
      (pss_cons (ps_for (S.own_of rfl) rfl (pi_str (pv 2)) (pg_name (i := 5) sc__law_name.nd rfl (by first | exact Or.inl rfl | exact Or.inr rfl))
        (pss_one (ps_if (pt_cmpR (S.notInK (K := K) rfl) (pv 5) (pv 1) rfl) (pss_one (ps_ret (pv 5))) pss_nil)))
      (pss_one (ps_ret (pv 3)))))))), ?_⟩
  obtain ⟨_, _, rfl, a, u, n, ws, rfl, rfl, nau, ha, hu0, hw, q⟩ := h
  refine ⟨_, rfl, rfl, rfl, _, _, rfl, a, n, 8, rfl, ha, rfl, by decide, by decide, fun t n' t0 t1 => ⟨_, _, rfl, rfl, _, rfl, by omega, by omega, ?_⟩⟩
  refine for_range (n := (1 + t).toNat) (fun i σ J => Dr a H J ∧ ∃ z : Str, ∃ v, σ = [some (.ref a), some (.ref u), some (.str abc), some (.str z), v, none] ∧ z.length = i ∧ (z.cps.toList.all fun c => decide (c ∈ abc.cps.toList)) = true) ⟨Dr.upd, _, _, rfl, rfl, rfl⟩ ?_ ?_
  · rintro i σ J hi ⟨d, z, v, rfl, hz, hall⟩
    obtain ⟨m, em⟩ := d.at_
    refine ⟨_, rfl, _, rfl, _, rfl, rfl, rfl, _, _, rfl, a, m, 26, rfl, em, rfl, by decide, by decide, fun c n2 c0 c1 => ?_⟩
    have h26 : abc.cps.toList.length = 26 := by decide +kernel
    have hlt : c.toNat < abc.cps.toList.length := by omega
    have hmem : abc.cps.toList[c.toNat] ∈ abc.cps.toList := List.getElem_mem hlt
    refine .inr (.inr ⟨abc, c, abc.cps.toList[c.toNat], rfl, rfl, by decide +kernel, atI_lt (by omega) (List.getElem?_eq_getElem hlt), z, _, rfl, rfl, ?_, d.trans Dr.upd, _, _, rfl, ?_, ?_⟩)
    · have e1 : (⟨#[abc.cps.toList[c.toNat]]⟩ : Str).length = 1 := rfl
      rw [e1]
      exact Nat.le_trans (show z.length + 1 ≤ 1000 by omega) (by decide)
    · rw [app_len, hz]
      rfl
    · rw [app_cps, List.all_append, hall]
      show (true && List.all [abc.cps.toList[c.toNat]] _) = true
      rw [List.all_cons, decide_eq_true hmem]
      rfl
  · rintro σ J ⟨d, z, v, rfl, hz, hall⟩
    have hz1 : 1 ≤ z.length := by omega
    have hz8 : z.length ≤ 8 := by omega
    have hu1 : J u = some (.lst (ws.map V.str)) := d.kp u _ nau.symm hu0
    refine ⟨fun τ J2 => Dr a H J2 ∧ τ = [some (.ref a), some (.ref u), some (.str abc), some (.str z), v, none], ?_, ?_⟩
    · refine ⟨_, rfl, _, rfl, u, _, rfl, .inl (.inl (.inl hu1)), rfl, flat_strs ws, _, rfl, ?_⟩
      by_cases c1 : z ∈ ws
      · refine iteN (by rw [inV_str, decide_eq_true c1]; decide) (iteF ⟨d, rfl⟩)
      · refine iteY (by rw [inV_str, decide_eq_false c1]; rfl) ⟨_, rfl, by show 5 ≤ sizeLine; decide, fun p hp => ?_⟩
        have s1 := Same.new (o := .lst keptW) hp
        have d1 : Dr a H (upd J p (.lst keptW)) := d.trans (let ⟨m, e⟩ := d.at_; Dr.same e s1)
        refine ⟨p, _, rfl, .inl (.inl (.inl upd_same)), rfl, rfl, _, rfl, ?_⟩
        cases c2 : inV (.str z) keptW with
        | true => exact iteN (by decide) ⟨d1, rfl⟩
        | false =>
          refine iteY rfl ⟨_, rfl, q z _ ?_ c1 d1⟩
          simp only [isNm, hall, c2, decide_eq_true hz1, decide_eq_true hz8]
          rfl
    · rintro τ J2 ⟨d2, rfl⟩
      have hu2 : J2 u = some (.lst (ws.map V.str)) := d2.kp u _ nau.symm hu0
      refine ⟨_, rfl, abc, rfl, for_str (fun i σ J3 => J3 = J2 ∧ (∃ v6, σ = [some (.ref a), some (.ref u), some (.str abc), some (.str z), v, v6]) ∧ ∀ c ∈ abc.cps.toList.take i, (⟨#[c]⟩ : Str) ∈ ws) ⟨rfl, ⟨_, rfl⟩, fun c h => by simp at h⟩ ?_ ?_⟩
      · rintro i c σ J3 hc ⟨rfl, ⟨v6, rfl⟩, hin⟩
        have hm : c ∈ abc.cps.toList := by
          rw [← Array.getElem?_toList] at hc
          exact List.mem_of_getElem? hc
        refine ⟨_, rfl, _, rfl, u, _, rfl, .inl (.inl (.inl hu2)), rfl, flat_strs ws, _, rfl, ?_⟩
        by_cases c1 : (⟨#[c]⟩ : Str) ∈ ws
        · refine iteN (by rw [inV_str, decide_eq_true c1]; decide) ⟨rfl, ⟨_, rfl⟩, fun e he => ?_⟩
          rw [all_take hc] at he
          rcases List.mem_append.mp he with h | h
          · exact hin e h
          · rw [List.mem_singleton.mp h]
            exact c1
        · refine iteY (by rw [inV_str, decide_eq_false c1]; rfl) ⟨_, rfl, q _ _ ?_ c1 d2⟩
          exact List.all_eq_true.mp signs_nm _ (List.mem_map.mpr ⟨c, hm, rfl⟩)
      · rintro σ J3 ⟨rfl, ⟨v6, rfl⟩, hin⟩
        have full : ∀ x ∈ signs, x ∈ ws := fun x hx => by
          obtain ⟨c, hc, rfl⟩ := List.mem_map.mp hx
          refine hin c ?_
          rw [show abc.cps.size = abc.cps.toList.length by simp, List.take_length]
          exact hc
        have := nodup_le signs_nd full
        rw [signs_len] at this
        omega
end
end W

namespace W
open PySem PySem.Spec PyProof.Rows L2
section
variable {P : Program} {w : World} {K : S.Frag} {mg : Str → Option Value} {base : Heap}
open S
/-! plain law of lowest terms -/
def gI (a b : Int) : Int := ((Nat.gcd a.natAbs b.natAbs : Nat) : Int)
def loT (t b : Int) : Int := (if b < 0 then -t else t) / gI t b
def loB (t b : Int) : Int := (if b < 0 then -b else b) / gI t b
theorem gI_pos {t b : Int} (h : b ≠ 0) : 0 < gI t b := by
  have : 0 < Nat.gcd t.natAbs b.natAbs := Nat.gcd_pos_of_pos_right _ (by omega)
  unfold gI
  omega
theorem gI_le {t b : Int} (h : b ≠ 0) : (gI t b).natAbs ≤ b.natAbs := by
  have : Nat.gcd t.natAbs b.natAbs ≤ b.natAbs := Nat.gcd_le_right _ (by omega)
  unfold gI
  omega
theorem gI_dT (t b : Int) : gI t b ∣ (if b < 0 then -t else t) := by
  have h : gI t b ∣ t := Int.ofNat_dvd_left.mpr (Nat.gcd_dvd_left _ _)
  split
  · exact Int.dvd_neg.mpr h
  · exact h
theorem gI_dB (t b : Int) : gI t b ∣ (if b < 0 then -b else b) := by
  have h : gI t b ∣ b := Int.ofNat_dvd_left.mpr (Nat.gcd_dvd_right _ _)
  split
  · exact Int.dvd_neg.mpr h
  · exact h
theorem lo_eT {t b : Int} : loT t b * gI t b = if b < 0 then -t else t := Int.ediv_mul_cancel (gI_dT t b)
theorem lo_eB {t b : Int} : loB t b * gI t b = if b < 0 then -b else b := Int.ediv_mul_cancel (gI_dB t b)
theorem loB_pos {t b : Int} (h : b ≠ 0) : 0 < loB t b := by
  have g := gI_pos (t := t) h
  have e := lo_eB (t := t) (b := b)
  have p : 0 < (if b < 0 then -b else b) := by split <;> omega
  rw [← e] at p
  exact Int.pos_of_mul_pos_left p g
theorem lo_same {t b : Int} (h : b ≠ 0) : loT t b * b = t * loB t b := by
  have g := gI_pos (t := t) h
  have e1 := lo_eT (t := t) (b := b)
  have e2 := lo_eB (t := t) (b := b)
  refine Int.eq_of_mul_eq_mul_right (Int.ne_of_gt g) ?_
  rw [Int.mul_right_comm, e1, Int.mul_assoc, e2]
  split
  · rw [Int.neg_mul, Int.mul_neg]
  · rfl
theorem lo_one {t b : Int} (h : b ≠ 0) : gI (loT t b) (loB t b) = 1 := by
  have e1 : (loT t b).natAbs * Nat.gcd t.natAbs b.natAbs = t.natAbs := by
    have := congrArg Int.natAbs (lo_eT (t := t) (b := b))
    rw [Int.natAbs_mul] at this
    refine this.trans ?_
    split
    · exact Int.natAbs_neg t
    · rfl
  have e2 : (loB t b).natAbs * Nat.gcd t.natAbs b.natAbs = b.natAbs := by
    have := congrArg Int.natAbs (lo_eB (t := t) (b := b))
    rw [Int.natAbs_mul] at this
    refine this.trans ?_
    split
    · exact Int.natAbs_neg b
    · rfl
  have gp : 0 < Nat.gcd t.natAbs b.natAbs := Nat.gcd_pos_of_pos_right _ (by omega)
  have e3 : Nat.gcd (loT t b).natAbs (loB t b).natAbs * Nat.gcd t.natAbs b.natAbs = 1 * Nat.gcd t.natAbs b.natAbs := by
    rw [← Nat.gcd_mul_right, e1, e2, Nat.one_mul]
  have := Nat.eq_of_mul_eq_mul_right gp e3
  unfold gI
  rw [this]
  rfl
theorem lo_leT {t b : Int} (h : b ≠ 0) : (loT t b).natAbs ≤ t.natAbs := by
  have g := gI_pos (t := t) h
  have := congrArg Int.natAbs (lo_eT (t := t) (b := b))
  rw [Int.natAbs_mul] at this
  have e : (if b < 0 then -t else t).natAbs = t.natAbs := by split <;> omega
  rw [← e, ← this]
  exact Nat.le_mul_of_pos_right _ (by omega)
theorem lo_leB {t b : Int} (h : b ≠ 0) : (loB t b).natAbs ≤ b.natAbs := by
  have g := gI_pos (t := t) h
  have := congrArg Int.natAbs (lo_eB (t := t) (b := b))
  rw [Int.natAbs_mul] at this
  have e : (if b < 0 then -b else b).natAbs = b.natAbs := by split <;> omega
  rw [← e, ← this]
  exact Nat.le_mul_of_pos_right _ (by omega)
theorem gI_one (t : Int) : gI t 1 = 1 := by
  unfold gI
  rw [show (1 : Int).natAbs = 1 from rfl, Nat.gcd_one_right]
  rfl
theorem loT_1 (t : Int) : loT t 1 = t := by
  unfold loT
  rw [gI_one, if_neg (by decide), Int.ediv_one]
theorem loB_1 (t : Int) : loB t 1 = 1 := by
  unfold loB
  rw [gI_one]
  decide
/-! the walk -/
def spGcd : Sp := Sp2 fun x y H Q _ => ∃ a b : Int, x = .int a ∧ y = .int b ∧ 0 ≤ a ∧ 0 ≤ b ∧ Q (.int (gI a b)) H
def ShAt (K : S.Frag) (H : Hp) (a : Addr) (t b : Int) : Prop := ∃ dx vs, SlX.Slt H a (He.ga K "Share") dx vs ∧ vs[1]? = some (some (.int t)) ∧ vs[0]? = some (some (.int b))
theorem ShAt.same {H H' : Hp} {a : Addr} {t b : Int} (h : ShAt K H a t b) (s : Same H H') : ShAt K H' a t b := by
  obtain ⟨dx, vs, h, h1, h2⟩ := h
  refine ⟨dx, vs, ?_, h1, h2⟩
  rcases h with ⟨x, y⟩ | ⟨x, y⟩
  · exact .inl ⟨s _ _ x, y⟩
  · exact .inr ⟨s _ _ x, s _ _ y⟩
def intV : V → Int
  | .int i => i
  | _ => 0
/-- what is wrong with a top and a bottom, or "" -/
def dueS (t b : V) : Str := if !isInt t then "top" else if !isInt b || decide (intV b = 0) then "bottom" else ""
def bigV (x : V) : Prop := (intV x).natAbs < 2 ^ 4000
def spShare (K : S.Frag) : Sp := Sp3 fun self t b H Q E => ∃ p dx, self = .ref p ∧ H p = some (.ins (He.ga K "Share") dx []) ∧ dx ≠ p ∧ Od H t ∧ Od H b ∧ bigV t ∧ bigV b ∧
  (dueS t b = "" → ∀ H', (∀ c o, H c = some o → c ≠ p → c ≠ dx → H' c = some o) → ShAt K H' p (loT (intV t) (intV b)) (loB (intV t) (intV b)) → Q .non H') ∧
  (dueS t b ≠ "" → ∀ d H', H d = none → Same H H' → H' d = some (.xd [("part", .str (dueS t b))]) → E (.ref (He.ga K "BadShare")) (some d) H')
def spFloor (K : S.Frag) : Sp := Sp1 fun x H Q _ => ∃ a t b, x = .ref a ∧ ShAt K H a t b ∧ 0 < b ∧ b.natAbs < 2 ^ 4000 ∧ Q (.int (t / b)) H
end
end W

namespace W
open PySem PySem.Spec PyProof.Rows L2
section
variable {P : Program} {w : World} {K : S.Frag} {mg : Str → Option Value} {base : Heap}
open S
/-- a new share of the value t/b -/
def NewS (K : S.Frag) (H : Hp) (t b : Int) (Q : VK) : Prop := ∀ (p : Addr) (H' : Hp) (T B : Int), Same H H' → ShAt K H' p T B → 0 < B → gI T B = 1 → T * b = t * B → T.natAbs ≤ t.natAbs → B.natAbs ≤ b.natAbs → Q (.ref p) H'
theorem mkR {H : Hp} {Q : VK} {E : XK} {t b : Int} {p dx : Addr} (np : H p = none) (ndx : H dx = none) (ne : dx ≠ p) (bt : t.natAbs < 2 ^ 4000) (bb : b.natAbs < 2 ^ 4000) (h : b ≠ 0) (k : NewS K H t b Q) :
    spShare K [.ref p, .int t, .int b] (upd (upd H dx (.own p)) p (.ins (He.ga K "Share") dx [])) (fun v H3 => v = .non ∧ Q (.ref p) H3) E := by
  have s0 : Same H (upd (upd H dx (.own p)) p (.ins (He.ga K "Share") dx [])) := Same.upd (Same.new ndx) np
  have du : dueS (.int t) (.int b) = "" := by simp [dueS, isInt, intV, h]
  exact ⟨_, _, _, rfl, p, dx, rfl, upd_same, ne, .int _, .int _, bt, bb, fun e H' kp hp => ⟨rfl, k p H' _ _ (fun c o hc => kp c o (s0 c o hc) (ne_of_none hc np) (ne_of_none hc ndx)) hp (loB_pos h) (lo_one h) (lo_same h) (lo_leT h) (lo_leB h)⟩, fun e => absurd du e⟩
end
end W

namespace S
open PySem PySem.Spec PyProof.Rows L2
/-! rows of names and numbers; comprehensions over a dict's keys -/
def tb (es : List (Str × Int)) : List (Key × V) := es.map fun e => (Sum.inr e.1, V.int e.2)
def cn (es : List (Str × Int)) (x : Str) : Int := ((es.find? fun e => decide (e.1 = x)).map (·.2)).getD 0
theorem tb_len (es : List (Str × Int)) : (tb es).length = es.length := by unfold tb; rw [List.length_map]
theorem tb_val (es : List (Str × Int)) (x : Str) : valV (tb es) (.inr x) = (es.find? fun e => decide (e.1 = x)).map fun e => V.int e.2 := by
  unfold valV tb
  rw [List.find?_map, Option.map_map]
  have : ((fun kv : Key × V => decide (kv.1 = Sum.inr x)) ∘ fun e : Str × Int => ((Sum.inr e.1 : Key), V.int e.2)) = fun e : Str × Int => decide (e.1 = x) := by
    funext e
    show decide ((Sum.inr e.1 : Key) = Sum.inr x) = _
    rw [Bool.eq_iff_iff]
    simp
  rw [this]
  rfl
theorem tb_getD (es : List (Str × Int)) (x : Str) : (valV (tb es) (.inr x)).getD (.int 0) = .int (cn es x) := by
  rw [tb_val]
  unfold cn
  cases es.find? fun e => decide (e.1 = x) <;> rfl
structure OkE (es : List (Str × Int)) : Prop where
  nd : (es.map Prod.fst).Nodup
  pos : ∀ e ∈ es, 0 < e.2
theorem find_nd {es : List (Str × Int)} (h : (es.map Prod.fst).Nodup) {e : Str × Int} (he : e ∈ es) : es.find? (fun x => decide (x.1 = e.1)) = some e := by
  induction es with
  | nil => cases he
  | cons a es ih =>
    rw [List.map_cons] at h
    obtain ⟨h1, h2⟩ := List.nodup_cons.mp h
    rcases List.mem_cons.mp he with rfl | he
    · simp [List.find?_cons]
    · have ne : a.1 ≠ e.1 := fun z => h1 (z ▸ List.mem_map.mpr ⟨e, he, rfl⟩)
      rw [List.find?_cons, decide_eq_false ne]
      exact ih h2 he
theorem cn_mem {es : List (Str × Int)} (h : (es.map Prod.fst).Nodup) {e : Str × Int} (he : e ∈ es) : cn es e.1 = e.2 := by
  unfold cn
  rw [find_nd h he]
  rfl
theorem val_mem {es : List (Str × Int)} (h : (es.map Prod.fst).Nodup) {e : Str × Int} (he : e ∈ es) : valV (tb es) (.inr e.1) = some (.int e.2) := by
  rw [tb_val, find_nd h he]
  rfl
theorem find_out {es : List (Str × Int)} {x : Str} (h : x ∉ es.map Prod.fst) : es.find? (fun e => decide (e.1 = x)) = none := List.find?_eq_none.mpr fun e he => by
  have : e.1 ≠ x := fun z => h (z ▸ List.mem_map.mpr ⟨e, he, rfl⟩)
  simpa using this
theorem cn_out {es : List (Str × Int)} {x : Str} (h : x ∉ es.map Prod.fst) : cn es x = 0 := by
  unfold cn
  rw [find_out h]
  rfl
theorem val_out {es : List (Str × Int)} {x : Str} (h : x ∉ es.map Prod.fst) : valV (tb es) (.inr x) = none := by
  rw [tb_val, find_out h]
  rfl
theorem cn_pos {es : List (Str × Int)} (o : OkE es) (x : Str) : x ∈ es.map Prod.fst ↔ 0 < cn es x := by
  constructor
  · intro h
    obtain ⟨e, he, rfl⟩ := List.mem_map.mp h
    rw [cn_mem o.nd he]
    exact o.pos e he
  · intro h
    refine Classical.byContradiction fun n => ?_
    rw [cn_out n] at h
    exact absurd h (by decide)
theorem cn_nn {es : List (Str × Int)} (o : OkE es) (x : Str) : 0 ≤ cn es x := by
  by_cases h : x ∈ es.map Prod.fst
  · exact Int.le_of_lt ((cn_pos o x).mp h)
  · rw [cn_out h]
    exact Int.le_refl 0
theorem val_some {es : List (Str × Int)} (o : OkE es) (x : Str) : (valV (tb es) (.inr x)).isSome = decide (0 < cn es x) := by
  by_cases h : x ∈ es.map Prod.fst
  · rw [decide_eq_true ((cn_pos o x).mp h)]
    obtain ⟨e, he, rfl⟩ := List.mem_map.mp h
    rw [val_mem o.nd he]
    rfl
  · rw [val_out h, cn_out h]
    rfl
/-! es[x] = v -/
def putE (es : List (Str × Int)) (x : Str) (v : Int) : List (Str × Int) := if x ∈ es.map Prod.fst then es.map (fun e => if e.1 = x then (x, v) else e) else es ++ [(x, v)]
theorem tb_put (es : List (Str × Int)) (x : Str) (v : Int) : putK (tb es) (.inr x) (.int v) = tb (putE es x v) := by
  unfold putK putE
  have e1 : ((tb es).any fun kv => decide (kv.1 = Sum.inr x)) = decide (x ∈ es.map Prod.fst) := by
    rw [Bool.eq_iff_iff, List.any_eq_true, decide_eq_true_eq]
    constructor
    · rintro ⟨kv, h, e⟩
      obtain ⟨a, ha, rfl⟩ := List.mem_map.mp h
      exact List.mem_map.mpr ⟨a, ha, Sum.inr.inj (of_decide_eq_true e)⟩
    · intro h
      obtain ⟨a, ha, rfl⟩ := List.mem_map.mp h
      exact ⟨_, List.mem_map.mpr ⟨a, ha, rfl⟩, decide_eq_true rfl⟩
  rw [e1]
  by_cases c : x ∈ es.map Prod.fst
  · rw [if_pos (decide_eq_true c), if_pos c]
    unfold tb
    rw [List.map_map, List.map_map]
    refine List.map_congr_left fun e _ => ?_
    obtain ⟨a, b⟩ := e
    show (if (Sum.inr a : Key) = Sum.inr x then ((Sum.inr a : Key), V.int v) else (Sum.inr a, V.int b)) = ((Sum.inr (if a = x then (x, v) else (a, b)).1 : Key), V.int (if a = x then (x, v) else (a, b)).2)
    by_cases d : a = x
    · subst d
      rw [if_pos rfl, if_pos rfl]
    · rw [if_neg (fun z => d (Sum.inr.inj z)), if_neg d]
  · rw [if_neg (by simp [c]), if_neg c]
    unfold tb
    rw [List.map_append]
    rfl
theorem cn_val {es es' : List (Str × Int)} {x y : Str} (h : valV (tb es) (.inr x) = valV (tb es') (.inr y)) : cn es x = cn es' y := by
  have h1 := tb_getD es x
  have h2 := tb_getD es' y
  rw [h, h2] at h1
  injection h1 with h1
  exact h1.symm
theorem cn_put (es : List (Str × Int)) (x : Str) (v : Int) (y : Str) : cn (putE es x v) y = if y = x then v else cn es y := by
  have h := tb_getD (putE es x v) y
  rw [← tb_put, valV_put] at h
  by_cases c : y = x
  · rw [if_pos (by rw [c])] at h
    rw [if_pos c]
    injection h with h
    exact h.symm
  · rw [if_neg (fun z => c (Sum.inr.inj z)), tb_getD] at h
    rw [if_neg c]
    injection h with h
    exact h.symm
theorem put_keys (es : List (Str × Int)) (x : Str) (v : Int) : (putE es x v).map Prod.fst = if x ∈ es.map Prod.fst then es.map Prod.fst else es.map Prod.fst ++ [x] := by
  unfold putE
  split
  · rw [List.map_map]
    refine List.map_congr_left fun e _ => ?_
    show (if e.1 = x then (x, v) else e).1 = e.1
    split
    · rename_i h
      exact h.symm
    · rfl
  · rw [List.map_append]
    rfl
theorem put_nd {es : List (Str × Int)} (h : (es.map Prod.fst).Nodup) (x : Str) (v : Int) : ((putE es x v).map Prod.fst).Nodup := by
  rw [put_keys]
  split
  · exact h
  · rename_i n
    refine List.nodup_append.mpr ⟨h, by simp, fun a ha b hb => ?_⟩
    rw [List.mem_singleton.mp hb]
    exact fun z => n (z ▸ ha)
theorem put_mem {es : List (Str × Int)} {x : Str} {v : Int} {e : Str × Int} (h : e ∈ putE es x v) : e = (x, v) ∨ e ∈ es := by
  unfold putE at h
  split at h
  · obtain ⟨a, ha, rfl⟩ := List.mem_map.mp h
    split
    · exact .inl rfl
    · exact .inr ha
  · rcases List.mem_append.mp h with h | h
    · exact .inr h
    · exact .inl (List.mem_singleton.mp h)
theorem put_len (es : List (Str × Int)) (x : Str) (v : Int) : (putE es x v).length ≤ es.length + 1 := by
  unfold putE
  split
  · rw [List.length_map]
    omega
  · rw [List.length_append]
    simp
theorem okE_put {es : List (Str × Int)} (o : OkE es) (x : Str) {v : Int} (h : 0 < v) : OkE (putE es x v) := ⟨put_nd o.nd x v, fun e he => by
  rcases put_mem he with rfl | he
  · exact h
  · exact o.pos e he⟩
def dropE (es : List (Str × Int)) (x : Str) : List (Str × Int) := es.filter fun e => decide (e.1 ≠ x)
theorem tb_drop (es : List (Str × Int)) (x : Str) : dropK (tb es) (.inr x) = tb (dropE es x) := by
  unfold dropK tb dropE
  rw [List.filter_map]
  congr 1
  refine List.filter_congr fun e _ => ?_
  show decide ((Sum.inr e.1 : Key) ≠ Sum.inr x) = _
  rw [Bool.eq_iff_iff]
  simp
theorem okE_drop {es : List (Str × Int)} {x : Str} (nd : (es.map Prod.fst).Nodup) (h : ∀ e ∈ es, e.1 ≠ x → 0 < e.2) : OkE (dropE es x) := ⟨(List.Sublist.map _ List.filter_sublist).nodup nd, fun e he => by
  obtain ⟨h1, h2⟩ := List.mem_filter.mp he
  exact h e h1 (by simpa using h2)⟩
theorem drop_len (es : List (Str × Int)) (x : Str) : (dropE es x).length ≤ es.length := List.length_filter_le _ _
theorem cn_drop (es : List (Str × Int)) (x y : Str) : cn (dropE es x) y = if y = x then 0 else cn es y := by
  unfold cn dropE
  rw [List.find?_filter]
  by_cases c : y = x
  · rw [if_pos c]
    have : es.find? (fun a => decide (decide (a.1 ≠ x) = true ∧ decide (a.1 = y) = true)) = none := List.find?_eq_none.mpr fun e _ => by
      subst c
      simp
    rw [this]
    rfl
  · rw [if_neg c]
    congr 2
    have : (fun a : Str × Int => decide (decide (a.1 ≠ x) = true ∧ decide (a.1 = y) = true)) = fun e => decide (e.1 = y) := by
      funext e
      rw [Bool.eq_iff_iff]
      simp only [decide_eq_true_eq]
      exact ⟨fun h => h.2, fun h => ⟨fun z => c (h ▸ z), h⟩⟩
    rw [this]
/-! over the keys -/
theorem tb_get {es : List (Str × Int)} {k : Nat} {q : Key × V} (h : (tb es)[k]? = some q) : ∃ e, es[k]? = some e ∧ q = (.inr e.1, .int e.2) := by
  unfold tb at h
  rw [List.getElem?_map] at h
  obtain ⟨e, he, rfl⟩ := Option.map_eq_some_iff.mp h
  exact ⟨e, he, rfl⟩
def FzD (J : Hp) (d : Addr) (es : List (Str × Int)) : Prop := ∃ od, J d = some (.frz od (.dK (tb es)))
theorem lock_back {H : Hp} {d D : Addr} {u o : HO} {od : Obj} (hd : H d = some u) (n : D ≠ d) : upd (upd (upd H d (.frz od u)) D o) d u = upd H D o := by
  funext b
  by_cases c : b = d
  · rw [c, upd_same, upd_ne n.symm, hd]
  · rw [upd_ne c]
    by_cases e : b = D
    · rw [e, upd_same, upd_same]
    · rw [upd_ne e, upd_ne e, upd_ne c]
theorem lc_keys {es : List (Str × Int)} {H : Hp} {d : Addr} {p : Str × Int → Bool} {f : Str × Int → V} {td te : TE} {tt : TT} {vs : List Nat} {σ : L2.St} {i : Nat} {Q : VK} (hd : H d = some (.dK (tb es))) (nl : es.length ≤ 1000)
    (htd : ∀ (J : Hp) (Z : VK), (∀ b o, b ≠ d → H b = some o → J b = some o) → Z (.ref d) J → td σ J Z)
    (w0 : ∀ x, wipe ((wipe σ vs).set i (some x)) vs = wipe σ vs)
    (tst : ∀ e ∈ es, ∀ (J : Hp) (Z : Bool → Hp → Prop), FzD J d es → (∀ b o, b ≠ d → H b = some o → J b = some o) → Z (p e) J → tt ((wipe σ vs).set i (some (.str e.1))) J Z)
    (el : ∀ e ∈ es, ∀ (J : Hp) (Z : VK), FzD J d es → (∀ b o, b ≠ d → H b = some o → J b = some o) → Z (f e) J → te ((wipe σ vs).set i (some (.str e.1))) J Z)
    (q : ∀ D, H D = none → Q (.ref D) (upd H D (.lst ((es.filter p).map f)))) : tLockE (tLc (iKeys td) (gName i) tt te vs) σ H Q := by
  refine ⟨d, _, hd, trivial, fun od => htd _ _ (fun b o n h => by rw [upd_ne n]; exact h) ⟨d, od, rfl, .inl ⟨_, upd_same, fun D hD => ?_⟩⟩⟩
  have nDd : D ≠ d := fun e => by rw [e, upd_same] at hD; cases hD
  have hD0 : H D = none := by rwa [upd_ne nDd] at hD
  have fz : ∀ o : HO, FzD (upd (upd H d (.frz od (.dK (tb es)))) D o) d es := fun o => ⟨od, by rw [upd_ne nDd.symm, upd_same]⟩
  have kp : ∀ (o : HO) (b : Addr) (u : HO), b ≠ d → H b = some u → (upd (upd H d (.frz od (.dK (tb es)))) D o) b = some u := fun o b u n h => by
    rw [upd_ne (ne_of_none h hD0), upd_ne n]
    exact h
  refine lc_it walk_keys (fun k J => J = upd (upd H d (.frz od (.dK (tb es)))) D (.lst (((es.take k).filter p).map f))) rfl (fun k J _ h => by subst h; rw [upd_ne nDd.symm, upd_same]) ?_ ?_
  · rintro k x J J' hk rfl ⟨rfl, key, v, hx, rfl⟩
    obtain ⟨e, he, ee⟩ := tb_get hx
    injection ee with e1 e2
    subst e1 e2
    have me := List.mem_of_getElem? he
    refine ⟨w0 _, tst e me _ _ (fz _) (kp _) ?_⟩
    cases hp : p e with
    | false =>
      refine iteF ?_
      show _ = _
      rw [List.take_add_one, he, List.filter_append]
      simp [hp]
    | true =>
      refine iteT (el e me _ _ (fz _) (kp _) ⟨_, upd_same, ?_, ?_⟩)
      · rw [List.length_map]
        refine Nat.lt_of_le_of_lt (Nat.le_trans (List.length_filter_le _ _) (List.length_take_le _ _)) ?_
        rw [tb_len] at hk
        exact Nat.lt_trans hk (Nat.lt_of_le_of_lt nl (by decide))
      · show _ = _
        rw [List.take_add_one, he, List.filter_append, List.map_append]
        funext b
        by_cases c : b = D
        · rw [c, upd_same, upd_same]
          simp [hp]
        · rw [upd_ne c, upd_ne c, upd_ne c]
  · rintro J rfl
    rw [tb_len, List.take_length]
    refine ⟨by rw [upd_ne nDd.symm, upd_same], ?_⟩
    rw [lock_back hd nDd]
    exact q D hD0
theorem dc_keys {es : List (Str × Int)} {H : Hp} {d : Addr} {p : Str × Int → Bool} {f : Str × Int → Int} {td tk te : TE} {tt : TT} {vs : List Nat} {σ : L2.St} {i : Nat} {Q : VK} (hd : H d = some (.dK (tb es))) (nd : (es.map Prod.fst).Nodup) (nl : es.length ≤ 1000)
    (htd : ∀ (J : Hp) (Z : VK), (∀ b o, b ≠ d → H b = some o → J b = some o) → Z (.ref d) J → td σ J Z)
    (w0 : ∀ x, wipe ((wipe σ vs).set i (some x)) vs = wipe σ vs)
    (tst : ∀ e ∈ es, ∀ (J : Hp) (Z : Bool → Hp → Prop), FzD J d es → (∀ b o, b ≠ d → H b = some o → J b = some o) → Z (p e) J → tt ((wipe σ vs).set i (some (.str e.1))) J Z)
    (ek : ∀ e ∈ es, ∀ (J : Hp) (Z : VK), Z (.str e.1) J → tk ((wipe σ vs).set i (some (.str e.1))) J Z)
    (el : ∀ e ∈ es, ∀ (J : Hp) (Z : VK), FzD J d es → (∀ b o, b ≠ d → H b = some o → J b = some o) → Z (.int (f e)) J → te ((wipe σ vs).set i (some (.str e.1))) J Z)
    (q : ∀ D, H D = none → Q (.ref D) (upd H D (.dK (tb ((es.filter p).map fun e => (e.1, f e)))))) : tLockE (tDc (iKeys td) (gName i) tt tk te vs) σ H Q := by
  refine ⟨d, _, hd, trivial, fun od => htd _ _ (fun b o n h => by rw [upd_ne n]; exact h) ⟨d, od, rfl, .inl ⟨_, upd_same, fun D hD => ?_⟩⟩⟩
  have nDd : D ≠ d := fun e => by rw [e, upd_same] at hD; cases hD
  have hD0 : H D = none := by rwa [upd_ne nDd] at hD
  have fz : ∀ o : HO, FzD (upd (upd H d (.frz od (.dK (tb es)))) D o) d es := fun o => ⟨od, by rw [upd_ne nDd.symm, upd_same]⟩
  have kp : ∀ (o : HO) (b : Addr) (u : HO), b ≠ d → H b = some u → (upd (upd H d (.frz od (.dK (tb es)))) D o) b = some u := fun o b u n h => by
    rw [upd_ne (ne_of_none h hD0), upd_ne n]
    exact h
  refine dc_it walk_keys (fun k J => J = upd (upd H d (.frz od (.dK (tb es)))) D (.dK (tb (((es.take k).filter p).map fun e => (e.1, f e))))) rfl (fun k J _ h => by subst h; rw [upd_ne nDd.symm, upd_same]) ?_ ?_
  · rintro k x J J' hk rfl ⟨rfl, key, v, hx, rfl⟩
    obtain ⟨e, he, ee⟩ := tb_get hx
    injection ee with e1 e2
    subst e1 e2
    have me := List.mem_of_getElem? he
    refine ⟨w0 _, tst e me _ _ (fz _) (kp _) ?_⟩
    cases hp : p e with
    | false =>
      refine iteF ?_
      show _ = _
      rw [List.take_add_one, he, List.filter_append]
      simp [hp]
    | true =>
      refine iteT (ek e me _ _ (el e me _ _ (fz _) (kp _) ⟨_, .inr e.1, rfl, upd_same, ?_, ?_⟩))
      · rw [tb_len, List.length_map]
        refine Nat.lt_of_le_of_lt (Nat.le_trans (List.length_filter_le _ _) (List.length_take_le _ _)) ?_
        rw [tb_len] at hk
        exact Nat.lt_trans hk (Nat.lt_of_le_of_lt nl (by decide))
      · show _ = _
        have out : e.1 ∉ (((es.take k).filter p).map fun e => (e.1, f e)).map Prod.fst := fun m => by
          rw [List.map_map] at m
          obtain ⟨a, ha, ea⟩ := List.mem_map.mp m
          have ma := (List.mem_filter.mp ha).1
          obtain ⟨j, hj, ej⟩ := List.mem_take_iff_getElem.mp ma
          have e1 : (es.map Prod.fst)[j]? = some e.1 := by
            rw [List.getElem?_map, List.getElem?_eq_getElem (by omega), ej]
            exact congrArg some ea
          have e2 : (es.map Prod.fst)[k]? = some e.1 := by rw [List.getElem?_map, he]; rfl
          have := (List.getElem?_inj (by rw [List.length_map]; omega) nd).mp (e1.trans e2.symm)
          omega
        rw [putK_new _ (val_out out), List.take_add_one, he, List.filter_append, List.map_append]
        funext b
        by_cases c : b = D
        · rw [c, upd_same, upd_same]
          simp [hp, tb]
        · rw [upd_ne c, upd_ne c, upd_ne c]
  · rintro J rfl
    rw [tb_len, List.take_length]
    refine ⟨by rw [upd_ne nDd.symm, upd_same], ?_⟩
    rw [lock_back hd nDd]
    exact q D hD0
end S

namespace W
open PySem PySem.Spec PyProof.Rows L2
section
variable {P : Program} {w : World} {K : S.Frag} {mg : Str → Option Value} {base : Heap}
open S
/-! counts -/
structure CtF (K : S.Frag) (H : Hp) (a dx d : Addr) (es : List (Str × Int)) : Prop where
  at_ : H a = some (.ins (He.ga K "Counts") dx [("table", .ref d)])
  tb_ : H d = some (.dK (tb es))
  ok : OkE es
  ln : es.length ≤ 400
theorem CtF.same {H H' : Hp} {a dx d : Addr} {es : List (Str × Int)} (h : CtF K H a dx d es) (s : Same H H') : CtF K H' a dx d es := ⟨s _ _ h.at_, s _ _ h.tb_, h.ok, h.ln⟩
def KpC (d : Addr) (H H' : Hp) : Prop := ∀ b o, b ≠ d → H b = some o → H' b = some o
theorem CtF.ne {H : Hp} {a dx d : Addr} {es : List (Str × Int)} (h : CtF K H a dx d es) : a ≠ d := fun e => by
  have h1 := h.at_
  rw [e, h.tb_] at h1
  cases h1
theorem CtF.kp {H H' : Hp} {a dx d d2 : Addr} {es : List (Str × Int)} {kvs : List (Key × V)} (h : CtF K H a dx d es) (k : KpC d2 H H') (h2 : H d2 = some (.dK kvs)) (n : d ≠ d2) : CtF K H' a dx d es := ⟨k _ _ (fun e => by have := h.at_; rw [e, h2] at this; cases this) h.at_, k _ _ n h.tb_, h.ok, h.ln⟩
theorem CtF.kp' {H H' : Hp} {a dx d : Addr} {es es' : List (Str × Int)} (h : CtF K H a dx d es) (k : KpC d H H') (t : H' d = some (.dK (tb es'))) (o : OkE es') (l : es'.length ≤ 400) : CtF K H' a dx d es' := ⟨k _ _ h.ne h.at_, t, o, l⟩
def RaiseN (K : S.Frag) (H : Hp) (b : V) (E : XK) : Prop := ∀ dd H', H dd = none → Same H H' → H' dd = some (.xd [("name", b)]) → E (.ref (He.ga K "NoCounts")) (some dd) H'
theorem RaiseN.same {H H' : Hp} {b : V} {E : XK} (h : RaiseN K H b E) (s : Same H H') : RaiseN K H' b E := fun dd H2 n s2 e => h dd H2 (by
  cases q : H dd with
  | none => rfl
  | some o => have := s _ _ q; rw [n] at this; cases this) (s.trans s2) e
theorem ok_NoCounts___init__ (T : Txt K mg) : FnOk P w K mg base (L2.CX P w) 1 (He.fAd K ("NoCounts", some "__init__")) (S.fdA K ("NoCounts", some "__init__")) ["self", "name"] (sp_err (He.ga K "NoCounts") "name") := by
  refine FunD.ok T.F_NoCounts___init__ sc_NoCounts___init__ (fun vs H Q E h => S.splen2 h) (fun cdv A outer s H vs Q E hr h => ?_)
  have hu := hu_of hr
  refine ⟨_, (pss_one (S.ps_ostK (K := K) rfl (pv 0) (pv 1) rfl)), ?_⟩
  obtain ⟨_, y, rfl, a, rfl, ha, k⟩ := h
  exact ⟨_, rfl, _, rfl, a, _, rfl, T.ox_NoCounts, T.xn_NoCounts_name, .inl ⟨ha, k⟩⟩
def FirstBad (vs : List V) (b : V) : Prop := ∃ i, vs[i]? = some b ∧ nmV b = false ∧ ∀ (j : Nat) (v : V), j < i → vs[j]? = some v → nmV v = true
theorem first_bad : ∀ vs : List V, (∀ v ∈ vs, nmV v = true) ∨ ∃ b, FirstBad vs b
  | [] => .inl fun _ h => by cases h
  | v :: vs => by
    cases c : nmV v with
    | false => exact .inr ⟨v, 0, rfl, c, fun j _ h => absurd h (Nat.not_lt_zero j)⟩
    | true =>
      rcases first_bad vs with h | ⟨b, i, h1, h2, h3⟩
      · exact .inl fun u hu => by
          rcases List.mem_cons.mp hu with rfl | hu
          · exact c
          · exact h u hu
      · refine .inr ⟨b, i + 1, h1, h2, fun j u hj hu => ?_⟩
        cases j with
        | zero =>
          injection hu with hu
          rw [← hu]
          exact c
        | succ j => exact h3 j u (by omega) hu
theorem names_of : ∀ {vs : List V}, (∀ v ∈ vs, nmV v = true) → ∃ ws : List Str, vs = ws.map V.str ∧ ∀ z ∈ ws, isNm z = true
  | [], _ => ⟨[], rfl, fun _ h => by cases h⟩
  | v :: vs, h => by
    obtain ⟨ws, rfl, hw⟩ := names_of (vs := vs) fun u hu => h u (List.mem_cons_of_mem _ hu)
    have h0 := h v List.mem_cons_self
    obtain ⟨z, rfl⟩ : ∃ z, v = .str z := by cases v <;> first | exact ⟨_, rfl⟩ | cases h0
    exact ⟨z :: ws, rfl, fun u hu => by
      rcases List.mem_cons.mp hu with rfl | hu
      · exact h0
      · exact hw u hu⟩
def spChk (K : S.Frag) : Sp := Sp1 fun x H Q E => ∃ p vs, x = .ref p ∧ SqX K H p vs ∧ (∀ v ∈ vs, Od H v ∧ sml v) ∧ ((∀ v ∈ vs, nmV v = true) → Q .non H) ∧ ∀ b, FirstBad vs b → RaiseN K H b E
theorem ok_check_names (T : Txt K mg) : FnOk P w K mg base (L2.CX P w) 3 (He.fAd K ("check_names", none)) (S.fdA K ("check_names", none)) ["names"] (spChk K) := by
  have G_is_name := ok_is_name (P := P) (w := w) (base := base) T
  have G_NoCounts___init__ := ok_NoCounts___init__ (P := P) (w := w) (base := base) T
  refine FunD.ok T.F_check_names sc_check_names (fun vs H Q E h => S.splen1 h) (fun cdv A outer s H vs Q E hr h => ?_)
  have hu := hu_of hr
  refine ⟨_, (pss_one (ps_for (S.own_of rfl) rfl (S.pi_seqK (K := K) rfl (pv 0)) (pg_name (i := 1) sc_check_names.nd rfl (by first | exact Or.inl rfl | exact Or.inr rfl))
        (pss_one (ps_if (pt_not (pt_val (S.pe_fnS G_is_name (hr.mono (by decide)) rfl T.g_is_name T.F_is_name.kp (kb_is_name_1 T) S.pas0 (pa_cons (pv 1) pa_nil) pk_nil rfl rfl))) (pss_one (S.ps_raiseO rfl (takes_of rfl rfl rfl rfl) T.ox_NoCounts T.xi_NoCounts T.xt_NoCounts G_NoCounts___init__ (hr.mono (by decide)) (kb_NoCounts___init___2 T) rfl T.g_NoCounts (pa_cons (pv 1) pa_nil))) pss_nil)))), ?_⟩
  obtain ⟨_, rfl, p, vs, rfl, hp, ov, q, ex⟩ := h
  refine ⟨_, rfl, p, _, rfl, hp, fun It wk => for_seq wk (fun i σ J => J = H ∧ (∀ (j : Nat) (v : V), j < i → vs[j]? = some v → nmV v = true) ∧ ∃ v1, σ = [some (.ref p), v1]) ⟨rfl, fun j _ h => absurd h (Nat.not_lt_zero j), _, rfl⟩ (fun i σ J _ h => by rw [h.1]; exact fun _ _ z => z) ?_ ?_⟩
  · rintro i x σ J hx ⟨rfl, hb, v1, rfl⟩
    obtain ⟨o1, o2⟩ := ov x (List.mem_of_getElem? hx)
    refine ⟨_, rfl, rfl, rfl, x, rfl, o1, o2, _, rfl, ?_⟩
    cases c : nmV x with
    | false => exact iteT (raise_err x (fun dd H' n s e => ex x ⟨i, hx, c, hb⟩ dd H' n s e) fun R r => ⟨_, rfl, r⟩)
    | true =>
      refine iteF ⟨rfl, fun j v hj hv => ?_, _, rfl⟩
      by_cases e : j = i
      · rw [e, hx] at hv
        injection hv with hv
        rw [← hv]
        exact c
      · exact hb j v (by omega) hv
  · rintro σ J ⟨rfl, hb, v1, rfl⟩
    refine q fun v hv => ?_
    obtain ⟨j, hj⟩ := List.getElem?_of_mem hv
    exact hb j v (List.getElem?_eq_some_iff.mp hj).1 hj
def spGetC (K : S.Frag) : Sp := Sp2 fun s x H Q E => ∃ a dx d es, s = .ref a ∧ CtF K H a dx d es ∧ Od H x ∧ sml x ∧ (∀ z, x = .str z → isNm z = true → Q (.int (cn es z)) H) ∧ (nmV x = false → RaiseN K H x E)
theorem ok_Counts___getitem__ (T : Txt K mg) : FnOk P w K mg base (L2.CX P w) 3 (He.fAd K ("Counts", some "__getitem__")) (S.fdA K ("Counts", some "__getitem__")) ["self", "at"] (spGetC K) := by
  have G_is_name := ok_is_name (P := P) (w := w) (base := base) T
  have G_NoCounts___init__ := ok_NoCounts___init__ (P := P) (w := w) (base := base) T
  refine FunD.ok T.F_Counts___getitem__ sc_Counts___getitem__ (fun vs H Q E h => S.splen2 h) (fun cdv A outer s H vs Q E hr h => ?_)
  have hu := hu_of hr
  refine ⟨_, (pss_cons (ps_if (pt_not (pt_val (S.pe_fnS G_is_name (hr.mono (by decide)) rfl T.g_is_name T.F_is_name.kp (kb_is_name_1 T) S.pas0 (pa_cons (pv 1) pa_nil) pk_nil rfl rfl))) (pss_one (S.ps_raiseO rfl (takes_of rfl rfl rfl rfl) T.ox_NoCounts T.xi_NoCounts T.xt_NoCounts G_NoCounts___init__ (hr.mono (by decide)) (kb_NoCounts___init___2 T) rfl T.g_NoCounts (pa_cons (pv 1) pa_nil))) pss_nil)
      (pss_one (ps_ret (pe_dget2 hu (S.pe_fldK (K := K) rfl (pv 0) rfl) (pv 1) pe_int ⟨rfl, rfl, rfl, rfl⟩)))), ?_⟩
  obtain ⟨_, x, rfl, a, dx, d, es, rfl, F, ox, sx, q, ex⟩ := h
  refine ⟨_, rfl, rfl, rfl, x, rfl, ox, sx, _, rfl, ?_⟩
  cases c : nmV x with
  | false => exact iteT (raise_err x (fun dd H' n s e => ex c dd H' n s e) fun R r => ⟨_, rfl, r⟩)
  | true =>
    obtain ⟨z, rfl⟩ : ∃ z, x = .str z := by cases x <;> first | exact ⟨_, rfl⟩ | cases c
    refine iteF ⟨_, rfl, a, _, dx, _, _, rfl, F.at_, T.cl_Counts, T.na_Counts_table, rfl, d, rfl, .inl ⟨_, .inl F.tb_⟩, _, rfl, _, .inl ⟨_, .inr z, .inl F.tb_, rfl, rfl⟩, ?_⟩
    rw [tb_getD]
    exact q z rfl c
def spSetC (K : S.Frag) : Sp := Sp3 fun s x v H Q E => ∃ a dx d es, s = .ref a ∧ CtF K H a dx d es ∧ es.length < 400 ∧ Od H x ∧ sml x ∧ Od H v ∧
  (∀ z n, x = .str z → isNm z = true → v = .int n → 0 ≤ n → ∀ H' es', CtF K H' a dx d es' → KpC d H H' → (∀ y, cn es' y = if y = z then n else cn es y) → Q .non H') ∧
  ((nmV x = false ∨ isInt v = false ∨ ∃ n, v = .int n ∧ n < 0) → RaiseN K H x E)
theorem ok_Counts___setitem__ (T : Txt K mg) : FnOk P w K mg base (L2.CX P w) 3 (He.fAd K ("Counts", some "__setitem__")) (S.fdA K ("Counts", some "__setitem__")) ["self", "at", "worth"] (spSetC K) := by
  have G_is_name := ok_is_name (P := P) (w := w) (base := base) T
  have G_is_integer := ok_is_integer (P := P) (w := w) (base := base) T
  have G_NoCounts___init__ := ok_NoCounts___init__ (P := P) (w := w) (base := base) T
  refine FunD.ok T.F_Counts___setitem__ sc_Counts___setitem__ (fun vs H Q E h => S.splen3 h) (fun cdv A outer s H vs Q E hr h => ?_)
  have hu := hu_of hr
  refine ⟨_, (pss_cons (ps_if (PW.pt (pw_or (pt_not (pt_val (S.pe_fnS G_is_name (hr.mono (by decide)) rfl T.g_is_name T.F_is_name.kp (kb_is_name_1 T) S.pas0 (pa_cons (pv 1) pa_nil) pk_nil rfl rfl))) (pw_or (pt_not (pt_val (S.pe_fnS G_is_integer (hr.mono (by decide)) rfl T.g_is_integer T.F_is_integer.kp (kb_is_integer_1 T) S.pas0 (pa_cons (pv 2) pa_nil) pk_nil rfl rfl))) (pw_or1 (pt_cmpR op_lt (pv 2) pe_int (nomark _)))))) (pss_one (S.ps_raiseO rfl (takes_of rfl rfl rfl rfl) T.ox_NoCounts T.xi_NoCounts T.xt_NoCounts G_NoCounts___init__ (hr.mono (by decide)) (kb_NoCounts___init___2 T) rfl T.g_NoCounts (pa_cons (pv 1) pa_nil))) pss_nil)
      (pss_cons (ps_dput hu (S.pe_fldK (K := K) rfl (pv 0) rfl) (pv 1) (pv 2) rfl)
      (pss_one (ps_if (pt_cmpR op_eq (pv 2) pe_int (nomark _)) (pss_one (ps_ddel (S.pe_fldK (K := K) rfl (pv 0) rfl) (pv 1))) pss_nil)))), ?_⟩
  obtain ⟨_, x, v, rfl, a, dx, d, es, rfl, F, ln, ox, sx, ov, q, ex⟩ := h
  refine ⟨_, rfl, rfl, rfl, x, rfl, ox, sx, _, rfl, ?_⟩
  cases c : nmV x with
  | false => exact iteT (iteT (raise_err x (fun dd H' n s e => ex (.inl c) dd H' n s e) fun R r => ⟨_, rfl, r⟩))
  | true =>
    obtain ⟨z, rfl⟩ : ∃ z, x = .str z := by cases x <;> first | exact ⟨_, rfl⟩ | cases c
    refine iteF ⟨_, rfl, rfl, rfl, v, rfl, _, ov.isi, _, rfl, ?_⟩
    cases c2 : isInt v with
    | false => exact iteT (iteT (raise_err (.str z) (fun dd H' n s e => ex (.inr (.inl c2)) dd H' n s e) fun R r => ⟨_, rfl, r⟩))
    | true =>
      obtain ⟨n, rfl⟩ : ∃ n, v = .int n := by cases v <;> first | exact ⟨_, rfl⟩ | cases c2
      refine iteF ⟨_, rfl, _, _, rfl, rfl, _, rfl, ?_⟩
      by_cases c3 : n < 0
      · exact iteY (by simpa using c3) (raise_err (.str z) (fun dd H' n' s e => ex (.inr (.inr ⟨n, rfl, c3⟩)) dd H' n' s e) fun R r => ⟨_, rfl, r⟩)
      have n0 : 0 ≤ n := by omega
      refine iteN (by simpa using c3) ⟨_, rfl, _, rfl, a, _, dx, _, _, rfl, F.at_, T.cl_Counts, T.na_Counts_table, rfl, _, rfl, d, _, rfl, .inl ⟨_, .inr z, F.tb_, rfl, by rw [tb_len]; exact Nat.lt_of_lt_of_le ln (by decide), rfl⟩, ?_⟩
      rw [tb_put]
      have k1 : KpC d H (upd H d (.dK (tb (putE es z n)))) := fun b o nb h => by rw [upd_ne nb]; exact h
      have l1 : (putE es z n).length ≤ 400 := by have := put_len es z n; omega
      refine ⟨_, rfl, rfl, _, rfl, ?_⟩
      by_cases c4 : n = 0
      · subst c4
        have a1 : (upd H d (.dK (tb (putE es z 0)))) a = some (.ins (He.ga K "Counts") dx [("table", .ref d)]) := k1 _ _ F.ne F.at_
        refine iteY (by simp) ⟨_, rfl, a, _, dx, _, _, rfl, a1, T.cl_Counts, T.na_Counts_table, rfl, _, rfl, d, _, .inr z, rfl, upd_same, rfl, ?_, ?_⟩
        · rw [← tb_put, valV_put, if_pos rfl]
          rfl
        · rw [tb_drop]
          have k2 : KpC d H (upd (upd H d (.dK (tb (putE es z 0)))) d (.dK (tb (dropE (putE es z 0) z)))) := fun b o nb h => by rw [upd_ne nb, upd_ne nb]; exact h
          refine q z 0 rfl c rfl (Int.le_refl 0) _ _ (F.kp' k2 upd_same (okE_drop (put_nd F.ok.nd z 0) fun e he ne => ?_) (Nat.le_trans (drop_len _ _) l1)) k2 fun y => ?_
          · rcases put_mem he with rfl | he
            · exact absurd rfl ne
            · exact F.ok.pos e he
          · rw [cn_drop]
            by_cases cy : y = z
            · rw [if_pos cy, if_pos cy]
            · rw [if_neg cy, if_neg cy, cn_put, if_neg cy]
      · refine iteN (by simpa using c4) ?_
        exact q z n rfl c rfl n0 _ _ (F.kp' k1 upd_same (okE_put F.ok z (by omega)) l1) k1 fun y => cn_put es z n y
def inC (es : List (Str × Int)) : V → Bool
  | .str z => isNm z && decide (0 < cn es z)
  | _ => false
def spConC (K : S.Frag) : Sp := Sp2 fun s x H Q _ => ∃ a dx d es, s = .ref a ∧ CtF K H a dx d es ∧ Od H x ∧ sml x ∧ Q (.bl (inC es x)) H
theorem ok_Counts___contains__ (T : Txt K mg) : FnOk P w K mg base (L2.CX P w) 2 (He.fAd K ("Counts", some "__contains__")) (S.fdA K ("Counts", some "__contains__")) ["self", "x"] (spConC K) := by
  have G_is_name := ok_is_name (P := P) (w := w) (base := base) T
  refine FunD.ok T.F_Counts___contains__ sc_Counts___contains__ (fun vs H Q E h => S.splen2 h) (fun cdv A outer s H vs Q E hr h => ?_)
  have hu := hu_of hr
  refine ⟨_, (pss_one (ps_ret (pe_and (S.pe_fnS G_is_name (hr.mono (by decide)) rfl T.g_is_name T.F_is_name.kp (kb_is_name_1 T) S.pas0 (pa_cons (pv 1) pa_nil) pk_nil rfl rfl) (pe_one (pe_cmp (pc_din hu (pv 1) (S.pe_fldK (K := K) rfl (pv 0) rfl))))))), ?_⟩
  obtain ⟨_, x, rfl, a, dx, d, es, rfl, F, ox, sx, q⟩ := h
  refine ⟨_, rfl, rfl, rfl, x, rfl, ox, sx, _, rfl, ?_⟩
  cases c : nmV x with
  | false =>
    refine iteN (by decide) ?_
    have : inC es x = false := by
      cases x <;> first | rfl | exact (by simp only [inC, show isNm _ = false from c, Bool.false_and])
    rw [this] at q
    exact q
  | true =>
    obtain ⟨z, rfl⟩ : ∃ z, x = .str z := by cases x <;> first | exact ⟨_, rfl⟩ | cases c
    refine iteY rfl ⟨_, rfl, _, rfl, a, _, dx, _, _, rfl, F.at_, T.cl_Counts, T.na_Counts_table, rfl, d, _, rfl, .inl ⟨_, .inr z, .inl F.tb_, rfl, rfl⟩, ?_⟩
    rw [val_some F.ok]
    have : inC es (.str z) = decide (0 < cn es z) := by simp only [inC, show isNm z = true from c, Bool.true_and]
    rw [this] at q
    exact q
def spLenC (K : S.Frag) : Sp := Sp1 fun s H Q _ => ∃ a dx d es, s = .ref a ∧ CtF K H a dx d es ∧ Q (.int (es.length : Nat)) H
theorem ok_Counts___len__ (T : Txt K mg) : FnOk P w K mg base (L2.CX P w) 1 (He.fAd K ("Counts", some "__len__")) (S.fdA K ("Counts", some "__len__")) ["self"] (spLenC K) := by
  refine FunD.ok T.F_Counts___len__ sc_Counts___len__ (fun vs H Q E h => S.splen1 h) (fun cdv A outer s H vs Q E hr h => ?_)
  have hu := hu_of hr
  refine ⟨_, (pss_one (ps_ret (pe_callB call_lenD rfl T.n_len S.boot_len (pa_cons (S.pe_fldK (K := K) rfl (pv 0) rfl) pa_nil)))), ?_⟩
  obtain ⟨_, rfl, a, dx, d, es, rfl, F, q⟩ := h
  refine ⟨_, rfl, a, _, dx, _, _, rfl, F.at_, T.cl_Counts, T.na_Counts_table, rfl, d, _, rfl, F.tb_, ?_⟩
  rw [tb_len]
  exact q
end
end W

namespace W
open PySem PySem.Spec PyProof.Rows L2
theorem get_lt {α : Type} {l : List α} {i : Nat} {x : α} (h : l[i]? = some x) : i < l.length := (List.getElem?_eq_some_iff.mp h).1
theorem get_last {α : Type} {l : List α} {x : α} (h : l.getLast? = some x) : l = l.dropLast ++ [x] := by
  cases l with
  | nil => cases h
  | cons a l =>
    have hn : (a :: l) ≠ [] := List.cons_ne_nil _ _
    rw [List.getLast?_eq_some_getLast hn] at h
    cases h
    exact (List.dropLast_concat_getLast hn).symm
end W

namespace W
open PySem PySem.Spec PyProof.Rows L2
section
variable {P : Program} {w : World} {K : S.Frag} {mg : Str → Option Value} {base : Heap}
open S
/-! merge, in_order -/
section
variable {α : Type}
def mrgI (lt : α → α → Bool) (x : α) (k : List α → List α) : List α → List α
  | [] => x :: k []
  | y :: ys => if lt y x then y :: mrgI lt x k ys else x :: k (y :: ys)
def mrgR (lt : α → α → Bool) : List α → List α → List α
  | [], ys => ys
  | x :: xs, ys => mrgI lt x (mrgR lt xs) ys
theorem mrgI_perm (lt : α → α → Bool) (x : α) (k : List α → List α) (xs : List α) (hk : ∀ ys, (k ys).Perm (xs ++ ys)) : ∀ ys, (mrgI lt x k ys).Perm (x :: xs ++ ys)
  | [] => by
    unfold mrgI
    exact List.Perm.cons x (hk [])
  | y :: ys => by
    unfold mrgI
    split
    · refine (List.Perm.cons y (mrgI_perm lt x k xs hk ys)).trans ?_
      exact (List.perm_middle (a := y) (l₁ := x :: xs) (l₂ := ys)).symm
    · exact List.Perm.cons x (hk (y :: ys))
theorem mrgR_perm (lt : α → α → Bool) : ∀ xs ys : List α, (mrgR lt xs ys).Perm (xs ++ ys)
  | [], ys => List.Perm.refl _
  | x :: xs, ys => mrgI_perm lt x (mrgR lt xs) xs (mrgR_perm lt xs) ys
theorem mrgR_len (lt : α → α → Bool) (xs ys : List α) : (mrgR lt xs ys).length = xs.length + ys.length := by rw [(mrgR_perm lt xs ys).length_eq, List.length_append]
/-- one round: neighbours are merged -/
def rndR (lt : α → α → Bool) : List (List α) → List (List α)
  | a :: b :: r => mrgR lt a b :: rndR lt r
  | r => r
theorem rndR_len (lt : α → α → Bool) : ∀ r : List (List α), (rndR lt r).length = (r.length + 1) / 2
  | [] => by simp [rndR]
  | [_] => by simp [rndR]
  | a :: b :: r => by
    unfold rndR
    rw [List.length_cons, rndR_len lt r]
    simp only [List.length_cons]
    omega
theorem rndR_perm (lt : α → α → Bool) : ∀ r : List (List α), (rndR lt r).flatten.Perm r.flatten
  | [] => List.Perm.refl _
  | [_] => List.Perm.refl _
  | a :: b :: r => by
    unfold rndR
    simp only [List.flatten_cons]
    rw [← List.append_assoc]
    exact List.Perm.append (mrgR_perm lt a b) (rndR_perm lt r)
def rndsR (lt : α → α → Bool) : Nat → List (List α) → List (List α)
  | 0, r => r
  | n + 1, r => if r.length ≤ 1 then r else rndsR lt n (rndR lt r)
theorem rndsR_perm (lt : α → α → Bool) : ∀ (n : Nat) (r : List (List α)), (rndsR lt n r).flatten.Perm r.flatten
  | 0, r => List.Perm.refl _
  | n + 1, r => by
    unfold rndsR
    split
    · exact List.Perm.refl _
    · exact (rndsR_perm lt n _).trans (rndR_perm lt r)
def ordR (lt : α → α → Bool) (l : List α) : List α := (rndsR lt l.length (l.map fun x => [x])).flatten
theorem ordR_perm (lt : α → α → Bool) (l : List α) : (ordR lt l).Perm l := by
  refine (rndsR_perm lt _ _).trans ?_
  have e : ∀ l : List α, (l.map fun x => [x]).flatten = l := fun l => by
    induction l with
    | nil => rfl
    | cons x l ih => rw [List.map_cons, List.flatten_cons, ih]; rfl
  rw [e l]
theorem mrgR_map {β : Type} {lt : α → α → Bool} {lt' : β → β → Bool} {f : α → β} (h : ∀ a b, lt a b = lt' (f a) (f b)) : ∀ xs ys : List α, (mrgR lt xs ys).map f = mrgR lt' (xs.map f) (ys.map f)
  | [], ys => rfl
  | x :: xs, ys => by
    show (mrgI lt x (mrgR lt xs) ys).map f = mrgI lt' (f x) (mrgR lt' (xs.map f)) (ys.map f)
    induction ys with
    | nil => exact congrArg (f x :: ·) (mrgR_map h xs [])
    | cons y ys ih =>
      show (if lt y x then y :: mrgI lt x (mrgR lt xs) ys else x :: mrgR lt xs (y :: ys)).map f = if lt' (f y) (f x) then f y :: mrgI lt' (f x) (mrgR lt' (xs.map f)) (ys.map f) else f x :: mrgR lt' (xs.map f) (f y :: ys.map f)
      rw [← h y x]
      split
      · exact congrArg (f y :: ·) ih
      · exact congrArg (f x :: ·) (mrgR_map h xs (y :: ys))
end
/-- a value with its data -/
abbrev VD := V × PyData
def ltVD (a b : VD) : Bool := PySem.W.dataLt a.2 b.2
mutual
theorem dp_same {H H' : Hp} (s : Same H H') : ∀ (d : PyData) (v : V), Dp K H v d → Dp K H' v d
  | .none, _, h => by cases h; exact .non
  | .bool _, _, h => by cases h; exact .bl _
  | .int _, _, h => by cases h; exact .int _
  | .str _, _, h => by cases h; exact .str _
  | .list ds, _, h => by
    cases h with
    | lst h1 h2 => exact .lst (sqL_same h1 s) (dps_same s ds _ h2)
  | .tuple ds, _, h => by
    cases h with
    | tup h1 h2 => exact .tup (sqT_same h1 s) (dps_same s ds _ h2)
theorem dps_same {H H' : Hp} (s : Same H H') : ∀ (ds : List PyData) (vs : List V), DpAll K H vs ds → DpAll K H' vs ds
  | [], _, h => by cases h; exact .nil
  | d :: ds, _, h => by
    cases h with
    | cons h1 h2 => exact .cons (dp_same s d _ h1) (dps_same s ds _ h2)
end
structure Vds (K : S.Frag) (H : Hp) (xs : List VD) : Prop where
  dp : ∀ z ∈ xs, Dp K H z.1 z.2
  al : ∀ a ∈ xs, ∀ b ∈ xs, PySem.W.alike a.2 b.2 = true
  nn : ∀ z ∈ xs, z.2 ≠ .none
  de : ∀ z ∈ xs, z.2.depth ≤ 20
theorem Vds.mono {H : Hp} {xs ys : List VD} (h : Vds K H xs) (s : ∀ z ∈ ys, z ∈ xs) : Vds K H ys := ⟨fun z hz => h.dp z (s z hz), fun a ha b hb => h.al a (s a ha) b (s b hb), fun z hz => h.nn z (s z hz), fun z hz => h.de z (s z hz)⟩
theorem Vds.same {H H' : Hp} {xs : List VD} (h : Vds K H xs) (s : Same H H') : Vds K H' xs := ⟨fun z hz => dp_same s _ _ (h.dp z hz), h.al, h.nn, h.de⟩
def spMerge (K : S.Frag) : Sp := Sp2 fun x y H Q _ => ∃ (A B : Addr) (xs ys : List VD), x = .ref A ∧ y = .ref B ∧ H A = some (.lst (xs.map Prod.fst)) ∧ H B = some (.lst (ys.map Prod.fst)) ∧ Vds K H (xs ++ ys) ∧ xs.length + ys.length ≤ 5000 ∧
  ∀ L H', H L = none → Same H H' → H' L = some (.lst ((mrgR ltVD xs ys).map Prod.fst)) → Q (.ref L) H'
def MgI (H : Hp) (O A B : Addr) (z : VD) (r xs ys : List VD) (f : Nat → Prop) (σ : L2.St) (J : Hp) : Prop :=
  Same H J ∧ ∃ (out : List VD) (k : Nat), f k ∧ J O = some (.lst (out.map Prod.fst)) ∧ k ≤ ys.length ∧ out ++ mrgI ltVD z (mrgR ltVD r) (ys.drop k) = mrgR ltVD xs ys ∧ σ = [some (.ref A), some (.ref B), some (.ref O), some (.int (k : Int)), some z.1]
theorem ok_merge (T : Txt K mg) : FnOk P w K mg base (L2.CX P w) 1 (He.fAd K ("merge", none)) (S.fdA K ("merge", none)) ["left", "right"] (spMerge K) := by
  refine FunD.ok T.F_merge sc_merge (fun vs H Q E h => S.splen2 h) (fun cdv A outer s H vs Q E hr h => ?_)
  have hu := hu_of hr
  refine ⟨_, (pss_cons (ps_set (i := 2) sc_merge.nd rfl (by first | exact Or.inl rfl | exact Or.inr rfl) (pe_lst pa_nil))
      (pss_cons (ps_set (i := 3) sc_merge.nd rfl (by first | exact Or.inl rfl | exact Or.inr rfl) pe_int)
      (pss_cons (ps_for (S.own_of rfl) rfl (S.pi_listK (K := K) rfl (pv 0)) (pg_name (i := 4) sc_merge.nd rfl (by first | exact Or.inl rfl | exact Or.inr rfl))
        (pss_cons (ps_while (S.own_of rfl) (PW.pt (pw_and (pt_cmpR op_lt (pv 3) (pe_callB (S.lenK (K := K) rfl) rfl T.n_len S.boot_len (pa_cons (pv 1) pa_nil)) (nomark _)) (pw_and1 (pt_cmpR (S.ltDK (K := K) rfl (S.hu64 hr)) (pe_ix (S.ixK (K := K) rfl) (pv 1) (pv 3) (fun _ _ => rfl)) (pv 4) (nomark _)))))
        (pss_cons (ps_expr (pe_bm PySem.F.plainAttrs_list PySem.F.slot_list_append PySem.F.type_list_append mt_append (pv 2) (pa_cons (pe_ix (S.ixK (K := K) rfl) (pv 1) (pv 3) (fun _ _ => rfl)) pa_nil)))
      (pss_one (ps_aug (i := 3) sc_merge.nd rfl (by first | exact Or.inl rfl | exact Or.inr rfl) pe_int ip_add))))
      (pss_one (ps_expr (pe_bm PySem.F.plainAttrs_list PySem.F.slot_list_append PySem.F.type_list_append mt_append (pv 2) (pa_cons (pv 4) pa_nil))))))
      (pss_one (ps_ret (pe_op op_cat (pv 2) (pe_slice (S.slLK (K := K) rfl) (pv 1) (po_some (pv 3)) po_none))))))), ?_⟩
  obtain ⟨_, _, rfl, A, B, xs, ys, rfl, rfl, hA, hB, hv, ln, q⟩ := h
  refine ⟨by decide, fun O hO => ?_⟩
  have s0 := Same.new (o := .lst []) hO
  refine ⟨_, rfl, A, rfl, ⟨_, .inl (.inl (s0 _ _ hA))⟩, for_list (xs := xs.map Prod.fst) (fun i σ J => Same H J ∧ ∃ (out : List VD) (k : Nat) (v : Option V), J O = some (.lst (out.map Prod.fst)) ∧ k ≤ ys.length ∧ out ++ mrgR ltVD (xs.drop i) (ys.drop k) = mrgR ltVD xs ys ∧ σ = [some (.ref A), some (.ref B), some (.ref O), some (.int (k : Int)), v])
    ⟨s0, [], 0, _, upd_same, Nat.zero_le _, rfl, rfl⟩ (fun i σ J _ h => .inl (.inl (h.1 _ _ hA))) ?_ ?_⟩
  · rintro i x σ J hx ⟨sJ, out, k, v, eO, hk, e, rfl⟩
    rw [List.getElem?_map] at hx
    obtain ⟨z, hz, rfl⟩ := Option.map_eq_some_iff.mp hx
    have il := get_lt hz
    have ed : xs.drop i = z :: xs.drop (i + 1) := by
      rw [List.drop_eq_getElem_cons il]
      rw [List.getElem?_eq_getElem il] at hz
      rw [Option.some.inj hz]
    rw [ed] at e
    have hvJ := hv.same sJ
    have eBJ := sJ _ _ hB
    have lo : out.length ≤ 5000 := by
      have := congrArg List.length e
      rw [List.length_append, mrgR_len, mrgR_len] at this
      omega
    have lB : (ys.map Prod.fst).length = ys.length := List.length_map _
    clear eBJ hvJ lo
    refine ⟨fun n σ J => MgI H O A B z (xs.drop (i + 1)) xs ys (fun k => n = ys.length - k) σ J, ⟨ys.length - k, sJ, out, k, rfl, eO, hk, e, rfl⟩, ?_⟩
    rintro n σ J ⟨sJ, out, k, hn, eO, hk, e, rfl⟩
    have hvJ := hv.same sJ
    have eBJ := sJ _ _ hB
    have lo : out.length ≤ 5000 := by
      have := congrArg List.length e
      rw [List.length_append, mrgR_len] at this
      omega
    have sml : (out.map Prod.fst).length < sizeLine := by
      rw [List.length_map]
      exact Nat.lt_of_le_of_lt lo (by decide)
    refine ⟨_, rfl, _, rfl, _, _, rfl, lenVX (.inl (.inl (.inl eBJ))), _, _, rfl, rfl, _, rfl, ?_⟩
    -- the row goes out
    have fin : (out ++ [z]) ++ mrgR ltVD (xs.drop (i + 1)) (ys.drop k) = mrgR ltVD xs ys → Same H (upd J O (.lst (out.map Prod.fst ++ [z.1]))) ∧ ∃ (out' : List VD) (k' : Nat) (v : Option V), upd J O (.lst (out.map Prod.fst ++ [z.1])) O = some (.lst (out'.map Prod.fst)) ∧ k' ≤ ys.length ∧ out' ++ mrgR ltVD (xs.drop (i + 1)) (ys.drop k') = mrgR ltVD xs ys ∧
        [some (V.ref A), some (.ref B), some (.ref O), some (.int (k : Int)), some z.1] = [some (.ref A), some (.ref B), some (.ref O), some (.int (k' : Int)), v] := fun e' =>
      ⟨Same.upd sJ hO, out ++ [z], k, _, by rw [upd_same, List.map_append]; rfl, hk, e', rfl⟩
    by_cases c : k < ys.length
    · have ey := List.getElem?_eq_getElem c
      have edk : ys.drop k = ys[k] :: ys.drop (k + 1) := List.drop_eq_getElem_cons c
      generalize ys[k] = y at ey edk
      have my := List.mem_of_getElem? ey
      have mz := List.mem_of_getElem? hz
      have aty : atI (ys.map Prod.fst) (k : Int) = some y.1 := atI_nat (by rw [List.getElem?_map, ey]; rfl)
      rw [edk] at e
      refine iteY (by rw [lB]; simpa using c) ⟨_, rfl, _, rfl, ixX (.inl (.inl (.inl eBJ))) aty ⟨_, rfl, y.2, z.2, hvJ.dp y (by simp [my]), hvJ.dp z (by simp [mz]), hvJ.al y (by simp [my]) z (by simp [mz]), hvJ.nn y (by simp [my]), hvJ.de y (by simp [my]), _, rfl, ?_⟩⟩
      cases cl : PySem.W.dataLt y.2 z.2 with
      | true =>
        have e2 : (out ++ [y]) ++ mrgI ltVD z (mrgR ltVD (xs.drop (i + 1))) (ys.drop (k + 1)) = mrgR ltVD xs ys := by
          rw [← e, List.append_assoc]
          congr 1
          show _ = if ltVD y z = true then _ else _
          rw [show ltVD y z = true from cl, if_pos rfl]
          rfl
        refine iteT ⟨fun σ J => MgI H O A B z (xs.drop (i + 1)) xs ys (fun k => ys.length - k < n) σ J, ?_, ?_⟩
        · rintro σ J ⟨s', out', k', lt, h⟩
          exact ⟨_, lt, s', out', k', rfl, h⟩
        refine ⟨_, rfl, .inl ⟨rfl, _, .inl (.inl eO)⟩, _, rfl, _, rfl, ixX (.inl (.inl (.inl eBJ))) aty ⟨O, _, _, rfl, rfl, eO, sml, ?_⟩⟩
        refine ⟨_, rfl, _, _, rfl, rfl, Same.upd sJ hO, out ++ [y], k + 1, by omega, by rw [upd_same, List.map_append]; rfl, c, e2, ?_⟩
        show [some (V.ref A), some (.ref B), some (.ref O), some (V.int ((k : Int) + 1)), some z.1] = _
        rfl
      | false =>
        refine iteF ⟨_, rfl, .inl ⟨rfl, _, .inl (.inl eO)⟩, _, rfl, O, _, _, rfl, rfl, eO, sml, fin ?_⟩
        rw [← e, List.append_assoc]
        congr 1
        show _ = if ltVD y z = true then _ else _
        rw [show ltVD y z = false from cl, if_neg (by decide), edk]
        rfl
    · have ek : k = ys.length := by omega
      refine iteN (by rw [lB]; simpa using c) ⟨_, rfl, .inl ⟨rfl, _, .inl (.inl eO)⟩, _, rfl, O, _, _, rfl, rfl, eO, sml, fin ?_⟩
      rw [← e, List.append_assoc]
      congr 1
      rw [ek, List.drop_length]
      rfl
  · rintro σ J ⟨sJ, out, k, v, eO, hk, e, rfl⟩
    rw [List.length_map, List.drop_length] at e
    have eBJ := sJ _ _ hB
    refine ⟨_, rfl, _, rfl, _, rfl, _, rfl, ?_⟩
    unfold tNoPart
    refine ⟨B, _, rfl, .inl (.inl eBJ), fun C hC => ?_⟩
    have ec : cutV (ys.map Prod.fst) (some (k : Int)) none = (ys.drop k).map Prod.fst := by rw [cut_drop _ (by rw [List.length_map]; exact hk), List.map_drop]
    rw [ec]
    have sC := Same.new (o := .lst ((ys.drop k).map Prod.fst)) hC
    refine ⟨O, C, _, _, rfl, rfl, sC _ _ eO, upd_same, ?_, fun D hD => ?_⟩
    · rw [List.length_map, List.length_map]
      have := congrArg List.length e
      simp only [List.length_append, mrgR_len, List.length_nil] at this
      exact Nat.le_trans (show out.length + (ys.drop k).length ≤ 5000 by omega) (by decide)
    · refine q D _ ((sJ.trans sC).free hD) ((sJ.trans sC).trans (Same.new hD)) ?_
      rw [upd_same, ← List.map_append, ← e]
      rfl
end
end W

namespace W
open PySem PySem.Spec PyProof.Rows L2
section
variable {P : Program} {w : World} {K : S.Frag} {mg : Str → Option Value} {base : Heap}
open S
/-! in_order -/
section
variable {α : Type} (lt : α → α → Bool)
theorem rndR_get : ∀ (i : Nat) (r : List (List α)) {a b : List α}, r[2 * i]? = some a → r[2 * i + 1]? = some b → (rndR lt r)[i]? = some (mrgR lt a b)
  | 0, x :: y :: r, a, b, h1, h2 => by
    simp at h1 h2
    subst h1 h2
    rfl
  | 0, [], _, _, h1, _ => by simp at h1
  | 0, [_], _, _, _, h2 => by simp at h2
  | i + 1, x :: y :: r, a, b, h1, h2 => by
    unfold rndR
    rw [List.getElem?_cons_succ]
    refine rndR_get i r ?_ ?_
    · rw [show 2 * (i + 1) = 2 * i + 1 + 1 by omega] at h1
      simpa using h1
    · rw [show 2 * (i + 1) + 1 = 2 * i + 1 + 1 + 1 by omega] at h2
      simpa using h2
  | i + 1, [], _, _, h1, _ => by simp at h1
  | i + 1, [x], _, _, h1, _ => by
    rw [show 2 * (i + 1) = (2 * i + 1) + 1 by omega] at h1
    simp at h1
theorem rndR_last : ∀ (i : Nat) (r : List (List α)) {a : List α}, r.length = 2 * i + 1 → r[2 * i]? = some a → (rndR lt r)[i]? = some a
  | 0, [x], a, _, h => by
    simp at h
    subst h
    rfl
  | 0, [], _, e, _ => by simp at e
  | 0, _ :: _ :: _, _, e, _ => by simp at e
  | i + 1, x :: y :: r, a, e, h => by
    unfold rndR
    rw [List.getElem?_cons_succ]
    refine rndR_last i r ?_ ?_
    · simp at e
      omega
    · rw [show 2 * (i + 1) = 2 * i + 1 + 1 by omega] at h
      simpa using h
  | i + 1, [], _, e, _ => by simp at e
  | i + 1, [_], _, e, _ => by simp at e
theorem rnds_one {n : Nat} {r : List (List α)} (h : r.length ≤ 1) : rndsR lt n r = r := by
  cases n with
  | zero => rfl
  | succ n => unfold rndsR; rw [if_pos h]
theorem rnds_step {n : Nat} {r : List (List α)} (h : 1 < r.length) : rndsR lt (n + 1) r = rndsR lt n (rndR lt r) := by
  show (if r.length ≤ 1 then _ else _) = _
  rw [if_neg (by omega)]
end
theorem rndR_map {α β : Type} {lt : α → α → Bool} {lt' : β → β → Bool} {f : α → β} (h : ∀ a b, lt a b = lt' (f a) (f b)) : ∀ r : List (List α), (rndR lt r).map (List.map f) = rndR lt' (r.map (List.map f))
  | [] => rfl
  | [_] => rfl
  | a :: b :: r => by
    show (mrgR lt a b).map f :: (rndR lt r).map (List.map f) = mrgR lt' (a.map f) (b.map f) :: rndR lt' (r.map (List.map f))
    rw [mrgR_map h, rndR_map h r]
theorem rndsR_map {α β : Type} {lt : α → α → Bool} {lt' : β → β → Bool} {f : α → β} (h : ∀ a b, lt a b = lt' (f a) (f b)) : ∀ (n : Nat) (r : List (List α)), (rndsR lt n r).map (List.map f) = rndsR lt' n (r.map (List.map f))
  | 0, r => rfl
  | n + 1, r => by
    unfold rndsR
    rw [List.length_map]
    split
    · rfl
    · rw [rndsR_map h n, rndR_map h]
theorem ordR_map {α β : Type} {lt : α → α → Bool} {lt' : β → β → Bool} {f : α → β} (h : ∀ a b, lt a b = lt' (f a) (f b)) (l : List α) : (ordR lt l).map f = ordR lt' (l.map f) := by
  unfold ordR
  rw [List.map_flatten, rndsR_map h, List.length_map, List.map_map, List.map_map]
  rfl
theorem rg2 {n : Nat} (h : n ≤ 10000000) : RgC 0 ((n : Int) - 1) 2 (n / 2) := by
  have e : Builtin.Range.rangeSize 0 ((n : Int) - 1) 2 = ((n / 2 : Nat) : Int) := by
    unfold Builtin.Range.rangeSize
    rw [if_pos (by decide)]
    split <;> omega
  refine ⟨by decide, by decide, ?_, e⟩
  unfold Builtin.Range.small
  rw [e]
  simp only [Builtin.Range.rangeFitsLong, Bool.and_eq_true, Bool.or_eq_true, decide_eq_true_eq, beq_iff_eq, show ((2 : Int) > 0) by decide, if_true]
  omega
/-- a list of lists -/
def LsA (H : Hp) (L : Addr) (ps : List (Addr × List VD)) : Prop := H L = some (.lst (ps.map fun z => .ref z.1)) ∧ ∀ z ∈ ps, H z.1 = some (.lst (z.2.map Prod.fst))
theorem LsA.same {H H' : Hp} {L : Addr} {ps : List (Addr × List VD)} (h : LsA H L ps) (s : Same H H') : LsA H' L ps := ⟨s _ _ h.1, fun z hz => s _ _ (h.2 z hz)⟩
def spOrd (K : S.Frag) : Sp := Sp1 fun x H Q _ => ∃ (R : Addr) (xs : List VD), x = .ref R ∧ SqX K H R (xs.map Prod.fst) ∧ Vds K H xs ∧ xs.length ≤ 1000 ∧ ∀ L H', H L = none → Same H H' → H' L = some (.lst ((ordR ltVD xs).map Prod.fst)) → Q (.ref L) H'
def OrI (H : Hp) (R : Addr) (xs : List VD) (g : Nat → Prop) (σ : L2.St) (J : Hp) : Prop :=
  Same H J ∧ ∃ (ps : List (Addr × List VD)) (f : Nat) (Pp : Addr) (v2 v4 v5 : Option V), g ps.length ∧ LsA J Pp ps ∧ ps.length ≤ f ∧ f ≤ xs.length ∧ (rndsR ltVD f (ps.map Prod.snd)).flatten = ordR ltVD xs ∧ σ = [some (.ref R), some (.ref Pp), v2, v4, v5]
theorem ok_in_order (T : Txt K mg) : FnOk P w K mg base (L2.CX P w) 2 (He.fAd K ("in_order", none)) (S.fdA K ("in_order", none)) ["rows"] (spOrd K) := by
  have G_merge := ok_merge (P := P) (w := w) (base := base) T
  refine FunD.ok T.F_in_order sc_in_order (fun vs H Q E h => S.splen1 h) (fun cdv A outer s H vs Q E hr h => ?_)
  have hu := hu_of hr
  refine ⟨_, (pss_cons (ps_setLc (i := 1) (own := [("row", 2)]) (g := gName 2) (tt := tYes) rfl sc_in_order.nd rfl rfl (sw_true rfl rfl rfl (by decide +kernel)) (S.pi_seqK (K := K) rfl (pv 0)) (blkOk_by (N := ["rows", "parts", "row", "merged", "at"]) (sc := defScope s_in_order) (by decide +kernel)) (fun _ _ _ _ _ => (pg_name (i := 2) sc_in_order.nd rfl (by first | exact Or.inl rfl | exact Or.inr rfl))) (fun _ _ _ _ _ => pts_nil) (fun _ _ _ _ _ => (pe_lst (pa_cons (pv 2) pa_nil))))
      (pss_cons (ps_while (S.own_of rfl) (pt_cmpR op_gt (pe_callB (S.lenK (K := K) rfl) rfl T.n_len S.boot_len (pa_cons (pv 1) pa_nil)) pe_int (nomark _))
        (pss_cons (ps_set (i := 3) sc_in_order.nd rfl (by first | exact Or.inl rfl | exact Or.inr rfl) (pe_lst pa_nil))
      (pss_cons (ps_for (S.own_of rfl) rfl (pi_range3 rfl T.n_range (pa_cons pe_int (pa_cons (pe_op op_sub (pe_callB (S.lenK (K := K) rfl) rfl T.n_len S.boot_len (pa_cons (pv 1) pa_nil)) pe_int) (pa_cons pe_int pa_nil)))) (pg_name (i := 4) sc_in_order.nd rfl (by first | exact Or.inl rfl | exact Or.inr rfl))
        (pss_one (ps_expr (pe_bm PySem.F.plainAttrs_list PySem.F.slot_list_append PySem.F.type_list_append mt_append (pv 3) (pa_cons (S.pe_fnS G_merge (hr.mono (by decide)) rfl T.g_merge T.F_merge.kp (kb_merge_2 T) S.pas0 (pa_cons (pe_ix (S.ixK (K := K) rfl) (pv 1) (pv 4) (fun _ _ => rfl)) (pa_cons (pe_ix (S.ixK (K := K) rfl) (pv 1) (pe_op op_add (pv 4) pe_int) (fun _ _ => rfl)) pa_nil)) pk_nil rfl rfl) pa_nil)))))
      (pss_cons (ps_if (pt_cmpR op_eq (pe_op op_mod (pe_callB (S.lenK (K := K) rfl) rfl T.n_len S.boot_len (pa_cons (pv 1) pa_nil)) pe_int) pe_int (nomark _)) (pss_one (ps_expr (pe_bm PySem.F.plainAttrs_list PySem.F.slot_list_append PySem.F.type_list_append mt_append (pv 3) (pa_cons (pe_ix (S.ixK (K := K) rfl) (pv 1) (pe_un un_neg pe_int) (fun _ _ => rfl)) pa_nil)))) pss_nil)
      (pss_one (ps_set (i := 1) sc_in_order.nd rfl (by first | exact Or.inl rfl | exact Or.inr rfl) (pv 3)))))))
      (pss_cons (ps_if (pt_not (S.pt_truthK (K := K) rfl (pv 1) (fun _ => rfl))) (pss_one (ps_ret (pe_lst pa_nil))) pss_nil)
      (pss_one (ps_ret (pe_callTy (S.listOfK (K := K) rfl) rfl T.n_list S.boot_list (pa_cons (pe_ix (S.ixK (K := K) rfl) (pv 1) pe_int (fun _ _ => rfl)) pa_nil))))))), ?_⟩
  obtain ⟨_, rfl, R, xs, rfl, hR, hv, ln, q⟩ := h
  have lm : (xs.map Prod.fst).length = xs.length := List.length_map _
  refine ⟨_, rfl, R, _, rfl, hR, fun It wk D hD => lc_seq wk (fun i J => Same H J ∧ ∃ ps : List (Addr × List VD), LsA J D ps ∧ (∀ z ∈ ps, z.1 ≠ D) ∧ ps.map Prod.snd = (xs.take i).map fun x => [x]) ⟨Same.new hD, [], ⟨upd_same, fun _ h => by cases h⟩, (fun _ h => by cases h), rfl⟩ (fun i J _ h => h.1) ?_ ?_⟩
  · rintro i x J hx ⟨sJ, ps, hp, nD, e⟩
    rw [List.getElem?_map] at hx
    obtain ⟨z, hz, rfl⟩ := Option.map_eq_some_iff.mp hx
    have il := get_lt hz
    have lp : ps.length ≤ 1000 := by
      have := congrArg List.length e
      rw [List.length_map, List.length_map, List.length_take] at this
      omega
    refine ⟨rfl, yesT (iteT ⟨_, rfl, by show 1 ≤ sizeLine; decide, fun p hpn => ?_⟩)⟩
    have sp := Same.new (o := .lst [z.1]) hpn
    have hp2 := hp.same sp
    refine ⟨_, hp2.1, by rw [List.length_map]; exact Nat.lt_of_le_of_lt lp (by decide), Same.upd (sJ.trans sp) hD, ps ++ [(p, [z])], ⟨by rw [upd_same, List.map_append]; rfl, fun y hy => ?_⟩, fun y hy => ?_, ?_⟩
    · rcases List.mem_append.mp hy with hy | hy
      · rw [upd_ne (nD y hy)]
        exact hp2.2 y hy
      · rw [List.mem_singleton.mp hy, upd_ne (ne_of_none hp.1 hpn).symm, upd_same]
        rfl
    · rcases List.mem_append.mp hy with hy | hy
      · exact nD y hy
      · rw [List.mem_singleton.mp hy]
        exact (ne_of_none hp.1 hpn).symm
    · rw [List.map_append, e, List.take_add_one, hz, List.map_append]
      rfl
  rintro J0 ⟨s0, ps0, hp0, nD0, e0⟩
  rw [lm, List.take_length] at e0
  have l0 : ps0.length = xs.length := by rw [← List.length_map (f := Prod.snd), e0, List.length_map]
  refine ⟨fun n σ J => OrI H R xs (fun k => n = k) σ J, ⟨xs.length, s0, ps0, xs.length, D, _, _, _, l0.symm, hp0, Nat.le_of_eq l0, Nat.le_refl _, by rw [e0]; rfl, rfl⟩, ?_⟩
  rintro n σ J ⟨sJ, ps, f, Pp, v2, v4, v5, hn, hp, hf, hf2, eR, rfl⟩
  have lmp : (ps.map fun z => V.ref z.1).length = ps.length := List.length_map _
  refine ⟨_, rfl, _, _, rfl, lenVX (.inl (.inl (.inl hp.1))), _, _, rfl, rfl, _, rfl, ?_⟩
  by_cases c : 1 < ps.length
  · refine iteY (by rw [lmp]; simpa using (show (1 : Int) < ps.length by omega)) ?_
    have pm : ((ps.map Prod.snd).flatten).Perm xs := by
      have h1 := rndsR_perm ltVD f (ps.map Prod.snd)
      rw [eR] at h1
      exact h1.symm.trans (ordR_perm ltVD xs)
    have inx : ∀ a ∈ ps, ∀ z ∈ a.2, z ∈ xs := fun a ha z hz => pm.mem_iff.mp (List.mem_flatten.mpr ⟨a.2, List.mem_map.mpr ⟨a, ha, rfl⟩, hz⟩)
    have lenx : ∀ a ∈ ps, a.2.length ≤ 1000 := fun a ha => by
      have h1 := (List.sublist_flatten_of_mem (List.mem_map.mpr ⟨a, ha, rfl⟩ : a.2 ∈ ps.map Prod.snd)).length_le
      rw [pm.length_eq] at h1
      omega
    have lps : ps.length ≤ 1000 := by
      omega
    refine ⟨fun σ J => OrI H R xs (fun k => k < n) σ J, ?_, by show 0 ≤ sizeLine; decide, fun M hM => ?_⟩
    · rintro σ J ⟨s', ps', f', Pp', v2', v4', v5', lt, h⟩
      exact ⟨_, lt, s', ps', f', Pp', v2', v4', v5', rfl, h⟩
    have sM := Same.new (o := .lst []) hM
    have hpM := hp.same sM
    have nPM : Pp ≠ M := ne_of_none hp.1 hM
    have npM : ∀ z ∈ ps, z.1 ≠ M := fun z hz => ne_of_none (hp.2 z hz) hM
    have nHM : H M = none := sJ.free hM
    refine ⟨_, rfl, _, _, rfl, lenVX (.inl (.inl (.inl hpM.1))), _, _, rfl, rfl, 0, _, 2, ps.length / 2, rfl, by rw [lmp]; exact rg2 (by omega), ?_⟩
    refine for_rangeC (n := ps.length / 2) (fun i σ J => Same H J ∧ LsA J Pp ps ∧ ∃ (ms : List (Addr × List VD)) (v5 : Option V), LsA J M ms ∧ (∀ z ∈ ms, z.1 ≠ M) ∧ ms.map Prod.snd = (rndR ltVD (ps.map Prod.snd)).take i ∧ σ = [some (.ref R), some (.ref Pp), v2, some (.ref M), v5])
      ⟨sJ.trans sM, hpM, [], _, ⟨upd_same, fun _ h => by cases h⟩, (fun _ h => by cases h), rfl, rfl⟩ ?_ ?_
    · rintro i σ J1 hi ⟨s1, hp1, ms, v5', hm, nm, em, rfl⟩
      have i1 : 2 * i + 1 < ps.length := by omega
      have ea := List.getElem?_eq_getElem (show 2 * i < ps.length by omega)
      have eb := List.getElem?_eq_getElem i1
      generalize ps[2 * i] = a at ea
      generalize ps[2 * i + 1] = b at eb
      have ma := List.mem_of_getElem? ea
      have mb := List.mem_of_getElem? eb
      have ata : atI (ps.map fun z => V.ref z.1) (0 + (i : Int) * 2) = some (.ref a.1) := by
        rw [show (0 : Int) + (i : Int) * 2 = ((2 * i : Nat) : Int) by omega]
        exact atI_nat (by rw [List.getElem?_map, ea]; rfl)
      have atb : atI (ps.map fun z => V.ref z.1) (0 + (i : Int) * 2 + 1) = some (.ref b.1) := by
        rw [show (0 : Int) + (i : Int) * 2 + 1 = ((2 * i + 1 : Nat) : Int) by omega]
        exact atI_nat (by rw [List.getElem?_map, eb]; rfl)
      have lms : ms.length ≤ 1000 := by
        have := congrArg List.length em
        rw [List.length_map, List.length_take] at this
        omega
      refine ⟨_, rfl, .inl ⟨rfl, _, .inl (.inl hm.1)⟩, _, rfl, _, rfl, ixX (.inl (.inl (.inl hp1.1))) ata ⟨_, rfl, _, rfl, _, _, rfl, rfl, ixX (.inl (.inl (.inl hp1.1))) atb ⟨rfl, rfl, _, _, rfl, a.1, b.1, a.2, b.2, rfl, rfl, hp1.2 a ma, hp1.2 b mb, ?_, ?_, fun L J2 hL s2 eL => ⟨M, _, _, rfl, rfl, s2 _ _ hm.1, ?_, ?_⟩⟩⟩⟩
      · exact (hv.same s1).mono fun z hz => (List.mem_append.mp hz).elim (inx a ma z) (inx b mb z)
      · have := lenx a ma
        have := lenx b mb
        omega
      · rw [List.length_map]
        exact Nat.lt_of_le_of_lt lms (by decide)
      · have hp2 := hp1.same s2
        have hm2 := hm.same s2
        have nLM : L ≠ M := (ne_of_none hm.1 hL).symm
        refine ⟨Same.upd (s1.trans s2) nHM, ⟨by rw [upd_ne nPM]; exact hp2.1, fun z hz => by rw [upd_ne (npM z hz)]; exact hp2.2 z hz⟩, ms ++ [(L, mrgR ltVD a.2 b.2)], _, ⟨by rw [upd_same, List.map_append]; rfl, fun z hz => ?_⟩, fun z hz => ?_, ?_, rfl⟩
        · rcases List.mem_append.mp hz with hz | hz
          · rw [upd_ne (nm z hz)]
            exact hm2.2 z hz
          · rw [List.mem_singleton.mp hz, upd_ne nLM]
            exact eL
        · rcases List.mem_append.mp hz with hz | hz
          · exact nm z hz
          · rw [List.mem_singleton.mp hz]
            exact nLM
        · rw [List.map_append, em, List.take_add_one, rndR_get ltVD i (ps.map Prod.snd) (a := a.2) (b := b.2) (by rw [List.getElem?_map, ea]; rfl) (by rw [List.getElem?_map, eb]; rfl)]
          rfl
    · rintro σ J1 ⟨s1, hp1, ms, v5', hm, nm, em, rfl⟩
      have lr := rndR_len ltVD (ps.map Prod.snd)
      rw [List.length_map] at lr
      have fin : ∀ (J3 : Hp) (ms' : List (Addr × List VD)) (v4 v5 : Option V), Same H J3 → LsA J3 M ms' → ms'.map Prod.snd = rndR ltVD (ps.map Prod.snd) → OrI H R xs (fun k => k < n) [some (.ref R), some (.ref M), v2, v4, v5] J3 := fun J3 ms' v4 v5 s3 h3 e3 => by
        have l3 : ms'.length = (ps.length + 1) / 2 := by rw [← lr, ← e3, List.length_map]
        refine ⟨s3, ms', f - 1, M, v2, v4, v5, ?_, h3, ?_, ?_, ?_, rfl⟩
        · show ms'.length < n
          rw [hn]
          omega
        · omega
        · omega
        · rw [e3, ← eR]
          congr 1
          rw [show f = (f - 1) + 1 by omega]
          exact (rnds_step ltVD (by rw [List.length_map]; exact c)).symm
      refine ⟨_, rfl, _, _, rfl, lenVX (.inl (.inl (.inl hp1.1))), _, _, rfl, rfl, (by show (0 : Int) < 2; decide), rfl, _, rfl, ?_⟩
      rw [lmp]
      by_cases od : ps.length % 2 = 1
      · obtain ⟨h, eh⟩ : ∃ h, ps.length = 2 * h + 1 := ⟨ps.length / 2, by omega⟩
        have ea := List.getElem?_eq_getElem (show 2 * h < ps.length by omega)
        generalize ps[2 * h] = a at ea
        have ma := List.mem_of_getElem? ea
        have ata : atI (ps.map fun z => V.ref z.1) (-1) = some (.ref a.1) := by
          have e1 : ps = ps.dropLast ++ [a] := get_last (by rw [List.getLast?_eq_getElem?, show ps.length - 1 = 2 * h by omega]; exact ea)
          rw [e1, List.map_append]
          exact atI_last _ _
        refine iteY (by simpa using (show (ps.length : Int) % 2 = 1 by omega)) ⟨_, rfl, .inl ⟨rfl, _, .inl (.inl hm.1)⟩, _, rfl, 1, rfl, ixX (.inl (.inl (.inl hp1.1))) ata ⟨M, _, _, rfl, rfl, hm.1, ?_, _, rfl, fin _ (ms ++ [a]) _ _ (Same.upd s1 nHM) ⟨by rw [upd_same, List.map_append]; rfl, fun z hz => ?_⟩ ?_⟩⟩
        · rw [List.length_map]
          have := congrArg List.length em
          rw [List.length_map, List.length_take] at this
          exact Nat.lt_of_le_of_lt (show ms.length ≤ 1000 by omega) (by decide)
        · rcases List.mem_append.mp hz with hz | hz
          · rw [upd_ne (nm z hz)]
            exact hm.2 z hz
          · rw [List.mem_singleton.mp hz, upd_ne (npM a ma)]
            exact hp1.2 a ma
        · rw [List.map_append, em, show ps.length / 2 = h by omega]
          have e2 := rndR_last ltVD h (ps.map Prod.snd) (a := a.2) (by rw [List.length_map]; exact eh) (by rw [List.getElem?_map, ea]; rfl)
          have e3 : (rndR ltVD (ps.map Prod.snd)).length = h + 1 := by omega
          have e4 : (rndR ltVD (ps.map Prod.snd)).take (h + 1) = (rndR ltVD (ps.map Prod.snd)).take h ++ [a.2] := by rw [List.take_add_one, e2]; rfl
          rw [← e3, List.take_length] at e4
          exact e4.symm
      · refine iteN (by simpa using (show ¬ (ps.length : Int) % 2 = 1 by omega)) ⟨_, rfl, fin _ ms _ _ s1 hm ?_⟩
        rw [em, List.take_of_length_le (by omega)]
  · refine iteN (by rw [lmp]; simpa using (show (ps.length : Int) ≤ 1 by omega)) ?_
    rw [rnds_one _ (by rw [List.length_map]; omega)] at eR
    rcases ps with _ | ⟨z, ps⟩
    · refine ⟨_, rfl, false, .inl ⟨_, .inl (.inl hp.1), rfl⟩, ?_⟩
      refine iteT ⟨by show 0 ≤ sizeLine; decide, fun C hC => q C _ (sJ.free hC) (sJ.trans (Same.new hC)) ?_⟩
      rw [upd_same, ← eR]
      rfl
    · have e1 : ps = [] := by
        cases ps with
        | nil => rfl
        | cons y ps => simp at c
      subst e1
      refine ⟨_, rfl, true, .inl ⟨_, .inl (.inl hp.1), rfl⟩, ?_⟩
      refine iteF ⟨_, rfl, ixX (.inl (.inl (.inl hp.1))) (show atI _ 0 = some (.ref z.1) from rfl) ?_⟩
      have hz := hp.2 z (by simp)
      refine ⟨z.1, _, rfl, .inl (.inl (.inl hz)), fun C hC => q C _ (sJ.free hC) (sJ.trans (Same.new hC)) ?_⟩
      rw [upd_same, ← eR]
      simp
end
end W

namespace W
open PySem PySem.Spec PyProof.Rows L2
section
variable {P : Program} {w : World} {K : S.Frag} {mg : Str → Option Value} {base : Heap}
open S
/-! names in order -/
def vdN (n : Str) : VD := (.str n, .str n)
def ltNm (a b : Str) : Bool := PySem.W.dataLt (.str a) (.str b)
theorem ord_names {H : Hp} {R : Addr} {ns : List Str} {Q : VK} {E : XK} (hR : H R = some (.lst (ns.map V.str))) (ln : ns.length ≤ 1000) (q : ∀ L H', H L = none → Same H H' → H' L = some (.lst ((ordR ltNm ns).map V.str)) → Q (.ref L) H') : spOrd K [.ref R] H Q E := by
  refine ⟨_, rfl, R, ns.map vdN, rfl, .inl (.inl (.inl (by rw [hR, List.map_map]; rfl))), ⟨fun z hz => ?_, fun a ha b hb => ?_, fun z hz => ?_, fun z hz => ?_⟩, by rw [List.length_map]; exact ln, fun L H' nL s e => q L H' nL s ?_⟩
  · obtain ⟨n, _, rfl⟩ := List.mem_map.mp hz
    exact .str n
  · obtain ⟨n, _, rfl⟩ := List.mem_map.mp ha
    obtain ⟨n', _, rfl⟩ := List.mem_map.mp hb
    simp [vdN, PySem.W.alike]
  · obtain ⟨n, _, rfl⟩ := List.mem_map.mp hz
    exact fun h => by cases h
  · obtain ⟨n, _, rfl⟩ := List.mem_map.mp hz
    simp [vdN, PyData.depth]
  · rw [e, ← ordR_map (lt := ltNm) (lt' := ltVD) (f := vdN) (fun _ _ => rfl), List.map_map]
    rfl
def dpNs (ns : List Str) : List PyData := ns.map fun n => .str n
def vdT (z : Addr × List Str) : VD := (.ref z.1, .tuple (dpNs z.2))
def ltNs (a b : List Str) : Bool := PySem.W.dataLt (.tuple (dpNs a)) (.tuple (dpNs b))
theorem alike_ns : ∀ {a b : List Str}, a.length = b.length → PySem.W.alikeAll (dpNs a) (dpNs b) = true
  | [], [], _ => by simp [dpNs, PySem.W.alikeAll]
  | [], _ :: _, h => by cases h
  | _ :: _, [], h => by cases h
  | x :: a, y :: b, h => by
    have ih := alike_ns (a := a) (b := b) (by simpa using h)
    unfold dpNs at ih ⊢
    simp [PySem.W.alikeAll, PySem.W.alike, ih]
theorem dps_ns {H : Hp} : ∀ ns : List Str, DpAll K H (ns.map V.str) (dpNs ns)
  | [] => .nil
  | n :: ns => .cons (.str n) (dps_ns ns)
theorem depth_ns : ∀ ns : List Str, PyData.depthAll (dpNs ns) ≤ 1
  | [] => by simp [dpNs, PyData.depthAll]
  | n :: ns => by
    have ih := depth_ns ns
    unfold dpNs at ih ⊢
    simp [PyData.depthAll, PyData.depth] at ih ⊢
    omega
/-- tuples of names of one length, in order -/
theorem ord_tups {H : Hp} {R : Addr} {zs : List (Addr × List Str)} {k : Nat} {Q : VK} {E : XK} (hR : H R = some (.lst (zs.map fun z => .ref z.1))) (hz : ∀ z ∈ zs, H z.1 = some (.tup (z.2.map V.str))) (hk : ∀ z ∈ zs, z.2.length = k) (ln : zs.length ≤ 1000)
    (q : ∀ (L : Addr) (ws : List (Addr × List Str)) (H' : Hp), H L = none → Same H H' → H' L = some (.lst (ws.map fun z => .ref z.1)) → (∀ z ∈ ws, H' z.1 = some (.tup (z.2.map V.str))) → ws.map (·.2) = ordR ltNs (zs.map (·.2)) → Q (.ref L) H') : spOrd K [.ref R] H Q E := by
  have pm := ordR_perm (fun a b : Addr × List Str => ltNs a.2 b.2) zs
  refine ⟨_, rfl, R, zs.map vdT, rfl, .inl (.inl (.inl (by rw [hR, List.map_map]; rfl))), ⟨fun z hz' => ?_, fun a ha b hb => ?_, fun z hz' => ?_, fun z hz' => ?_⟩, by rw [List.length_map]; exact ln, fun L H' nL s e => q L (ordR (fun a b : Addr × List Str => ltNs a.2 b.2) zs) H' nL s ?_ (fun z hz' => s _ _ (hz z (pm.mem_iff.mp hz'))) ?_⟩
  · obtain ⟨n, hn, rfl⟩ := List.mem_map.mp hz'
    exact .tup (.inl (.inl (hz n hn))) (dps_ns n.2)
  · obtain ⟨n, hn, rfl⟩ := List.mem_map.mp ha
    obtain ⟨n', hn', rfl⟩ := List.mem_map.mp hb
    have := alike_ns (a := n.2) (b := n'.2) (by rw [hk n hn, hk n' hn'])
    simpa [vdT, PySem.W.alike] using this
  · obtain ⟨n, _, rfl⟩ := List.mem_map.mp hz'
    exact fun h => by cases h
  · obtain ⟨n, _, rfl⟩ := List.mem_map.mp hz'
    have := depth_ns n.2
    simp only [vdT, PyData.depth]
    omega
  · rw [e, ← ordR_map (lt := fun a b : Addr × List Str => ltNs a.2 b.2) (lt' := ltVD) (f := vdT) (fun _ _ => rfl), List.map_map]
    rfl
  · exact ordR_map (lt := fun a b : Addr × List Str => ltNs a.2 b.2) (lt' := ltNs) (f := Prod.snd) (fun _ _ => rfl) zs
end
end W

namespace W
open PySem PySem.Spec PyProof.Rows L2
section
variable {P : Program} {w : World} {K : S.Frag} {mg : Str → Option Value} {base : Heap}
open S
/-! the law's own sort -/
def ltD (a b : VD) : Bool := PySem.W.dataLt a.2 b.2
structure SrL (K : S.Frag) (H : Hp) (zs : List VD) : Prop where
  dp : ∀ z ∈ zs, Dp K H z.1 z.2 ∧ z.2 ≠ .none ∧ z.2.depth ≤ 20
  al : ∀ z ∈ zs, ∀ y ∈ zs, PySem.W.alike z.2 y.2 = true
def spSorted (K : S.Frag) : Sp := Sp1 fun x H Q _ => ∃ (L : Addr) (zs : List VD), x = .ref L ∧ H L = some (.lst (zs.map Prod.fst)) ∧ zs.length ≤ 1000 ∧ SrL K H zs ∧
  ∀ L' H', H L' = none → Same H H' → H' L' = some (.lst ((sortR ltD zs).map Prod.fst)) → Q (.ref L') H'
theorem ok__law_sorted (T : Txt K mg) : FnOk P w K mg base (L2.CX P w) 1 (He.fAd K ("_law_sorted", none)) (S.fdA K ("_law_sorted", none)) ["_law_items"] (spSorted K) := by
  refine FunD.ok T.F__law_sorted sc__law_sorted (fun vs H Q E h => S.splen1 h) (fun cdv A outer s H vs Q E hr h => ?_)
  have hu := hu_of hr
  refine ⟨_, (pss_cons (ps_set (i := 1) sc__law_sorted.nd rfl (by first | exact Or.inl rfl | exact Or.inr rfl) (pe_lst pa_nil))
      (pss_cons (ps_for (S.own_of rfl) rfl (S.pi_listK (K := K) rfl (pv 0)) (pg_name (i := 2) sc__law_sorted.nd rfl (by first | exact Or.inl rfl | exact Or.inr rfl))
        (pss_cons (ps_set (i := 3) sc__law_sorted.nd rfl (by first | exact Or.inl rfl | exact Or.inr rfl) (pe_callB (S.lenK (K := K) rfl) rfl T.n_len S.boot_len (pa_cons (pv 1) pa_nil)))
      (pss_cons (ps_for (S.own_of rfl) rfl (pi_range1 rfl T.n_range (pa_cons (pe_callB (S.lenK (K := K) rfl) rfl T.n_len S.boot_len (pa_cons (pv 1) pa_nil)) pa_nil)) (pg_name (i := 4) sc__law_sorted.nd rfl (by first | exact Or.inl rfl | exact Or.inr rfl))
        (pss_one (ps_if (PW.pt (pw_and (pt_cmpR op_gt (pv 3) pe_int (nomark _)) (pw_and1 (pt_cmpR (S.ltDK (K := K) rfl (S.hu64 hr)) (pv 2) (pe_ix (S.ixK (K := K) rfl) (pv 1) (pe_op op_sub (pv 3) pe_int) (fun _ _ => rfl)) (nomark _))))) (pss_one (ps_set (i := 3) sc__law_sorted.nd rfl (by first | exact Or.inl rfl | exact Or.inr rfl) (pe_op op_sub (pv 3) pe_int))) pss_nil)))
      (pss_one (ps_expr (pe_bm PySem.F.plainAttrs_list PySem.F.slot_list_insert PySem.F.type_list_insert mt_insert (pv 1) (pa_cons (pv 3) (pa_cons (pv 2) pa_nil))))))))
      (pss_one (ps_ret (pv 1))))), ?_⟩
  obtain ⟨_, rfl, L, zs, rfl, hL, ln, srt, q⟩ := h
  refine ⟨by decide, fun O hO => ?_⟩
  have s0 := Same.new (o := .lst []) hO
  refine ⟨_, rfl, L, rfl, ⟨_, .inl (.inl (s0 _ _ hL))⟩, for_list (xs := zs.map Prod.fst) (fun i σ J => Same H J ∧ J O = some (.lst ((sortR ltD (zs.take i)).map Prod.fst)) ∧ ∃ v2 v3 v4, σ = [some (.ref L), some (.ref O), v2, v3, v4]) ⟨s0, upd_same, _, _, _, rfl⟩ (fun i σ J _ h => .inl (.inl (h.1 _ _ hL))) ?_ ?_⟩
  · rintro i x σ J hx ⟨sJ, eO, v2, v3, v4, rfl⟩
    rw [List.getElem?_map] at hx
    obtain ⟨z, hz', rfl⟩ := Option.map_eq_some_iff.mp hx
    have mz := List.mem_of_getElem? hz'
    generalize hout : sortR ltD (zs.take i) = out at eO
    have pm : out.Perm (zs.take i) := by rw [← hout]; exact sortR_perm _ _
    have lo : out.length ≤ 1000 := by rw [pm.length_eq, List.length_take]; omega
    have mo : ∀ y ∈ out, y ∈ zs := fun y hy => List.mem_of_mem_take (pm.mem_iff.mp hy)
    have sml : (out.map Prod.fst).length < sizeLine := by rw [List.length_map]; exact Nat.lt_of_le_of_lt lo (by decide)
    have lm : (out.map Prod.fst).length = out.length := List.length_map _
    refine ⟨_, rfl, _, _, rfl, lenVX (.inl (.inl (.inl eO))), ?_⟩
    refine ⟨_, rfl, _, _, rfl, lenVX (.inl (.inl (.inl eO))), _, rfl, by omega, by omega, ?_⟩
    refine for_range (n := ((out.map Prod.fst).length : Int).toNat) (fun t σ J' => J' = J ∧ ∃ (m : Nat) (v4 : Option V), m ≤ out.length ∧ posR ltD z out m = posR ltD z out out.length ∧ (m ≤ out.length - t ∨ posR ltD z out m = m) ∧ σ = [some (.ref L), some (.ref O), some z.1, some (.int (m : Int)), v4]) ⟨rfl, out.length, _, Nat.le_refl _, rfl, .inl (by omega), by rw [← lm]; rfl⟩ ?_ ?_
    · rintro t σ J' ht ⟨rfl, m, v4, hm, ep, fx, rfl⟩
      refine ⟨_, rfl, _, _, rfl, rfl, _, rfl, ?_⟩
      cases m with
      | zero => exact iteN (by simp) (iteF ⟨rfl, 0, _, Nat.zero_le _, ep, .inl (Nat.zero_le _), rfl⟩)
      | succ m =>
        have ey := List.getElem?_eq_getElem (show m < out.length by omega)
        have my := mo _ (List.getElem_mem (show m < out.length by omega))
        have e1 : ((m + 1 : Nat) : Int) - 1 = (m : Int) := by omega
        obtain ⟨d1, d2, d3⟩ := srt.dp z mz
        obtain ⟨c1, _, _⟩ := srt.dp _ my
        refine iteY (by simp) ⟨_, rfl, _, rfl, _, rfl, _, _, rfl, rfl, ?_⟩
        refine ixX (.inl (.inl (.inl eO))) (show atI (out.map Prod.fst) (((m + 1 : Nat) : Int) - 1) = some (out[m]'(by omega)).1 by rw [e1]; exact atI_nat (by rw [List.getElem?_map, ey]; rfl)) ?_
        refine ⟨z.2, (out[m]'(by omega)).2, S.dp_same sJ d1, S.dp_same sJ c1, srt.al z mz _ my, d2, d3, _, rfl, ?_⟩
        have el : ltAt ltD z out m = PySem.W.dataLt z.2 (out[m]'(by omega)).2 := by
          unfold ltAt
          rw [ey]
          rfl
        cases c : PySem.W.dataLt z.2 (out[m]'(by omega)).2 with
        | true =>
          have ep2 : posR ltD z out m = posR ltD z out out.length := by
            rw [← ep]
            show _ = if ltAt _ z out m = true then _ else _
            rw [el, c, if_pos rfl]
          have fx2 : m ≤ out.length - (t + 1) ∨ posR ltD z out m = m := by
            rcases fx with h | h
            · exact .inl (by omega)
            · exfalso
              have h2 := posR_le ltD z out m
              rw [ep, ← ep2] at h
              omega
          refine iteT ⟨_, rfl, _, _, rfl, rfl, rfl, m, some (.int (0 + (t : Int))), by omega, ep2, fx2, ?_⟩
          show [some (V.ref L), some (V.ref O), some z.1, some (V.int (((m + 1 : Nat) : Int) - 1)), some (V.int (0 + (t : Int)))] = _
          rw [e1]
        | false =>
          have ep2 : posR ltD z out (m + 1) = m + 1 := by
            show (if ltAt _ z out m = true then _ else _) = _
            rw [el, c, if_neg (by decide)]
          exact iteF ⟨rfl, m + 1, _, hm, ep, .inr ep2, rfl⟩
    · rintro σ J' ⟨rfl, m, v4, hm, ep, fx, rfl⟩
      have em : posR ltD z out out.length = m := by
        rw [← ep]
        rcases fx with h | h
        · have : m = 0 := by omega
          subst this
          rfl
        · exact h
      refine ⟨_, rfl, .inl ⟨rfl, _, .inl (.inl eO)⟩, _, rfl, _, rfl, O, _, (m : Int), _, rfl, rfl, eO, sml, by omega, by omega, Same.upd sJ hO, ?_, _, _, _, rfl⟩
      rw [upd_same, show sortR ltD (zs.take (i + 1)) = insR ltD (sortR ltD (zs.take i)) z from sortR_take hz', hout]
      unfold insR
      rw [em, List.map_append, List.map_append, List.map_take, List.map_drop]
      rfl
  · rintro σ J ⟨sJ, eO, v2, v3, v4, rfl⟩
    rw [List.length_map, List.take_length] at eO
    exact ⟨_, rfl, q O J hO sJ eO⟩
end
end W

namespace W
open PySem PySem.Spec PyProof.Rows L2
/-! ascending lists: plain -/
open S
section
variable {α : Type} {lt : α → α → Bool}
structure Swo (lt : α → α → Bool) : Prop where
  irr : ∀ a, lt a a = false
  tr : ∀ {a b c}, lt a b = true → lt b c = true → lt a c = true
  neg : ∀ {a b c}, lt a c = true → lt a b = true ∨ lt b c = true
theorem Swo.asym (o : Swo lt) {a b : α} (h : lt a b = true) : lt b a = false := by
  cases e : lt b a with
  | false => rfl
  | true =>
    have := o.tr h e
    rw [o.irr] at this
    cases this
theorem Swo.le (o : Swo lt) {a b c : α} (h1 : lt b a = false) (h2 : lt c b = false) : lt c a = false := by
  cases e : lt c a with
  | false => rfl
  | true =>
    rcases o.neg (b := b) e with h | h
    · rw [h2] at h; cases h
    · rw [h1] at h; cases h
def Srt (lt : α → α → Bool) (l : List α) : Prop := l.Pairwise fun a b => lt b a = false
theorem mrgI_srt (o : Swo lt) {x : α} {xs : List α} {k : List α → List α} (hx : Srt lt (x :: xs)) (hp : ∀ ys, (k ys).Perm (xs ++ ys)) (hk : ∀ ys, Srt lt ys → Srt lt (k ys)) : ∀ ys, Srt lt ys → Srt lt (mrgI lt x k ys)
  | [], _ => by
    unfold mrgI
    refine List.pairwise_cons.mpr ⟨fun e he => ?_, hk [] .nil⟩
    have := (hp []).mem_iff.mp he
    rw [List.append_nil] at this
    exact (List.pairwise_cons.mp hx).1 e this
  | y :: ys, hy => by
    unfold mrgI
    have hx' := List.pairwise_cons.mp hx
    have hy' := List.pairwise_cons.mp hy
    split
    · rename_i c
      have ih := mrgI_srt o hx hp hk ys hy'.2
      refine List.pairwise_cons.mpr ⟨fun e he => ?_, ih⟩
      have := (mrgI_perm lt x k xs hp ys).mem_iff.mp he
      rcases List.mem_append.mp this with h | h
      · rcases List.mem_cons.mp h with rfl | h
        · exact o.asym c
        · exact o.le (o.asym c) (hx'.1 e h)
      · exact hy'.1 e h
    · rename_i c
      have c : lt y x = false := by simpa using c
      refine List.pairwise_cons.mpr ⟨fun e he => ?_, hk _ hy⟩
      have := (hp (y :: ys)).mem_iff.mp he
      rcases List.mem_append.mp this with h | h
      · exact hx'.1 e h
      · rcases List.mem_cons.mp h with rfl | h
        · exact c
        · exact o.le c (hy'.1 e h)
theorem mrgR_srt (o : Swo lt) : ∀ xs ys : List α, Srt lt xs → Srt lt ys → Srt lt (mrgR lt xs ys)
  | [], ys, _, h => h
  | x :: xs, ys, hx, hy => mrgI_srt o hx (mrgR_perm lt xs) (fun zs hz => mrgR_srt o xs zs (List.pairwise_cons.mp hx).2 hz) ys hy
theorem rndR_srt (o : Swo lt) : ∀ r : List (List α), (∀ l ∈ r, Srt lt l) → ∀ l ∈ rndR lt r, Srt lt l
  | [], h => h
  | [_], h => h
  | a :: b :: r, h => by
    unfold rndR
    intro l hl
    rcases List.mem_cons.mp hl with rfl | hl
    · exact mrgR_srt o a b (h a (by simp)) (h b (by simp))
    · exact rndR_srt o r (fun l hl => h l (by simp [hl])) l hl
theorem rndsR_srt (o : Swo lt) : ∀ (n : Nat) (r : List (List α)), (∀ l ∈ r, Srt lt l) → ∀ l ∈ rndsR lt n r, Srt lt l
  | 0, r, h => h
  | n + 1, r, h => by
    unfold rndsR
    split
    · exact h
    · exact rndsR_srt o n _ (rndR_srt o r h)
theorem rndsR_one (lt : α → α → Bool) : ∀ (n : Nat) (r : List (List α)), r.length ≤ n + 1 → (rndsR lt n r).length ≤ 1
  | 0, r, h => h
  | n + 1, r, h => by
    unfold rndsR
    split
    · assumption
    · exact rndsR_one lt n _ (by rw [rndR_len]; omega)
theorem ordR_srt (o : Swo lt) (l : List α) : Srt lt (ordR lt l) := by
  unfold ordR
  have h1 := rndsR_srt o l.length (l.map fun x => [x]) fun y hy => by
    obtain ⟨x, _, rfl⟩ := List.mem_map.mp hy
    exact List.pairwise_cons.mpr ⟨(fun _ h => by cases h), .nil⟩
  have h2 := rndsR_one lt l.length (l.map fun x => [x]) (by rw [List.length_map]; omega)
  generalize rndsR lt l.length (l.map fun x => [x]) = r at h1 h2
  match r, h1, h2 with
  | [], _, _ => exact .nil
  | [y], h1, _ =>
    rw [List.flatten_cons, List.flatten_nil, List.append_nil]
    exact h1 y (by simp)
  | _ :: _ :: _, _, h2 => simp at h2
theorem posR_srt (lt : α → α → Bool) (x : α) (out : List α) : ∀ k, k ≤ out.length → (∀ j e, posR lt x out k ≤ j → j < k → out[j]? = some e → lt x e = true) ∧ ∀ e, 0 < posR lt x out k → out[posR lt x out k - 1]? = some e → lt x e = false
  | 0, _ => ⟨(fun j e _ h => by omega), fun e h => by unfold posR at h; omega⟩
  | k + 1, hk => by
    have ih := posR_srt lt x out k (by omega)
    have hk' := List.getElem?_eq_getElem (show k < out.length by omega)
    unfold posR
    unfold ltAt
    rw [hk']
    show (∀ j e, (if lt x out[k] = true then posR lt x out k else k + 1) ≤ j → _) ∧ _
    by_cases c : lt x out[k] = true
    · rw [if_pos c]
      refine ⟨fun j e h1 h2 h3 => ?_, ih.2⟩
      by_cases e1 : j = k
      · subst e1
        rw [hk'] at h3
        cases h3
        exact c
      · exact ih.1 j e h1 (by omega) h3
    · rw [if_neg c]
      refine ⟨fun j e h1 h2 => by omega, fun e _ h => ?_⟩
      rw [Nat.add_sub_cancel, hk'] at h
      cases h
      simpa using c
theorem insR_srt (o : Swo lt) {out : List α} (h : Srt lt out) (x : α) : Srt lt (insR lt out x) := by
  unfold insR
  obtain ⟨h1, h2⟩ := posR_srt lt x out out.length (Nat.le_refl _)
  have hp := posR_le lt x out out.length
  generalize posR lt x out out.length = p at h1 h2 hp
  have hs : out.take p ++ out.drop p = out := List.take_append_drop _ _
  have hpw := h
  unfold Srt at hpw
  rw [← hs] at hpw
  obtain ⟨a1, a2, a3⟩ := List.pairwise_append.mp hpw
  have up : ∀ e ∈ out.drop p, lt e x = false := fun e he => by
    obtain ⟨j, hj⟩ := List.getElem?_of_mem he
    rw [List.getElem?_drop] at hj
    have := (List.getElem?_eq_some_iff.mp hj).1
    exact o.asym (h1 (p + j) e (by omega) this hj)
  have dn : ∀ e ∈ out.take p, lt x e = false := fun e he => by
    obtain ⟨j, hj⟩ := List.getElem?_of_mem he
    have jl := (List.getElem?_eq_some_iff.mp hj).1
    rw [List.length_take] at jl
    rw [List.getElem?_take_of_lt (by omega)] at hj
    have hq := List.getElem?_eq_getElem (show p - 1 < out.length by omega)
    have := h2 _ (by omega) hq
    by_cases e1 : j = p - 1
    · rw [e1, hq] at hj
      cases hj
      exact this
    · have hj2 := List.getElem?_eq_some_iff.mp hj
      have := List.pairwise_iff_getElem.mp h j (p - 1) (by omega) (by omega) (by omega)
      rw [hj2.2] at this
      exact o.le this ‹_›
  rw [List.append_assoc]
  refine List.pairwise_append.mpr ⟨a1, List.pairwise_append.mpr ⟨List.pairwise_cons.mpr ⟨(fun _ h => by cases h), .nil⟩, a2, fun a ha b hb => ?_⟩, fun a ha b hb => ?_⟩
  · rw [List.mem_singleton.mp ha]
    exact up b hb
  · rcases List.mem_append.mp hb with hb | hb
    · rw [List.mem_singleton.mp hb]
      exact dn a ha
    · exact a3 a ha b hb
theorem foldR_srt (o : Swo lt) : ∀ (l out : List α), Srt lt out → Srt lt (l.foldl (insR lt) out)
  | [], _, h => h
  | x :: l, _, h => foldR_srt o l _ (insR_srt o h x)
theorem sortR_srt (o : Swo lt) (l : List α) : Srt lt (sortR lt l) := foldR_srt o l [] .nil
theorem srt_unique : ∀ {l m : List α}, Srt lt l → Srt lt m → l.Perm m → (∀ a ∈ l, ∀ b ∈ l, lt a b = false → lt b a = false → a = b) → l = m
  | [], m, _, _, p, _ => p.nil_eq
  | a :: l, m, hl, hm, p, an => by
    match m, hm, p with
    | [], _, p => exact absurd p.length_eq (by simp)
    | b :: m, hm, p =>
      have hl' := List.pairwise_cons.mp hl
      have hm' := List.pairwise_cons.mp hm
      have e : a = b := by
        have h1 : b ∈ a :: l := p.mem_iff.mpr List.mem_cons_self
        have h2 : a ∈ b :: m := p.mem_iff.mp List.mem_cons_self
        rcases List.mem_cons.mp h1 with e | h1'
        · exact e.symm
        · rcases List.mem_cons.mp h2 with e | h2'
          · exact e
          · exact an a List.mem_cons_self b h1 (hm'.1 a h2') (hl'.1 b h1')
      subst e
      rw [srt_unique hl'.2 hm'.2 ((List.perm_cons a).mp p) fun x hx y hy => an x (List.mem_cons_of_mem _ hx) y (List.mem_cons_of_mem _ hy)]
/-- two sorts of the same things -/
theorem ord_sort (o : Swo lt) (l : List α) (an : ∀ a ∈ l, ∀ b ∈ l, lt a b = false → lt b a = false → a = b) : ordR lt l = sortR lt l :=
  srt_unique (ordR_srt o l) (sortR_srt o l) ((ordR_perm lt l).trans (sortR_perm lt l).symm) fun a ha b hb => an a ((ordR_perm lt l).mem_iff.mp ha) b ((ordR_perm lt l).mem_iff.mp hb)
end
theorem swo_data : Swo PySem.W.dataLt where
  irr := fun a => lex_irrefl _
  tr := fun h1 h2 => lex_trans _ _ _ h1 h2
  neg := fun h => lex_negTrans _ _ _ h
theorem swo_on {α β : Type} {lt : β → β → Bool} (o : Swo lt) (f : α → β) : Swo fun a b => lt (f a) (f b) := ⟨fun a => o.irr _, fun h1 h2 => o.tr h1 h2, fun h => o.neg h⟩
end W

namespace W
open PySem PySem.Spec PyProof.Rows L2
section
variable {P : Program} {w : World} {K : S.Frag} {mg : Str → Option Value} {base : Heap}
open S
/-! counts: made, listed, summed -/
def spMkC (K : S.Frag) : Sp := Sp3 fun s t nm H Q E => ∃ (a dx p : Addr) (ob : Obj) (vs : List V), s = .ref a ∧ H a = some (.ins (He.ga K "Counts") dx []) ∧ t = .non ∧ nm = .ref p ∧ H p = some (.frz ob (.tup vs)) ∧ ob.dict = none ∧ (∀ v ∈ vs, Od H v ∧ sml v) ∧
  (∀ ws : List Str, vs = ws.map V.str → (∀ z ∈ ws, isNm z = true) → ws.length ≤ 400 ∧ ∀ H' d es, KpC a H H' → H d = none → CtF K H' a dx d es → (∀ y, cn es y = (ws.count y : Nat)) → Q .non H') ∧
  ∀ b, FirstBad vs b → RaiseN K H b E
theorem ok_Counts___init__ (T : Txt K mg) : FnR P w K mg base (L2.CX P w) 4 (He.fAd K ("Counts", some "__init__")) (S.spStar (spMkC K) .non) := by
  have G_check_names := ok_check_names (P := P) (w := w) (base := base) T
  refine S.FunD.star1K T.F_Counts___init__ sc_Counts___init__ (fun D doc pm an cdv ct a mv rest => match rest with | [] => ⟨_, _, _, _, _, _, rfl, rfl, rfl⟩ | _ :: _ => ⟨_, _, _, _, _, _, rfl, rfl, rfl⟩) (fun cdv A outer s H vs Q E hr h => ?_)
  have hu := hu_of hr
  refine ⟨_, (pss_cons (ps_expr (S.pe_fnS G_check_names (hr.mono (by decide)) rfl T.g_check_names T.F_check_names.kp (kb_check_names_1 T) (S.pasE (takes_of rfl rfl rfl rfl)) (pa_cons (pv 2) pa_nil) pk_nil rfl rfl))
      (pss_cons (ps_if (pt_cmpR op_isN (pv 1) pe_non (nomark _)) (pss_one (ps_set (i := 1) sc_Counts___init__.nd rfl (by first | exact Or.inl rfl | exact Or.inr rfl) (pe_dc (own := [("name", 3)]) (g := gName 3) (tt := tYes) rfl sc_Counts___init__.nd (S.pi_seqK (K := K) rfl (pv 2)) (blkOk_by (N := ["self", "table", "names", "name"]) (sc := defScope s_Counts___init__) (by decide +kernel)) (fun _ _ _ _ _ => (pg_name (i := 3) sc_Counts___init__.nd rfl (by first | exact Or.inl rfl | exact Or.inr rfl))) (fun _ _ _ _ _ => pts_nil) (fun _ _ _ _ _ => (pv 3)) (fun _ _ _ _ _ => (S.pe_tcount (K := K) rfl (S.hu64 hr) (pv 2) (pv 3) ⟨rfl, rfl, rfl, rfl⟩))))) pss_nil)
      (pss_one (S.ps_fldK (K := K) rfl (pv 0) (pe_lock (pe_dc (own := [("name", 3)]) (g := gName 3) rfl sc_Counts___init__.nd (pi_keys (pv 1)) (blkOk_by (N := ["self", "table", "names", "name"]) (sc := defScope s_Counts___init__) (by decide +kernel)) (fun _ _ _ _ _ => (pg_name (i := 3) sc_Counts___init__.nd rfl (by first | exact Or.inl rfl | exact Or.inr rfl))) (fun _ _ _ _ _ => pts_one (pt_cmpR op_gt (pe_dget hu (pv 1) (pv 3) (fun _ _ => rfl)) pe_int (nomark _))) (fun _ _ _ _ _ => (pv 3)) (fun _ _ _ _ _ => (pe_dget hu (pv 1) (pv 3) (fun _ _ => rfl))))) rfl)))), ?_⟩
  obtain ⟨_, _, _, rfl, a, dx, p, ob, vs, rfl, ha, rfl, rfl, hp, hdn, ov, q, ex⟩ := h
  refine ⟨_, rfl, rfl, rfl, _, rfl, p, vs, rfl, .inr (.inl (.inr ⟨ob, hp⟩)), ov, fun hall => ?_, ex⟩
  obtain ⟨ws, rfl, hw⟩ := names_of hall
  obtain ⟨lw, q⟩ := q ws rfl hw
  refine ⟨_, rfl, rfl, _, rfl, iteY rfl ?_⟩
  refine ⟨_, rfl, p, _, rfl, .inr (.inl (.inr ⟨ob, hp⟩)), fun It wk D hD => dc_it wk (fun k J => ∃ es, J = upd H D (.dK (tb es)) ∧ (es.map Prod.fst).Nodup ∧ (∀ z, z ∈ es.map Prod.fst ↔ z ∈ ws.take k) ∧ es.length ≤ k ∧ ∀ e ∈ es, e.2 = (ws.count e.1 : Nat)) ⟨[], rfl, List.nodup_nil, fun z => by simp, Nat.le_refl _, fun _ h => by cases h⟩ ?_ ?_ ?_⟩
  · rintro k J - ⟨es, rfl, -⟩
    exact Same.new hD
  · rintro k x J J' hk ⟨es, rfl, nd, hm, hl, hc⟩ ⟨rfl, hx⟩
    rw [List.getElem?_map] at hx
    obtain ⟨z, hz, rfl⟩ := Option.map_eq_some_iff.mp hx
    rw [List.length_map] at hk
    have hp2 : (upd H D (.dK (tb es))) p = some (.frz ob (.tup (ws.map V.str))) := Same.new hD _ _ hp
    refine ⟨rfl, yesT (iteT ⟨_, rfl, _, rfl, p, ob, ws, rfl, hp2, hdn, _, rfl, z, rfl, .inl (.inr ⟨ob, hp2⟩), tb es, .inr z, rfl, upd_same, ?_, ?_⟩)⟩
    · rw [tb_len]
      exact Nat.lt_of_le_of_lt (show es.length ≤ 400 by omega) (by decide)
    · refine ⟨putE es z (ws.count z : Nat), ?_, put_nd nd _ _, fun y => ?_, by have := put_len es z (ws.count z : Nat); omega, fun e he => ?_⟩
      · rw [tb_put]
        funext b
        by_cases c : b = D
        · rw [c, upd_same, upd_same]
        · rw [upd_ne c, upd_ne c, upd_ne c]
      · rw [put_keys, List.take_add_one, hz]
        split
        · rename_i m
          rw [hm]
          refine ⟨fun h => List.mem_append_left _ h, fun h => ?_⟩
          rcases List.mem_append.mp h with h | h
          · exact h
          · rw [show y = z by simpa using h]
            exact (hm z).mp m
        · rw [List.mem_append, List.mem_append, hm]
          simp
      · rcases put_mem he with rfl | he
        · rfl
        · exact hc e he
  · rintro J ⟨es, rfl, nd, hm, hl, hc⟩
    rw [List.length_map] at hm hl
    rw [List.take_length] at hm
    have okE : OkE es := ⟨nd, fun e he => by
      rw [hc e he]
      have : e.1 ∈ ws := (hm e.1).mp (List.mem_map.mpr ⟨e, he, rfl⟩)
      exact Int.ofNat_lt.mpr (List.count_pos_iff.mpr this)⟩
    unfold gName
    dsimp only
    unfold sFld
    refine dc_keys (d := D) (es := es) (p := fun _ => true) (f := fun e => e.2) upd_same nd (by omega) (fun J Z k z => ⟨_, rfl, z⟩) (fun _ => rfl) (fun e he J Z fz k z => ?_) (fun e he J Z z => ⟨_, rfl, z⟩) (fun e he J Z fz k z => ?_) fun D2 hD2 => ?_
    · refine ⟨_, rfl, _, rfl, D, .int e.2, rfl, .inl ⟨tb es, .inr e.1, .inr fz, rfl, (val_mem nd he).symm⟩, _, _, rfl, rfl, _, rfl, ?_⟩
      rw [decide_eq_true (okE.pos e he)]
      exact z
    · exact ⟨_, rfl, _, rfl, D, .int e.2, rfl, .inl ⟨tb es, .inr e.1, .inr fz, rfl, (val_mem nd he).symm⟩, z⟩
    · have eE : (es.filter fun _ => true).map (fun e => (e.1, e.2)) = es := by rw [List.filter_eq_self.mpr (fun _ _ => rfl)]; exact List.map_id _
      rw [eE]
      have s1 := Same.new (o := .dK (tb es)) hD
      have s2 := s1.trans (Same.new (o := .dK (tb es)) hD2)
      have na2 : a ≠ D2 := ne_of_none (s1 _ _ ha) hD2
      refine ⟨_, rfl, a, _, dx, _, rfl, s2 _ _ ha, T.cl_Counts, T.na_Counts_table, by decide, ?_⟩
      refine q _ D2 es (fun b o nb h => by rw [upd_ne nb]; exact s2 _ _ h) (s1.free hD2) ⟨upd_same, by rw [upd_ne na2.symm, upd_same], okE, by omega⟩ fun y => ?_
      by_cases m : y ∈ ws
      · obtain ⟨e, he, rfl⟩ := List.mem_map.mp ((hm y).mpr m)
        rw [cn_mem nd he, hc e he]
      · rw [cn_out (fun h => m ((hm y).mp h)), List.count_eq_zero_of_not_mem m]
        rfl
def spPreC (K : S.Frag) : Sp := Sp1 fun s H Q _ => ∃ a dx d es, s = .ref a ∧ CtF K H a dx d es ∧ ∀ L H', H L = none → Same H H' → H' L = some (.lst ((ordR ltNm (es.map Prod.fst)).map V.str)) → Q (.ref L) H'
theorem ok_Counts_present (T : Txt K mg) : FnOk P w K mg base (L2.CX P w) 3 (He.fAd K ("Counts", some "present")) (S.fdA K ("Counts", some "present")) ["self"] (spPreC K) := by
  have G_in_order := ok_in_order (P := P) (w := w) (base := base) T
  refine FunD.ok T.F_Counts_present sc_Counts_present (fun vs H Q E h => S.splen1 h) (fun cdv A outer s H vs Q E hr h => ?_)
  have hu := hu_of hr
  refine ⟨_, (pss_one (ps_ret (S.pe_fnS G_in_order (hr.mono (by decide)) rfl T.g_in_order T.F_in_order.kp (kb_in_order_1 T) S.pas0 (pa_cons (pe_callTy (call_list_dK rfl) rfl T.n_list S.boot_list (pa_cons (S.pe_fldK (K := K) rfl (pv 0) rfl) pa_nil)) pa_nil) pk_nil rfl rfl))), ?_⟩
  obtain ⟨_, rfl, a, dx, d, es, rfl, F, q⟩ := h
  refine ⟨_, rfl, a, _, dx, _, _, rfl, F.at_, T.cl_Counts, T.na_Counts_table, rfl, d, _, rfl, F.tb_, fun l hl => ⟨rfl, rfl, ord_names (ns := es.map Prod.fst) ?_ (by rw [List.length_map]; have := F.ln; omega) fun L H' hL s e => q L H' (Same.free (Same.new hl) hL) ((Same.new hl).trans s) e⟩⟩
  rw [upd_same]
  unfold tb
  rw [List.map_map, List.map_map]
  rfl
def totE (es : List (Str × Int)) : Int := (es.map Prod.snd).sum
def spTotC (K : S.Frag) : Sp := Sp1 fun s H Q _ => ∃ a dx d es, s = .ref a ∧ CtF K H a dx d es ∧ ∀ H', Same H H' → Q (.int (totE es)) H'
theorem ok_Counts_total (T : Txt K mg) : FnOk P w K mg base (L2.CX P w) 1 (He.fAd K ("Counts", some "total")) (S.fdA K ("Counts", some "total")) ["self"] (spTotC K) := by
  refine FunD.ok T.F_Counts_total sc_Counts_total (fun vs H Q E h => S.splen1 h) (fun cdv A outer s H vs Q E hr h => ?_)
  have hu := hu_of hr
  refine ⟨_, (pss_one (ps_ret (pe_callB (S.sumK (K := K) rfl rfl) rfl T.n_sum S.boot_sum (pa_cons (pe_lock (pe_lc (own := [("name", 1)]) (g := gName 1) (tt := tYes) rfl sc_Counts_total.nd (pi_keys (S.pe_fldK (K := K) rfl (pv 0) rfl)) (blkOk_by (N := ["self", "name"]) (sc := defScope s_Counts_total) (by decide +kernel)) (fun _ _ _ _ _ => (pg_name (i := 1) sc_Counts_total.nd rfl (by first | exact Or.inl rfl | exact Or.inr rfl))) (fun _ _ _ _ _ => pts_nil) (fun _ _ _ _ _ => (pe_dget hu (S.pe_fldK (K := K) rfl (pv 0) rfl) (pv 1) (fun _ _ => rfl))))) pa_nil)))), ?_⟩
  obtain ⟨_, rfl, a, dx, d, es, rfl, F, q⟩ := h
  refine lc_keys (d := d) (es := es) (p := fun _ => true) (f := fun e => .int e.2) F.tb_ (by have := F.ln; omega) (fun J Z k z => ⟨_, rfl, a, _, dx, _, _, rfl, k _ _ F.ne F.at_, T.cl_Counts, T.na_Counts_table, rfl, z⟩) (fun _ => rfl) (fun e he J Z fz k z => yesT z) (fun e he J Z ⟨od, fz⟩ k z => ?_) fun D hD => ?_
  · exact ⟨_, rfl, a, _, dx, _, _, rfl, k _ _ F.ne F.at_, T.cl_Counts, T.na_Counts_table, rfl, _, rfl, d, _, rfl, .inl ⟨_, .inr e.1, .inr ⟨od, fz⟩, rfl, (val_mem F.ok.nd he).symm⟩, z⟩
  · refine ⟨D, es.map Prod.snd, rfl, .inl (.inl ?_), q _ (Same.new hD)⟩
    rw [upd_same, List.map_map, List.filter_eq_self.mpr (fun _ _ => rfl)]
    rfl
def spLeC (K : S.Frag) : Sp := Sp2 fun s t H Q _ => ∃ a dx d es a2 dx2 d2 fs, s = .ref a ∧ t = .ref a2 ∧ CtF K H a dx d es ∧ CtF K H a2 dx2 d2 fs ∧ Q (.bl (es.all fun e => decide (e.2 ≤ cn fs e.1))) H
theorem ok_Counts___le__ (T : Txt K mg) : FnOk P w K mg base (L2.CX P w) 1 (He.fAd K ("Counts", some "__le__")) (S.fdA K ("Counts", some "__le__")) ["self", "other"] (spLeC K) := by
  refine FunD.ok T.F_Counts___le__ sc_Counts___le__ (fun vs H Q E h => S.splen2 h) (fun cdv A outer s H vs Q E hr h => ?_)
  have hu := hu_of hr
  refine ⟨_, (pss_cons (ps_if (pt_not (pt_val (pe_callB (S.isiK (K := K) rfl) rfl T.n_isinstance S.boot_isinstance (pa_cons (pv 1) (pa_cons (pe_glob (v := .ref _) rfl T.g_Counts rfl) pa_nil))))) (pss_one S.ps_never) pss_nil)
      (pss_cons (ps_lock (ps_for (S.own_of rfl) rfl (pi_keys (S.pe_fldK (K := K) rfl (pv 0) rfl)) (pg_name (i := 2) sc_Counts___le__.nd rfl (by first | exact Or.inl rfl | exact Or.inr rfl))
        (pss_one (ps_if (pt_cmpR op_gt (pe_dget hu (S.pe_fldK (K := K) rfl (pv 0) rfl) (pv 2) (fun _ _ => rfl)) (pe_dget2 hu (S.pe_fldK (K := K) rfl (pv 1) rfl) (pv 2) pe_int ⟨rfl, rfl, rfl, rfl⟩) (nomark _)) (pss_one (ps_ret pe_bl)) pss_nil))))
      (pss_one (ps_ret pe_bl)))), ?_⟩
  obtain ⟨_, _, rfl, a, dx, d, es, a2, dx2, d2, fs, rfl, rfl, F, G, q⟩ := h
  refine ⟨_, rfl, _, _, _, _, true, rfl, .own _, T.is_Counts.ty T.cl_Counts G.at_, T.ko_Counts_Counts, _, rfl, iteF ?_⟩
  refine ⟨d, _, F.tb_, trivial, fun od => ?_⟩
  have k1 : KpC d H (upd H d (.frz od (.dK (tb es)))) := fun b o n h => by rw [upd_ne n]; exact h
  have a1 := k1 _ _ F.ne F.at_
  have b1 := k1 _ _ (fun e => by have := G.at_; rw [e, F.tb_] at this; cases this) G.at_
  have rd : L2.Rd (upd H d (.frz od (.dK (tb es)))) d2 (.dK (tb fs)) := by
    by_cases c : d2 = d
    · have e : tb es = tb fs := by
        have := G.tb_
        rw [c, F.tb_] at this
        injection this with this
        injection this
      rw [c, ← e]
      exact .inr ⟨od, upd_same⟩
    · exact .inl (k1 _ _ c G.tb_)
  have back : upd (upd H d (.frz od (.dK (tb es)))) d (.dK (tb es)) = H := by
    funext b
    by_cases c : b = d
    · rw [c, upd_same, F.tb_]
    · rw [upd_ne c, upd_ne c]
  refine ⟨_, rfl, a, _, dx, _, _, rfl, a1, T.cl_Counts, T.na_Counts_table, rfl, d, od, rfl, .inl ⟨_, upd_same, for_it walk_keys (fun k σ J => J = upd H d (.frz od (.dK (tb es))) ∧ (∀ e ∈ es.take k, e.2 ≤ cn fs e.1) ∧ ∃ v, σ = [some (.ref a), some (.ref a2), v]) ⟨rfl, fun _ h => by simp at h, _, rfl⟩ (fun k σ J _ h => by rw [h.1, upd_same]) ?_ ?_⟩⟩
  · rintro k x σ J J' hk ⟨rfl, hb, v, rfl⟩ ⟨rfl, key, v2, hx, rfl⟩
    obtain ⟨e, he, ee⟩ := tb_get hx
    injection ee with e1 e2
    subst e1 e2
    have me := List.mem_of_getElem? he
    refine ⟨_, rfl, a, _, dx, _, _, rfl, a1, T.cl_Counts, T.na_Counts_table, rfl, _, rfl, d, _, rfl, .inl ⟨_, .inr e.1, .inr ⟨od, upd_same⟩, rfl, (val_mem F.ok.nd me).symm⟩, _, rfl, a2, _, dx2, _, _, rfl, b1, T.cl_Counts, T.na_Counts_table, rfl, d2, rfl, ?_, _, rfl, _, .inl ⟨_, .inr e.1, rd, rfl, rfl⟩, ?_⟩
    · exact .inl ⟨_, rd⟩
    · rw [tb_getD]
      refine ⟨_, _, rfl, rfl, _, rfl, ?_⟩
      by_cases c : cn fs e.1 < e.2
      · refine iteY (by simpa using c) ⟨upd_same, ?_⟩
        show Q _ _
        rw [back]
        have : (es.all fun e => decide (e.2 ≤ cn fs e.1)) = false := by
          rw [List.all_eq_false]
          exact ⟨e, me, by simp; omega⟩
        rw [this] at q
        exact q
      · refine iteN (by simpa using c) ⟨rfl, fun y hy => ?_, _, rfl⟩
        rw [List.take_add_one, he] at hy
        rcases List.mem_append.mp hy with h | h
        · exact hb y h
        · rw [show y = e by simpa using h]
          omega
  · rintro σ J ⟨rfl, hb, v, rfl⟩
    rw [tb_len, List.take_length] at hb
    refine ⟨upd_same, ?_⟩
    have : (es.all fun e => decide (e.2 ≤ cn fs e.1)) = true := List.all_eq_true.mpr fun e he => decide_eq_true (hb e he)
    rw [this] at q
    rw [back]
    exact q
theorem eqV_all {es fs : List (Str × Int)} (he : OkE es) (hf : OkE fs) : (decide ((tb es).length = (tb fs).length) && hitsV eqV (tb es) (tb fs)) = true ↔ ∀ x, cn es x = cn fs x := by
  have hit : hitsV eqV (tb es) (tb fs) = true ↔ ∀ e ∈ es, e.1 ∈ fs.map Prod.fst ∧ cn fs e.1 = e.2 := by
    unfold hitsV
    rw [List.all_eq_true]
    refine ⟨fun h e he => ?_, fun h p hp => ?_⟩
    · have := h (.inr e.1, .int e.2) (List.mem_map.mpr ⟨e, he, rfl⟩)
      by_cases m : e.1 ∈ fs.map Prod.fst
      · obtain ⟨f, hf', ef⟩ := List.mem_map.mp m
        refine ⟨m, ?_⟩
        rw [← ef] at this ⊢
        rw [val_mem hf.nd hf'] at this
        rw [cn_mem hf.nd hf']
        have h2 : (e.2 == f.2) = true := this
        exact (eq_of_beq h2).symm
      · rw [val_out m] at this
        cases this
    · obtain ⟨e, he', rfl⟩ := List.mem_map.mp hp
      obtain ⟨m, ec⟩ := h e he'
      obtain ⟨f, hf', ef⟩ := List.mem_map.mp m
      show (match valV (tb fs) (.inr e.1) with | some y => eqV (V.int e.2) y | none => false) = true
      rw [← ef] at ec ⊢
      rw [val_mem hf.nd hf']
      rw [cn_mem hf.nd hf'] at ec
      rw [ec]
      show (e.2 == e.2) = true
      simp
  rw [Bool.and_eq_true, decide_eq_true_eq, hit, tb_len, tb_len]
  have le : ∀ {es fs : List (Str × Int)}, OkE es → OkE fs → (∀ x, x ∈ es.map Prod.fst → x ∈ fs.map Prod.fst) → es.length ≤ fs.length := fun {es fs} o o2 h => by
    have := nodup_le o.nd h
    rwa [List.length_map, List.length_map] at this
  constructor
  · rintro ⟨hl, h⟩ x
    by_cases m : x ∈ es.map Prod.fst
    · obtain ⟨e, he', rfl⟩ := List.mem_map.mp m
      rw [cn_mem he.nd he', (h e he').2]
    · have : x ∉ fs.map Prod.fst := fun mf => by
        have h1 : (x :: es.map Prod.fst).length ≤ (fs.map Prod.fst).length := nodup_le (List.nodup_cons.mpr ⟨m, he.nd⟩) fun y hy => by
          rcases List.mem_cons.mp hy with rfl | hy
          · exact mf
          · obtain ⟨e, he', rfl⟩ := List.mem_map.mp hy
            exact (h e he').1
        rw [List.length_cons, List.length_map, List.length_map] at h1
        omega
      rw [cn_out m, cn_out this]
  · intro h
    have sub : ∀ x, x ∈ es.map Prod.fst ↔ x ∈ fs.map Prod.fst := fun x => by rw [cn_pos he, cn_pos hf, h x]
    refine ⟨Nat.le_antisymm (le he hf fun x => (sub x).mp) (le hf he fun x => (sub x).mpr), fun e he' => ⟨(sub _).mp (List.mem_map.mpr ⟨e, he', rfl⟩), ?_⟩⟩
    rw [← h, cn_mem he.nd he']
def spEqC (K : S.Frag) : Sp := Sp2 fun s t H Q _ => ∃ a dx d es a2 dx2 d2 fs, s = .ref a ∧ t = .ref a2 ∧ CtF K H a dx d es ∧ CtF K H a2 dx2 d2 fs ∧ ∀ b : Bool, (b = true ↔ ∀ x, cn es x = cn fs x) → Q (.bl b) H
theorem ok_Counts___eq__ (T : Txt K mg) : FnOk P w K mg base (L2.CX P w) 1 (He.fAd K ("Counts", some "__eq__")) (S.fdA K ("Counts", some "__eq__")) ["self", "other"] (spEqC K) := by
  refine FunD.ok T.F_Counts___eq__ sc_Counts___eq__ (fun vs H Q E h => S.splen2 h) (fun cdv A outer s H vs Q E hr h => ?_)
  have hu := hu_of hr
  refine ⟨_, (pss_one (ps_ret (pe_and (pe_callB (S.isiK (K := K) rfl) rfl T.n_isinstance S.boot_isinstance (pa_cons (pv 1) (pa_cons (pe_glob (v := .ref _) rfl T.g_Counts rfl) pa_nil))) (pe_one (pe_cmpR (S.eqGK (K := K) rfl (S.hu64 hr)) (S.pe_fldK (K := K) rfl (pv 0) rfl) (S.pe_fldK (K := K) rfl (pv 1) rfl) (nomark _)))))), ?_⟩
  obtain ⟨_, _, rfl, a, dx, d, es, a2, dx2, d2, fs, rfl, rfl, F, G, q⟩ := h
  refine ⟨_, rfl, _, _, _, _, true, rfl, .own _, T.is_Counts.ty T.cl_Counts G.at_, T.ko_Counts_Counts, _, rfl, iteY rfl ?_⟩
  refine ⟨_, rfl, a, _, dx, _, _, rfl, F.at_, T.cl_Counts, T.na_Counts_table, rfl, _, rfl, a2, _, dx2, _, _, rfl, G.at_, T.cl_Counts, T.na_Counts_table, rfl, 2, _, by decide, (eg_dict (f := eqV) F.tb_ G.tb_ (fun p hp z hz => ?_)).1, q _ (eqV_all F.ok G.ok)⟩
  obtain ⟨e, he, rfl⟩ := List.mem_map.mp hp
  have : ∃ j, z = .int j := by
    have h2 : valV (tb fs) (.inr e.1) = some z := hz
    rw [tb_val] at h2
    obtain ⟨f, _, rfl⟩ := Option.map_eq_some_iff.mp h2
    exact ⟨_, rfl⟩
  obtain ⟨j, rfl⟩ := this
  exact eg_flat rfl rfl
theorem CtF.add {H J : Hp} {a dx d : Addr} {es : List (Str × Int)} (h : CtF K J a dx d es) (k : KpC d H J) {z : Str} {n : Int} (hn : 0 < n) (l : es.length < 400) :
    CtF K (upd J d (.dK (putK (tb es) (.inr z) (.int (cn es z + n))))) a dx d (putE es z (cn es z + n)) ∧ KpC d H (upd J d (.dK (putK (tb es) (.inr z) (.int (cn es z + n))))) ∧ ∀ y, cn (putE es z (cn es z + n)) y = cn es y + if y = z then n else 0 := by
  have k2 : KpC d J (upd J d (.dK (putK (tb es) (.inr z) (.int (cn es z + n))))) := fun b o nb h => by rw [upd_ne nb]; exact h
  have c0 := cn_nn h.ok z
  refine ⟨h.kp' k2 (by rw [upd_same, tb_put]) (okE_put h.ok z (by omega)) (by have := put_len es z (cn es z + n); omega), fun b o nb h => k2 b o nb (k b o nb h), fun y => ?_⟩
  rw [cn_put]
  by_cases c : y = z
  · rw [if_pos c, if_pos c, c]
  · rw [if_neg c, if_neg c]
    omega
theorem cn_snoc {l : List (Str × Int)} {f : Str × Int} (h : f.1 ∉ l.map Prod.fst) (y : Str) : cn (l ++ [f]) y = cn l y + if y = f.1 then f.2 else 0 := by
  unfold cn
  rw [List.find?_append]
  by_cases c : y = f.1
  · subst c
    rw [find_out h, if_pos rfl]
    simp
  · rw [if_neg c]
    have : ([f].find? fun e => decide (e.1 = y)) = none := by simp [Ne.symm c]
    rw [this]
    cases l.find? fun e => decide (e.1 = y) <;> simp
theorem cn_take {fs : List (Str × Int)} (nd : (fs.map Prod.fst).Nodup) {k : Nat} {f : Str × Int} (h : fs[k]? = some f) (y : Str) : cn (fs.take (k + 1)) y = cn (fs.take k) y + if y = f.1 then f.2 else 0 := by
  rw [List.take_add_one, h]
  refine cn_snoc (fun m => ?_) y
  obtain ⟨e, he, ee⟩ := List.mem_map.mp m
  obtain ⟨j, hj, ej⟩ := List.mem_take_iff_getElem.mp he
  have e1 : (fs.map Prod.fst)[j]? = some f.1 := by
    rw [List.getElem?_map, List.getElem?_eq_getElem (by omega), ej]
    exact congrArg some ee
  have e2 : (fs.map Prod.fst)[k]? = some f.1 := by rw [List.getElem?_map, h]; rfl
  have := (List.getElem?_inj (by rw [List.length_map]; omega) nd).mp (e1.trans e2.symm)
  omega
def spAddC (K : S.Frag) : Sp := Sp2 fun s o H Q E => ∃ a dx d es, s = .ref a ∧ CtF K H a dx d es ∧
  ((∃ p vs, o = .ref p ∧ (H p = some (.lst vs) ∨ H p = some (.tup vs)) ∧ (∀ v ∈ vs, Od H v ∧ sml v) ∧
      (∀ ws : List Str, vs = ws.map V.str → (∀ z ∈ ws, isNm z = true) → es.length + ws.length ≤ 400 ∧ ∀ H' es', CtF K H' a dx d es' → KpC d H H' → (∀ y, cn es' y = cn es y + (ws.count y : Nat)) → Q (.ref a) H') ∧ ∀ b, FirstBad vs b → RaiseN K H b E) ∨
   (∃ a2 dx2 d2 fs, o = .ref a2 ∧ CtF K H a2 dx2 d2 fs ∧ es.length + fs.length ≤ 400 ∧ ∀ H' es', CtF K H' a dx d es' → KpC d H H' → (∀ y, cn es' y = cn es y + cn fs y) → Q (.ref a) H'))
theorem ok_Counts___iadd__ (T : Txt K mg) : FnOk P w K mg base (L2.CX P w) 4 (He.fAd K ("Counts", some "__iadd__")) (S.fdA K ("Counts", some "__iadd__")) ["self", "other"] (spAddC K) := by
  have G_check_names := ok_check_names (P := P) (w := w) (base := base) T
  refine FunD.ok T.F_Counts___iadd__ sc_Counts___iadd__ (fun vs H Q E h => S.splen2 h) (fun cdv A outer s H vs Q E hr h => ?_)
  have hu := hu_of hr
  refine ⟨_, (pss_cons (ps_if (pt_val (pe_callB (S.isiK (K := K) rfl) rfl T.n_isinstance S.boot_isinstance (pa_cons (pv 1) (pa_cons (pe_glob (v := .ref _) rfl T.g_Counts rfl) pa_nil)))) (pss_cons (ps_for (S.own_of rfl) rfl (S.pi_listK (K := K) rfl (LiI.pe_listItems rfl (S.pe_fldK (K := K) rfl (pv 1) rfl) rfl T.n_list S.boot_list)) (pg_tup rfl (pgs_cons (pg_name (i := 2) sc_Counts___iadd__.nd rfl (by first | exact Or.inl rfl | exact Or.inr rfl)) (pgs_cons (pg_name (i := 3) sc_Counts___iadd__.nd rfl (by first | exact Or.inl rfl | exact Or.inr rfl)) pgs_nil)))
        (pss_one (ps_dput hu (S.pe_fldK (K := K) rfl (pv 0) rfl) (pv 2) (pe_op op_add (pe_dget2 hu (S.pe_fldK (K := K) rfl (pv 0) rfl) (pv 2) pe_int ⟨rfl, rfl, rfl, rfl⟩) (pv 3)) rfl)))
      (pss_one (ps_ret (pv 0)))) pss_nil)
      (pss_cons (ps_expr (S.pe_fnS G_check_names (hr.mono (by decide)) rfl T.g_check_names T.F_check_names.kp (kb_check_names_1 T) (S.pasE (takes_of rfl rfl rfl rfl)) (pa_cons (pv 1) pa_nil) pk_nil rfl rfl))
      (pss_cons (ps_for (S.own_of rfl) rfl (S.pi_listK (K := K) rfl (pe_callTy (S.listOfK (K := K) rfl) rfl T.n_list S.boot_list (pa_cons (pv 1) pa_nil))) (pg_name (i := 2) sc_Counts___iadd__.nd rfl (by first | exact Or.inl rfl | exact Or.inr rfl))
        (pss_one (ps_dput hu (S.pe_fldK (K := K) rfl (pv 0) rfl) (pv 2) (pe_op op_add (pe_dget2 hu (S.pe_fldK (K := K) rfl (pv 0) rfl) (pv 2) pe_int ⟨rfl, rfl, rfl, rfl⟩) pe_int) rfl)))
      (pss_one (ps_ret (pv 0)))))), ?_⟩
  obtain ⟨_, _, rfl, a, dx, d, es, rfl, F, h⟩ := h
  rcases h with ⟨p, vs, rfl, hp, ov, q, ex⟩ | ⟨a2, dx2, d2, fs, rfl, G, lf, q⟩
  · have sq : SqL K H p vs ∨ SqT K H p vs := by
      rcases hp with h | h
      · exact .inl (.inl (.inl h))
      · exact .inr (.inl (.inl h))
    have ty : ∃ t, TyX K H (.ref p) t ∧ PySem.W.kitOne K t (.ref (He.ga K "Counts")) = some false := by
      rcases hp with h | h
      · exact ⟨_, .base (.lst h), T.kb_Counts_list⟩
      · exact ⟨_, .base (.tup h), T.kb_Counts_tuple⟩
    obtain ⟨t, ty, kt⟩ := ty
    refine ⟨_, rfl, _, _, _, _, false, rfl, .own _, ty, kt, _, rfl, iteF ?_⟩
    refine ⟨_, rfl, rfl, rfl, _, rfl, p, vs, rfl, sq, ov, fun hall => ?_, ex⟩
    obtain ⟨ws, rfl, hw⟩ := names_of hall
    obtain ⟨lw, q⟩ := q ws rfl hw
    refine ⟨_, rfl, p, _, rfl, sq, fun l hl => ⟨l, rfl, ⟨_, .inl (.inl upd_same)⟩, ?_⟩⟩
    have s1 := Same.new (o := .lst (ws.map V.str)) hl
    have k0 : KpC d H (upd H l (.lst (ws.map V.str))) := fun b o _ h => s1 _ _ h
    have nld : l ≠ d := (ne_of_none F.tb_ hl).symm
    refine for_list (xs := ws.map V.str) (fun k σ J => KpC d H J ∧ J l = some (.lst (ws.map V.str)) ∧ (∃ es', CtF K J a dx d es' ∧ (∀ y, cn es' y = cn es y + ((ws.take k).count y : Nat)) ∧ es'.length ≤ es.length + k) ∧ ∃ v2 v3, σ = [some (.ref a), some (.ref p), v2, v3]) ⟨k0, upd_same, ⟨es, F.same s1, fun y => by simp, Nat.le_refl _⟩, _, _, rfl⟩ (fun k σ J _ h => .inl (.inl h.2.1)) ?_ ?_
    · rintro k x σ J hx ⟨kJ, eL, ⟨es', F', hc, hl'⟩, v2, v3, rfl⟩
      rw [List.getElem?_map] at hx
      obtain ⟨z, hz, rfl⟩ := Option.map_eq_some_iff.mp hx
      have hk : k < ws.length := (List.getElem?_eq_some_iff.mp hz).1
      refine ⟨_, rfl, a, _, dx, _, _, rfl, F'.at_, T.cl_Counts, T.na_Counts_table, rfl, d, rfl, .inl ⟨_, .inl F'.tb_⟩, _, rfl, _, .inl ⟨_, .inr z, .inl F'.tb_, rfl, rfl⟩, _, _, tb_getD _ _, rfl, _, rfl, a, _, dx, _, _, rfl, F'.at_, T.cl_Counts, T.na_Counts_table, rfl, _, rfl, d, _, rfl, .inl ⟨_, .inr z, F'.tb_, rfl, by rw [tb_len]; exact Nat.lt_of_le_of_lt (show es'.length ≤ 400 by omega) (by decide), rfl⟩, ?_⟩
      obtain ⟨F2, k2, c2⟩ := F'.add (z := z) (n := 1) kJ (by decide) (by omega)
      refine ⟨k2, by rw [upd_ne nld]; exact eL, ⟨_, F2, fun y => ?_, by have := put_len es' z (cn es' z + 1); omega⟩, _, _, rfl⟩
      rw [c2, hc, List.take_add_one, hz, List.count_append]
      by_cases c : y = z
      · subst c
        simp
        omega
      · rw [if_neg c]
        have : [z].count y = 0 := List.count_eq_zero_of_not_mem (by simpa using c)
        simp [this]
    · rintro σ J ⟨kJ, eL, ⟨es', F', hc, hl'⟩, v2, v3, rfl⟩
      rw [List.length_map, List.take_length] at hc
      exact ⟨_, rfl, q J es' F' kJ hc⟩
  · refine ⟨_, rfl, _, _, _, _, true, rfl, .own _, T.is_Counts.ty T.cl_Counts G.at_, T.ko_Counts_Counts, _, rfl, iteT ?_⟩
    refine ⟨_, rfl, a2, _, dx2, _, _, rfl, G.at_, T.cl_Counts, T.na_Counts_table, rfl, d2, _, rfl, G.tb_, fun H' l ts kp nl nt nlt eL pr => ⟨l, rfl, ⟨_, .inl (.inl eL)⟩, ?_⟩⟩
    have k0 : KpC d H H' := fun b o _ h => kp b o h
    have nld : l ≠ d := (ne_of_none F.tb_ nl).symm
    have ntd : ∀ t ∈ ts, t ≠ d := fun t ht => (ne_of_none F.tb_ (nt t ht)).symm
    have lts : ts.length = fs.length := by rw [Paired.length pr, tb_len]
    refine for_list (xs := ts.map V.ref) (fun k σ J => KpC d H' J ∧ (∃ es', CtF K J a dx d es' ∧ (∀ y, cn es' y = cn es y + cn (fs.take k) y) ∧ es'.length ≤ es.length + k) ∧ ∃ v2 v3, σ = [some (.ref a), some (.ref a2), v2, v3]) ⟨fun _ _ _ h => h, ⟨es, ⟨kp _ _ F.at_, kp _ _ F.tb_, F.ok, F.ln⟩, fun y => by simp [cn], Nat.le_refl _⟩, _, _, rfl⟩ (fun k σ J _ h => .inl (.inl (h.1 _ _ nld eL))) ?_ ?_
    · rintro k x σ J hx ⟨kJ, ⟨es', F', hc, hl'⟩, v2, v3, rfl⟩
      rw [List.getElem?_map] at hx
      obtain ⟨t, ht, rfl⟩ := Option.map_eq_some_iff.mp hx
      obtain ⟨q2, e2, et⟩ := LiI.paired_get pr ht
      obtain ⟨f, hf, rfl⟩ := tb_get e2
      have hk : k < fs.length := (List.getElem?_eq_some_iff.mp hf).1
      have eJ := kJ _ _ (ntd t (List.mem_of_getElem? ht)) et
      have f0 := G.ok.pos f (List.mem_of_getElem? hf)
      refine ⟨t, _, rfl, .inl (.inl eJ), rfl, _, _, rfl, _, _, rfl, rfl, ?_⟩
      refine ⟨_, rfl, a, _, dx, _, _, rfl, F'.at_, T.cl_Counts, T.na_Counts_table, rfl, d, rfl, .inl ⟨_, .inl F'.tb_⟩, _, rfl, _, .inl ⟨_, .inr f.1, .inl F'.tb_, rfl, rfl⟩, _, rfl, _, _, tb_getD _ _, rfl, _, rfl, a, _, dx, _, _, rfl, F'.at_, T.cl_Counts, T.na_Counts_table, rfl, _, rfl, d, _, rfl, .inl ⟨_, .inr f.1, F'.tb_, rfl, by rw [tb_len]; exact Nat.lt_of_le_of_lt (show es'.length ≤ 400 by omega) (by decide), rfl⟩, ?_⟩
      obtain ⟨F2, k2, c2⟩ := F'.add (z := f.1) (n := f.2) kJ f0 (by omega)
      refine ⟨k2, ⟨_, F2, fun y => ?_, by have := put_len es' f.1 (cn es' f.1 + f.2); omega⟩, _, _, rfl⟩
      rw [c2, hc, cn_take G.ok.nd hf]
      omega
    · rintro σ J ⟨kJ, ⟨es', F', hc, hl'⟩, v2, v3, rfl⟩
      rw [List.length_map, lts, List.take_length] at hc
      exact ⟨_, rfl, q J es' F' (fun b o n h => kJ b o n (kp b o h)) hc⟩
/-- the sum of the numbers whose names are listed -/
def selE (es : List (Str × Int)) (ws : List Str) : Int := ((es.filter fun e => decide (e.1 ∈ ws)).map Prod.snd).sum
def spShC (K : S.Frag) : Sp := Sp2 fun s x H Q E => ∃ a dx d es p vs, s = .ref a ∧ CtF K H a dx d es ∧ x = .ref p ∧ (H p = some (.lst vs) ∨ H p = some (.tup vs)) ∧ (∀ v ∈ vs, Od H v ∧ sml v) ∧
  (∀ ws : List Str, vs = ws.map V.str → (∀ z ∈ ws, isNm z = true) → (totE es = 0 → ∀ H', Same H H' → E (.ref (He.ga K "NoShare")) none H') ∧ (totE es ≠ 0 → (totE es).natAbs < 2 ^ 4000 ∧ (selE es ws).natAbs < 2 ^ 4000 ∧ ∀ J, Same H J → NewS K J (selE es ws) (totE es) Q)) ∧ ∀ b, FirstBad vs b → RaiseN K H b E
end
end W

namespace W
open PySem PySem.Spec PyProof.Rows L2
section
variable {P : Program} {w : World} {K : S.Frag} {mg : Str → Option Value} {base : Heap}
open S
/-! counts: made of a table, their operators -/
theorem cn_filt : ∀ {rows : List (Str × Int)}, (rows.map Prod.fst).Nodup → ∀ y, cn (rows.filter fun e => decide (0 < e.2)) y = if 0 < cn rows y then cn rows y else 0 := fun {rows} nd y => by
  have nd' : ((rows.filter fun e => decide (0 < e.2)).map Prod.fst).Nodup := (List.Sublist.map _ List.filter_sublist).nodup nd
  by_cases m : y ∈ rows.map Prod.fst
  · obtain ⟨e, he, rfl⟩ := List.mem_map.mp m
    rw [cn_mem nd he]
    by_cases c : 0 < e.2
    · rw [if_pos c]
      exact cn_mem nd' (List.mem_filter.mpr ⟨he, decide_eq_true c⟩)
    · rw [if_neg c]
      refine cn_out fun m2 => ?_
      obtain ⟨f, hf, ef⟩ := List.mem_map.mp m2
      obtain ⟨h1, h2⟩ := List.mem_filter.mp hf
      have : f.2 = e.2 := by rw [← cn_mem nd h1, ef, cn_mem nd he]
      rw [this] at h2
      exact c (by simpa using h2)
  · rw [cn_out m, if_neg (by decide)]
    exact cn_out fun m2 => m ((List.Sublist.map _ List.filter_sublist).subset m2)
def spMkK (K : S.Frag) : Sp := Sp3 fun s t nm H Q _ => ∃ (a dx p dt : Addr) (ob : Obj) (rows : List (Str × Int)), s = .ref a ∧ H a = some (.ins (He.ga K "Counts") dx []) ∧ t = .ref dt ∧ H dt = some (.dK (tb rows)) ∧ (rows.map Prod.fst).Nodup ∧ rows.length ≤ 400 ∧
  nm = .ref p ∧ H p = some (.frz ob (.tup [])) ∧ ∀ H' d es, KpC a H H' → H d = none → CtF K H' a dx d es → (∀ y, cn es y = if 0 < cn rows y then cn rows y else 0) → Q .non H'
theorem ok_Counts___init___kw (T : Txt K mg) : S.FnRK P w K mg base (L2.CX P w) 4 (He.fAd K ("Counts", some "__init__")) "table" (S.spStarK (spMkK K)) := by
  have G_check_names := ok_check_names (P := P) (w := w) (base := base) T
  refine S.FunD.star2K T.F_Counts___init__ sc_Counts___init__ (fun D doc pm an cdv ct a mv => rfl) (fun cdv A outer s H vs Q E hr h => ?_)
  have hu := hu_of hr
  refine ⟨_, (pss_cons (ps_expr (S.pe_fnS G_check_names (hr.mono (by decide)) rfl T.g_check_names T.F_check_names.kp (kb_check_names_1 T) (S.pasE (takes_of rfl rfl rfl rfl)) (pa_cons (pv 2) pa_nil) pk_nil rfl rfl))
      (pss_cons (ps_if (pt_cmpR op_isN (pv 1) pe_non (nomark _)) (pss_one (ps_set (i := 1) sc_Counts___init__.nd rfl (by first | exact Or.inl rfl | exact Or.inr rfl) (pe_dc (own := [("name", 3)]) (g := gName 3) (tt := tYes) rfl sc_Counts___init__.nd (S.pi_seqK (K := K) rfl (pv 2)) (blkOk_by (N := ["self", "table", "names", "name"]) (sc := defScope s_Counts___init__) (by decide +kernel)) (fun _ _ _ _ _ => (pg_name (i := 3) sc_Counts___init__.nd rfl (by first | exact Or.inl rfl | exact Or.inr rfl))) (fun _ _ _ _ _ => pts_nil) (fun _ _ _ _ _ => (pv 3)) (fun _ _ _ _ _ => (S.pe_tcount (K := K) rfl (S.hu64 hr) (pv 2) (pv 3) ⟨rfl, rfl, rfl, rfl⟩))))) pss_nil)
      (pss_one (S.ps_fldK (K := K) rfl (pv 0) (pe_lock (pe_dc (own := [("name", 3)]) (g := gName 3) rfl sc_Counts___init__.nd (pi_keys (pv 1)) (blkOk_by (N := ["self", "table", "names", "name"]) (sc := defScope s_Counts___init__) (by decide +kernel)) (fun _ _ _ _ _ => (pg_name (i := 3) sc_Counts___init__.nd rfl (by first | exact Or.inl rfl | exact Or.inr rfl))) (fun _ _ _ _ _ => pts_one (pt_cmpR op_gt (pe_dget hu (pv 1) (pv 3) (fun _ _ => rfl)) pe_int (nomark _))) (fun _ _ _ _ _ => (pv 3)) (fun _ _ _ _ _ => (pe_dget hu (pv 1) (pv 3) (fun _ _ => rfl))))) rfl)))), ?_⟩
  obtain ⟨_, _, _, rfl, a, dx, p, dt, ob, rows, rfl, ha, rfl, hd, nd, ln, rfl, hp, q⟩ := h
  refine ⟨_, rfl, rfl, rfl, _, rfl, p, [], rfl, .inr (.inl (.inr ⟨ob, hp⟩)), (fun _ h => by cases h), fun _ => ?_, fun b ⟨i, h, _⟩ => by simp at h⟩
  refine ⟨_, rfl, rfl, _, rfl, iteN (by simp) ?_⟩
  have nad : a ≠ dt := ne_of ha hd (by intro e; cases e)
  unfold tNext
  dsimp only
  unfold sFld
  refine dc_keys (d := dt) (es := rows) (p := fun e => decide (0 < e.2)) (f := fun e => e.2) hd nd (by omega) (fun J Z k z => ⟨_, rfl, z⟩) (fun _ => rfl) (fun e he J Z fz k z => ?_) (fun e he J Z z => ⟨_, rfl, z⟩) (fun e he J Z fz k z => ?_) fun D2 hD2 => ?_
  · exact ⟨_, rfl, _, rfl, dt, .int e.2, rfl, .inl ⟨tb rows, .inr e.1, .inr fz, rfl, (val_mem nd he).symm⟩, _, _, rfl, rfl, _, rfl, z⟩
  · exact ⟨_, rfl, _, rfl, dt, .int e.2, rfl, .inl ⟨tb rows, .inr e.1, .inr fz, rfl, (val_mem nd he).symm⟩, z⟩
  · have eE : ((rows.filter fun e => decide (0 < e.2)).map fun e => (e.1, e.2)) = rows.filter fun e => decide (0 < e.2) := List.map_id _
    rw [eE]
    have s2 := Same.new (o := .dK (tb (rows.filter fun e => decide (0 < e.2)))) hD2
    have na2 : a ≠ D2 := ne_of_none ha hD2
    refine ⟨_, rfl, a, _, dx, _, rfl, s2 _ _ ha, T.cl_Counts, T.na_Counts_table, by decide, ?_⟩
    exact q _ D2 _ (fun b o nb h => by rw [upd_ne nb]; exact s2 _ _ h) hD2 ⟨upd_same, by rw [upd_ne na2.symm, upd_same], ⟨(List.Sublist.map _ List.filter_sublist).nodup nd, fun e he => by simpa using (List.mem_filter.mp he).2⟩, Nat.le_trans (List.length_filter_le _ _) ln⟩ (cn_filt nd)
theorem mkCK {H : Hp} {E : XK} {Q : Hp → Prop} {x dx dt : Addr} {rows : List (Str × Int)} (nx : H x = none) (ndx : H dx = none) (hd : H dt = some (.dK (tb rows))) (nd : (rows.map Prod.fst).Nodup) (hl : rows.length ≤ 400)
    (q : ∀ H' d es, Same H H' → H d = none → CtF K H' x dx d es → (∀ y, cn es y = if 0 < cn rows y then cn rows y else 0) → Q H') :
    spStarK (spMkK K) [V.ref x, V.ref dt] (upd (upd H dx (.own x)) x (.ins (He.ga K "Counts") dx [])) (fun v H2 => v = .non ∧ Q H2) E := by
  refine ⟨_, _, rfl, fun p o np ho => ⟨_, _, _, rfl, x, dx, p, dt, o, rows, rfl, ?_, rfl, Same.new np _ _ (Same.upd (Same.new ndx) nx _ _ hd), nd, hl, rfl, upd_same, fun H' d es k ndd F hc => ⟨rfl, q H' d es (fun b o' h => k _ _ (ne_of_none h nx) ?_) ?_ F hc⟩⟩⟩
  · rw [upd_ne (fun e => by rw [e, upd_same] at np; cases np)]
    exact upd_same
  · exact Same.new np _ _ (Same.upd (Same.new ndx) nx _ _ h)
  · cases e : H d with
    | none => rfl
    | some u =>
      have := Same.new (o := .frz o (.tup [])) np _ _ (Same.upd (Same.new ndx) nx _ _ e)
      rw [this] at ndd
      cases ndd
/-- a row for each of the names -/
def rwE (ks : List Str) (g : Str → Int) : List (Str × Int) := ks.map fun z => (z, g z)
theorem rwE_keys (ks : List Str) (g : Str → Int) : (rwE ks g).map Prod.fst = ks := by unfold rwE; rw [List.map_map]; exact List.map_id ks
theorem rwE_cn {ks : List Str} {g : Str → Int} (nd : ks.Nodup) (y : Str) : cn (rwE ks g) y = if y ∈ ks then g y else 0 := by
  by_cases m : y ∈ ks
  · rw [if_pos m]
    exact cn_mem (e := (y, g y)) (by rw [rwE_keys]; exact nd) (List.mem_map.mpr ⟨y, m, rfl⟩)
  · rw [if_neg m]
    exact cn_out (by rw [rwE_keys]; exact m)
theorem rd_other {H J : Hp} {a dx d a2 dx2 d2 : Addr} {es fs : List (Str × Int)} (F : CtF K H a dx d es) (G : CtF K H a2 dx2 d2 fs) (fz : FzD J d2 fs) (k : ∀ b o, b ≠ d2 → H b = some o → J b = some o) : L2.Rd J d (.dK (tb es)) := by
  by_cases c : d = d2
  · have e : tb es = tb fs := by
      have := F.tb_
      rw [c, G.tb_] at this
      injection this with this
      injection this with this
      exact this.symm
    rw [c, e]
    exact .inr fz
  · exact .inl (k _ _ c F.tb_)
def spAddO (K : S.Frag) : Sp := Sp2 fun s t H Q _ => ∃ a dx d es a2 dx2 d2 fs, s = .ref a ∧ t = .ref a2 ∧ CtF K H a dx d es ∧ CtF K H a2 dx2 d2 fs ∧ es.length + fs.length ≤ 400 ∧
  ∀ H' p dp dd gs, Same H H' → H p = none → H dd = none → CtF K H' p dp dd gs → (∀ y, cn gs y = cn es y + cn fs y) → Q (.ref p) H'
theorem ok_Counts___add__ (T : Txt K mg) : FnOk P w K mg base (L2.CX P w) 6 (He.fAd K ("Counts", some "__add__")) (S.fdA K ("Counts", some "__add__")) ["self", "other"] (spAddO K) := by
  have G_Counts___init__ := ok_Counts___init__ (P := P) (w := w) (base := base) T
  have G_Counts___init___kw := ok_Counts___init___kw (P := P) (w := w) (base := base) T
  refine FunD.ok T.F_Counts___add__ sc_Counts___add__ (fun vs H Q E h => S.splen2 h) (fun cdv A outer s H vs Q E hr h => ?_)
  have hu := hu_of hr
  refine ⟨_, (pss_cons (ps_if (pt_not (pt_val (pe_callB (S.isiK (K := K) rfl) rfl T.n_isinstance S.boot_isinstance (pa_cons (pv 1) (pa_cons (pe_glob (v := .ref _) rfl T.g_Counts rfl) pa_nil))))) (pss_one S.ps_never) pss_nil)
      (pss_cons (ps_set (i := 2) sc_Counts___add__.nd rfl (by first | exact Or.inl rfl | exact Or.inr rfl) (pe_op op_cat (pe_callTy (call_list_dK rfl) rfl T.n_list S.boot_list (pa_cons (S.pe_fldK (K := K) rfl (pv 0) rfl) pa_nil)) (pe_lock (pe_lc (own := [("name", 3)]) (g := gName 3) rfl sc_Counts___add__.nd (pi_keys (S.pe_fldK (K := K) rfl (pv 1) rfl)) (blkOk_by (N := ["self", "other", "names", "name"]) (sc := defScope s_Counts___add__) (by decide +kernel)) (fun _ _ _ _ _ => (pg_name (i := 3) sc_Counts___add__.nd rfl (by first | exact Or.inl rfl | exact Or.inr rfl))) (fun _ _ _ _ _ => pts_one (pt_cmp (pc_dnotin hu (pv 3) (S.pe_fldK (K := K) rfl (pv 0) rfl)))) (fun _ _ _ _ _ => (pv 3))))))
      (pss_one (ps_ret (S.pe_mkRK T.mk_Counts G_Counts___init___kw (hr.mono (by decide)) rfl T.g_Counts (S.pasE (takes_of rfl rfl rfl rfl)) (pk_cons (pe_dc (own := [("name", 3)]) (g := gName 3) (tt := tYes) rfl sc_Counts___add__.nd (S.pi_seqK (K := K) rfl (pv 2)) (blkOk_by (N := ["self", "other", "names", "name"]) (sc := defScope s_Counts___add__) (by decide +kernel)) (fun _ _ _ _ _ => (pg_name (i := 3) sc_Counts___add__.nd rfl (by first | exact Or.inl rfl | exact Or.inr rfl))) (fun _ _ _ _ _ => pts_nil) (fun _ _ _ _ _ => (pv 3)) (fun _ _ _ _ _ => (pe_op op_add (pe_dget2 hu (S.pe_fldK (K := K) rfl (pv 0) rfl) (pv 3) pe_int ⟨rfl, rfl, rfl, rfl⟩) (pe_dget2 hu (S.pe_fldK (K := K) rfl (pv 1) rfl) (pv 3) pe_int ⟨rfl, rfl, rfl, rfl⟩)))) pk_nil) rfl rfl))))), ?_⟩
  obtain ⟨_, _, rfl, a, dx, d, es, a2, dx2, d2, fs, rfl, rfl, F, G, ln, q⟩ := h
  refine ⟨_, rfl, _, _, _, _, true, rfl, .own _, T.is_Counts.ty T.cl_Counts G.at_, T.ko_Counts_Counts, _, rfl, iteF ?_⟩
  refine ⟨_, rfl, a, _, dx, _, _, rfl, F.at_, T.cl_Counts, T.na_Counts_table, rfl, d, _, rfl, F.tb_, fun l1 hl1 => ?_⟩
  have s1 := Same.new (o := .lst ((tb es).map fun kv => kV kv.1)) hl1
  have F1 := F.same s1
  have G1 := G.same s1
  have el1 := upd_same (H := H) (a := l1) (o := .lst ((tb es).map fun kv => kV kv.1))
  generalize upd H l1 (.lst ((tb es).map fun kv => kV kv.1)) = H1 at s1 F1 G1 el1
  refine lc_keys (d := d2) (es := fs) (p := fun e => !(valV (tb es) (.inr e.1)).isSome) (f := fun e => .str e.1) G1.tb_ (by have := G.ln; omega) (fun J Z k z => ⟨_, rfl, a2, _, dx2, _, _, rfl, k _ _ G.ne G1.at_, T.cl_Counts, T.na_Counts_table, rfl, z⟩) (fun _ => rfl) (fun e he J Z fz k z => ?_) (fun e he J Z fz k z => ⟨_, rfl, z⟩) fun D hD => ?_
  · exact ⟨_, rfl, _, rfl, a, _, dx, _, _, rfl, k _ _ (fun e => by have := F1.at_; rw [e, G1.tb_] at this; cases this) F1.at_, T.cl_Counts, T.na_Counts_table, rfl, d, _, rfl, .inl ⟨_, .inr e.1, rd_other F1 G1 fz k, rfl, rfl⟩, _, rfl, z⟩
  have s2 := Same.new (o := .lst ((fs.filter fun e => !(valV (tb es) (.inr e.1)).isSome).map fun e => V.str e.1)) hD
  have eD := upd_same (H := H1) (a := D) (o := .lst ((fs.filter fun e => !(valV (tb es) (.inr e.1)).isSome).map fun e => V.str e.1))
  have el2 := s2 _ _ el1
  have F2 := F1.same s2
  have G2 := G1.same s2
  have s02 := s1.trans s2
  generalize upd H1 D (.lst ((fs.filter fun e => !(valV (tb es) (.inr e.1)).isSome).map fun e => V.str e.1)) = H2 at s2 eD el2 F2 G2 s02
  obtain ⟨ks, hks⟩ : ∃ ks : List Str, ks = es.map Prod.fst ++ (fs.filter fun e => !(valV (tb es) (.inr e.1)).isSome).map Prod.fst := ⟨_, rfl⟩
  have lks : ks.length ≤ 400 := by
    rw [hks, List.length_append, List.length_map, List.length_map]
    have := List.length_filter_le (fun e : Str × Int => !(valV (tb es) (.inr e.1)).isSome) fs
    omega
  have mks : ∀ y, y ∈ ks ↔ (y ∈ es.map Prod.fst ∨ y ∈ fs.map Prod.fst) := fun y => by
    rw [hks, List.mem_append]
    refine ⟨fun h => h.imp_right fun h => (List.Sublist.map _ List.filter_sublist).subset h, fun h => ?_⟩
    by_cases m : y ∈ es.map Prod.fst
    · exact .inl m
    · rcases h with h | h
      · exact .inl h
      · obtain ⟨e, he, rfl⟩ := List.mem_map.mp h
        exact .inr (List.mem_map.mpr ⟨e, List.mem_filter.mpr ⟨he, by rw [val_out m]; rfl⟩, rfl⟩)
  have ndk : ks.Nodup := by
    rw [hks]
    refine List.nodup_append.mpr ⟨F.ok.nd, (List.Sublist.map _ List.filter_sublist).nodup G.ok.nd, fun x hx y hy e => ?_⟩
    obtain ⟨f, hf, rfl⟩ := List.mem_map.mp hy
    have h2 := (List.mem_filter.mp hf).2
    obtain ⟨e', he', ee⟩ := List.mem_map.mp hx
    rw [← e, ← ee, val_mem F.ok.nd he'] at h2
    cases h2
  refine ⟨l1, D, _, _, rfl, rfl, el2, eD, ?_, fun l3 hl3 => ?_⟩
  · rw [List.length_map, tb_len, List.length_map]
    have := List.length_filter_le (fun e : Str × Int => !(valV (tb es) (.inr e.1)).isSome) fs
    exact Nat.le_trans (show _ ≤ 400 by omega) (by decide)
  have eks : ((tb es).map fun kv => kV kv.1) ++ ((fs.filter fun e => !(valV (tb es) (.inr e.1)).isSome).map fun e => V.str e.1) = ks.map V.str := by
    rw [hks, List.map_append, List.map_map, List.map_map]
    unfold tb
    rw [List.map_map]
    rfl
  rw [eks]
  have s3 := s02.trans (Same.new (o := .lst (ks.map V.str)) hl3)
  have el3 := upd_same (H := H2) (a := l3) (o := .lst (ks.map V.str))
  have F3 := F.same s3
  have G3 := G.same s3
  generalize upd H2 l3 (.lst (ks.map V.str)) = H3 at s3 el3 F3 G3
  refine ⟨_, rfl, l3, _, rfl, .inl (.inl (.inl el3)), fun It wk D2 hD2 => dc_it wk (fun k J => J = upd H3 D2 (.dK (tb (rwE (ks.take k) fun z => cn es z + cn fs z)))) rfl (fun k J _ h => by rw [h]; exact Same.new hD2) ?_ ?_⟩
  · rintro k x J J' hk rfl ⟨rfl, hx⟩
    rw [List.getElem?_map] at hx
    obtain ⟨z, hz, rfl⟩ := Option.map_eq_some_iff.mp hx
    rw [List.length_map] at hk
    have s4 := Same.new (o := .dK (tb (rwE (ks.take k) fun z => cn es z + cn fs z))) hD2
    have F4 := F3.same s4
    have G4 := G3.same s4
    refine ⟨rfl, yesT (iteT ⟨_, rfl, _, rfl, a, _, dx, _, _, rfl, F4.at_, T.cl_Counts, T.na_Counts_table, rfl, d, rfl, .inl ⟨_, .inl F4.tb_⟩, _, rfl, _, .inl ⟨_, .inr z, .inl F4.tb_, rfl, rfl⟩, _, rfl, a2, _, dx2, _, _, rfl, G4.at_, T.cl_Counts, T.na_Counts_table, rfl, d2, rfl, .inl ⟨_, .inl G4.tb_⟩, _, rfl, _, .inl ⟨_, .inr z, .inl G4.tb_, rfl, rfl⟩, _, _, tb_getD _ _, tb_getD _ _, tb (rwE (ks.take k) fun z => cn es z + cn fs z), .inr z, rfl, upd_same, ?_, ?_⟩)⟩
    · rw [tb_len]
      unfold rwE
      rw [List.length_map]
      exact Nat.lt_of_le_of_lt (List.length_take_le _ _) (Nat.lt_of_lt_of_le (show k < 400 by omega) (by decide))
    · show _ = _
      have out : z ∉ ks.take k := fun m => by
        obtain ⟨j, hj, ej⟩ := List.mem_take_iff_getElem.mp m
        have e1 : ks[j]? = some z := by rw [List.getElem?_eq_getElem (by omega), ej]
        have := (List.getElem?_inj (by omega) ndk).mp (e1.trans hz.symm)
        omega
      rw [putK_new _ (val_out (by rw [rwE_keys]; exact out)), List.take_add_one, hz]
      funext b
      by_cases c : b = D2
      · rw [c, upd_same, upd_same]
        simp [rwE, tb]
      · rw [upd_ne c, upd_ne c, upd_ne c]
  · rintro J rfl
    rw [List.length_map, List.take_length]
    have s5 := s3.trans (Same.new (o := .dK (tb (rwE ks fun z => cn es z + cn fs z))) hD2)
    refine ⟨_, rfl, fun x dx3 nx ndx ne => ?_⟩
    refine mkCK nx ndx upd_same (by rw [rwE_keys]; exact ndk) (by unfold rwE; rw [List.length_map]; exact lks) fun H' dd gs s6 ndd Fp hc => ?_
    refine q H' x dx3 dd gs (s5.trans s6) (s5.free nx) (s5.free ndd) Fp fun y => ?_
    rw [hc, rwE_cn ndk]
    have h1 := cn_nn F.ok y
    have h2 := cn_nn G.ok y
    by_cases m : y ∈ ks
    · rw [if_pos m]
      split <;> omega
    · rw [if_neg m, if_neg (by decide)]
      rw [mks] at m
      rw [cn_out fun h => m (.inl h), cn_out fun h => m (.inr h)]
      rfl
end
end W

namespace W
open PySem PySem.Spec PyProof.Rows L2
section
variable {P : Program} {w : World} {K : S.Frag} {mg : Str → Option Value} {base : Heap}
open S
/-! counts: differences and products -/
theorem ltNm_cps (a b : Str) : ltNm a b = ltCps a.cps.toList b.cps.toList := by
  unfold ltNm
  rw [PySem.W.dataLt_str, ltCps_eq]
theorem swo_nm : Swo ltNm := swo_on swo_data fun z : Str => PyData.str z
theorem rising_srt : ∀ (p : Str) (l : List Str), risingS p l = true → (∀ x ∈ l, ltNm x p = false) ∧ Srt ltNm l
  | p, [], _ => ⟨fun _ h => (by cases h), .nil⟩
  | p, x :: r, h => by
    have h' : (!ltCps x.cps.toList p.cps.toList && risingS x r) = true := h
    rw [Bool.and_eq_true] at h'
    obtain ⟨h1, h2⟩ := h'
    have h1 : ltNm x p = false := by rw [ltNm_cps]; simpa using h1
    obtain ⟨i1, i2⟩ := rising_srt x r h2
    refine ⟨fun y hy => ?_, List.pairwise_cons.mpr ⟨fun y hy => i1 y hy, i2⟩⟩
    rcases List.mem_cons.mp hy with rfl | hy
    · exact h1
    · exact swo_nm.le h1 (i1 y hy)
theorem sortedS_srt : ∀ {l : List Str}, sortedS l = true → Srt ltNm l
  | [], _ => .nil
  | x :: r, h => List.pairwise_cons.mpr ⟨fun y hy => (rising_srt x r h).1 y hy, (rising_srt x r h).2⟩
def spSubO (K : S.Frag) : Sp := Sp2 fun s t H Q E => ∃ a dx d es a2 dx2 d2 fs, s = .ref a ∧ t = .ref a2 ∧ CtF K H a dx d es ∧ CtF K H a2 dx2 d2 fs ∧ fs.length ≤ 60 ∧
  ((∀ y, cn fs y ≤ cn es y) → ∀ H' p dp dd gs, Same H H' → H p = none → H dd = none → CtF K H' p dp dd gs → (∀ y, cn gs y = cn es y - cn fs y) → Q (.ref p) H') ∧
  ∀ z, cn es z < cn fs z → (∀ y, cn es y < cn fs y → ltNm y z = false) → RaiseN K H (.str z) E
theorem ok_Counts___sub__ (T : Txt K mg) : FnOk P w K mg base (L2.CX P w) 6 (He.fAd K ("Counts", some "__sub__")) (S.fdA K ("Counts", some "__sub__")) ["self", "other"] (spSubO K) := by
  have G_NoCounts___init__ := ok_NoCounts___init__ (P := P) (w := w) (base := base) T
  have G_Counts___init__ := ok_Counts___init__ (P := P) (w := w) (base := base) T
  have G_Counts___init___kw := ok_Counts___init___kw (P := P) (w := w) (base := base) T
  refine FunD.ok T.F_Counts___sub__ sc_Counts___sub__ (fun vs H Q E h => S.splen2 h) (fun cdv A outer s H vs Q E hr h => ?_)
  have hu := hu_of hr
  refine ⟨_, (pss_cons (ps_if (pt_not (pt_val (pe_callB (S.isiK (K := K) rfl) rfl T.n_isinstance S.boot_isinstance (pa_cons (pv 1) (pa_cons (pe_glob (v := .ref _) rfl T.g_Counts rfl) pa_nil))))) (pss_one S.ps_never) pss_nil)
      (pss_cons (ps_for (S.own_of rfl) rfl (S.pi_listK (K := K) rfl (pe_callB (S.sortedSK (K := K) rfl) rfl T.n_sorted S.boot_sorted (pa_cons (pe_lock (pe_lc (own := [("name", 2)]) (g := gName 2) (tt := tYes) rfl sc_Counts___sub__.nd (pi_keys (S.pe_fldK (K := K) rfl (pv 1) rfl)) (blkOk_by (N := ["self", "other", "name"]) (sc := defScope s_Counts___sub__) (by decide +kernel)) (fun _ _ _ _ _ => (pg_name (i := 2) sc_Counts___sub__.nd rfl (by first | exact Or.inl rfl | exact Or.inr rfl))) (fun _ _ _ _ _ => pts_nil) (fun _ _ _ _ _ => (pe_callTy SkE.call_str_str rfl T.n_str S.boot_str (pa_cons (pv 2) pa_nil))))) pa_nil))) (pg_name (i := 2) sc_Counts___sub__.nd rfl (by first | exact Or.inl rfl | exact Or.inr rfl))
        (pss_one (ps_if (pt_cmpR op_gt (pe_dget hu (S.pe_fldK (K := K) rfl (pv 1) rfl) (pv 2) (fun _ _ => rfl)) (pe_dget2 hu (S.pe_fldK (K := K) rfl (pv 0) rfl) (pv 2) pe_int ⟨rfl, rfl, rfl, rfl⟩) (nomark _)) (pss_one (S.ps_raiseO rfl (takes_of rfl rfl rfl rfl) T.ox_NoCounts T.xi_NoCounts T.xt_NoCounts G_NoCounts___init__ (hr.mono (by decide)) (kb_NoCounts___init___2 T) rfl T.g_NoCounts (pa_cons (pv 2) pa_nil))) pss_nil)))
      (pss_one (ps_ret (S.pe_mkRK T.mk_Counts G_Counts___init___kw (hr.mono (by decide)) rfl T.g_Counts (S.pasE (takes_of rfl rfl rfl rfl)) (pk_cons (pe_lock (pe_dc (own := [("name", 2)]) (g := gName 2) (tt := tYes) rfl sc_Counts___sub__.nd (pi_keys (S.pe_fldK (K := K) rfl (pv 0) rfl)) (blkOk_by (N := ["self", "other", "name"]) (sc := defScope s_Counts___sub__) (by decide +kernel)) (fun _ _ _ _ _ => (pg_name (i := 2) sc_Counts___sub__.nd rfl (by first | exact Or.inl rfl | exact Or.inr rfl))) (fun _ _ _ _ _ => pts_nil) (fun _ _ _ _ _ => (pv 2)) (fun _ _ _ _ _ => (pe_op op_sub (pe_dget hu (S.pe_fldK (K := K) rfl (pv 0) rfl) (pv 2) (fun _ _ => rfl)) (pe_dget2 hu (S.pe_fldK (K := K) rfl (pv 1) rfl) (pv 2) pe_int ⟨rfl, rfl, rfl, rfl⟩))))) pk_nil) rfl rfl))))), ?_⟩
  obtain ⟨_, _, rfl, a, dx, d, es, a2, dx2, d2, fs, rfl, rfl, F, G, ln, q, ex⟩ := h
  refine ⟨_, rfl, _, _, _, _, true, rfl, .own _, T.is_Counts.ty T.cl_Counts G.at_, T.ko_Counts_Counts, _, rfl, iteF ?_⟩
  refine lc_keys (d := d2) (es := fs) (p := fun _ => true) (f := fun e => .str e.1) G.tb_ (by have := G.ln; omega) (fun J Z k z => ⟨_, rfl, a2, _, dx2, _, _, rfl, k _ _ G.ne G.at_, T.cl_Counts, T.na_Counts_table, rfl, z⟩) (fun _ => rfl) (fun e he J Z fz k z => yesT z) (fun e he J Z fz k z => ⟨_, rfl, _, rfl, z⟩) fun D hD => ?_
  have eE : ((fs.filter fun _ => true).map fun e => V.str e.1) = (fs.map Prod.fst).map V.str := by
    rw [List.filter_eq_self.mpr (fun _ _ => rfl), List.map_map]
    rfl
  rw [eE]
  have s1 := Same.new (o := .lst ((fs.map Prod.fst).map V.str)) hD
  refine ⟨D, fs.map Prod.fst, rfl, .inl (.inl upd_same), by rw [List.length_map]; omega, fun ys L pm so hL => ?_⟩
  have s2 := s1.trans (Same.new (o := .lst (ys.map V.str)) hL)
  have eL := upd_same (H := upd H D (.lst ((fs.map Prod.fst).map V.str))) (a := L) (o := .lst (ys.map V.str))
  generalize upd (upd H D (.lst ((fs.map Prod.fst).map V.str))) L (.lst (ys.map V.str)) = H2 at s2 eL
  have F2 := F.same s2
  have G2 := G.same s2
  have srt := sortedS_srt so
  refine ⟨L, rfl, ⟨_, .inl (.inl eL)⟩, for_list (xs := ys.map V.str) (fun k σ J => J = H2 ∧ (∀ y ∈ ys.take k, cn fs y ≤ cn es y) ∧ ∃ v, σ = [some (.ref a), some (.ref a2), v]) ⟨rfl, fun _ h => by simp at h, _, rfl⟩ (fun k σ J _ h => by rw [h.1]; exact .inl (.inl eL)) ?_ ?_⟩
  · rintro k x σ J hx ⟨rfl, hb, v, rfl⟩
    rw [List.getElem?_map] at hx
    obtain ⟨z, hz, rfl⟩ := Option.map_eq_some_iff.mp hx
    have mz : z ∈ fs.map Prod.fst := pm.mem_iff.mp (List.mem_of_getElem? hz)
    obtain ⟨e, he, ee⟩ := List.mem_map.mp mz
    have vz : valV (tb fs) (.inr z) = some (.int (cn fs z)) := by rw [← ee, val_mem G.ok.nd he, cn_mem G.ok.nd he]
    refine ⟨_, rfl, a2, _, dx2, _, _, rfl, G2.at_, T.cl_Counts, T.na_Counts_table, rfl, _, rfl, d2, _, rfl, .inl ⟨_, .inr z, .inl G2.tb_, rfl, vz.symm⟩, _, rfl, a, _, dx, _, _, rfl, F2.at_, T.cl_Counts, T.na_Counts_table, rfl, d, rfl, .inl ⟨_, .inl F2.tb_⟩, _, rfl, _, .inl ⟨_, .inr z, .inl F2.tb_, rfl, rfl⟩, _, _, rfl, tb_getD _ _, _, rfl, ?_⟩
    by_cases c : cn es z < cn fs z
    · refine iteY (by simpa using c) (raise_err (.str z) (fun dd H' n s e => ex z c (fun y hy => ?_) dd H' (s2.free n) (s2.trans s) e) fun R r => ⟨_, rfl, r⟩)
      have my : y ∈ ys := by
        refine pm.mem_iff.mpr ((cn_pos G.ok y).mpr ?_)
        have := cn_nn F.ok y
        omega
      obtain ⟨j, hj⟩ := List.getElem?_of_mem my
      have hjl := (List.getElem?_eq_some_iff.mp hj).1
      have hkl := (List.getElem?_eq_some_iff.mp hz).1
      by_cases jk : j < k
      · have := hb y (List.mem_take_iff_getElem.mpr ⟨j, by omega, (List.getElem?_eq_some_iff.mp hj).2⟩)
        omega
      · by_cases e : j = k
        · rw [e, hz] at hj
          injection hj with hj
          rw [hj]
          exact swo_nm.irr y
        · have := List.pairwise_iff_getElem.mp srt k j hkl hjl (by omega)
          rw [(List.getElem?_eq_some_iff.mp hz).2, (List.getElem?_eq_some_iff.mp hj).2] at this
          exact this
    · refine iteN (by simpa using c) ⟨rfl, fun y hy => ?_, _, rfl⟩
      rw [List.take_add_one, hz] at hy
      rcases List.mem_append.mp hy with h | h
      · exact hb y h
      · rw [show y = z by simpa using h]
        omega
  · rintro σ J ⟨rfl, hb, v, rfl⟩
    rw [List.length_map, List.take_length] at hb
    have le : ∀ y, cn fs y ≤ cn es y := fun y => by
      by_cases m : y ∈ fs.map Prod.fst
      · exact hb y (pm.mem_iff.mpr m)
      · rw [cn_out m]
        exact cn_nn F.ok y
    refine dc_keys (d := d) (es := es) (p := fun _ => true) (f := fun e => e.2 - cn fs e.1) F2.tb_ F.ok.nd (by have := F.ln; omega) (fun J Z k z => ⟨_, rfl, a, _, dx, _, _, rfl, k _ _ F.ne F2.at_, T.cl_Counts, T.na_Counts_table, rfl, z⟩) (fun _ => rfl) (fun e he J Z fz k z => yesT z) (fun e he J Z z => ⟨_, rfl, z⟩) (fun e he J Z fz k z => ?_) fun D2 hD2 => ?_
    · exact ⟨_, rfl, a, _, dx, _, _, rfl, k _ _ F.ne F2.at_, T.cl_Counts, T.na_Counts_table, rfl, _, rfl, d, _, rfl, .inl ⟨_, .inr e.1, .inr fz, rfl, (val_mem F.ok.nd he).symm⟩, _, rfl, a2, _, dx2, _, _, rfl, k _ _ (fun e => by have := G2.at_; rw [e, F2.tb_] at this; cases this) G2.at_, T.cl_Counts, T.na_Counts_table, rfl, d2, rfl, .inl ⟨_, rd_other G2 F2 fz k⟩, _, rfl, _, .inl ⟨_, .inr e.1, rd_other G2 F2 fz k, rfl, rfl⟩, _, _, rfl, tb_getD _ _, z⟩
    · have er : ((es.filter fun _ => true).map fun e => (e.1, e.2 - cn fs e.1)) = rwE (es.map Prod.fst) fun y => cn es y - cn fs y := by
        rw [List.filter_eq_self.mpr (fun _ _ => rfl)]
        unfold rwE
        rw [List.map_map]
        refine List.map_congr_left fun e he => ?_
        show (e.1, e.2 - cn fs e.1) = (e.1, cn es e.1 - cn fs e.1)
        rw [cn_mem F.ok.nd he]
      rw [er]
      have s5 := s2.trans (Same.new (o := .dK (tb (rwE (es.map Prod.fst) fun y => cn es y - cn fs y))) hD2)
      refine ⟨_, rfl, fun x dx3 nx ndx ne => ?_⟩
      refine mkCK nx ndx upd_same (by rw [rwE_keys]; exact F.ok.nd) (by unfold rwE; rw [List.length_map, List.length_map]; exact F.ln) fun H' dd gs s6 ndd Fp hc => ?_
      refine q le H' x dx3 dd gs (s5.trans s6) (s5.free nx) (s5.free ndd) Fp fun y => ?_
      rw [hc, rwE_cn F.ok.nd]
      have h1 := cn_nn F.ok y
      have h2 := cn_nn G.ok y
      have h3 := le y
      by_cases m : y ∈ es.map Prod.fst
      · rw [if_pos m]
        split <;> omega
      · rw [if_neg m, if_neg (by decide)]
        have := cn_out m
        omega
def spMulO (K : S.Frag) : Sp := Sp2 fun s t H Q E => ∃ a dx d es n, s = .ref a ∧ t = .int n ∧ CtF K H a dx d es ∧ (n.natAbs < 2 ^ 1000) ∧ (∀ y, (cn es y).natAbs < 2 ^ 1000) ∧
  (0 ≤ n → ∀ H' p dp dd gs, Same H H' → H p = none → H dd = none → CtF K H' p dp dd gs → (∀ y, cn gs y = cn es y * n) → Q (.ref p) H') ∧ (n < 0 → RaiseN K H (.int n) E)
theorem mul_ok {i j : Int} (h1 : i.natAbs < 2 ^ 1000) (h2 : j.natAbs < 2 ^ 1000) : CMulA i j := .inr (by
  have a := PySem.Flt.log2_lt_of (by decide : 0 < 1000) h1
  have b := PySem.Flt.log2_lt_of (by decide : 0 < 1000) h2
  show i.natAbs.log2 + j.natAbs.log2 < 1000000
  omega)
theorem ok_Counts___mul__ (T : Txt K mg) : FnOk P w K mg base (L2.CX P w) 6 (He.fAd K ("Counts", some "__mul__")) (S.fdA K ("Counts", some "__mul__")) ["self", "other"] (spMulO K) := by
  have G_is_integer := ok_is_integer (P := P) (w := w) (base := base) T
  have G_NoCounts___init__ := ok_NoCounts___init__ (P := P) (w := w) (base := base) T
  have G_Counts___init__ := ok_Counts___init__ (P := P) (w := w) (base := base) T
  have G_Counts___init___kw := ok_Counts___init___kw (P := P) (w := w) (base := base) T
  refine FunD.ok T.F_Counts___mul__ sc_Counts___mul__ (fun vs H Q E h => S.splen2 h) (fun cdv A outer s H vs Q E hr h => ?_)
  have hu := hu_of hr
  refine ⟨_, (pss_cons (ps_if (pt_not (pt_val (S.pe_fnS G_is_integer (hr.mono (by decide)) rfl T.g_is_integer T.F_is_integer.kp (kb_is_integer_1 T) S.pas0 (pa_cons (pv 1) pa_nil) pk_nil rfl rfl))) (pss_one S.ps_never) pss_nil)
      (pss_cons (ps_if (pt_cmpR op_lt (pv 1) pe_int (nomark _)) (pss_one (S.ps_raiseO rfl (takes_of rfl rfl rfl rfl) T.ox_NoCounts T.xi_NoCounts T.xt_NoCounts G_NoCounts___init__ (hr.mono (by decide)) (kb_NoCounts___init___2 T) rfl T.g_NoCounts (pa_cons (pv 1) pa_nil))) pss_nil)
      (pss_one (ps_ret (S.pe_mkRK T.mk_Counts G_Counts___init___kw (hr.mono (by decide)) rfl T.g_Counts (S.pasE (takes_of rfl rfl rfl rfl)) (pk_cons (pe_lock (pe_dc (own := [("name", 2)]) (g := gName 2) (tt := tYes) rfl sc_Counts___mul__.nd (pi_keys (S.pe_fldK (K := K) rfl (pv 0) rfl)) (blkOk_by (N := ["self", "other", "name"]) (sc := defScope s_Counts___mul__) (by decide +kernel)) (fun _ _ _ _ _ => (pg_name (i := 2) sc_Counts___mul__.nd rfl (by first | exact Or.inl rfl | exact Or.inr rfl))) (fun _ _ _ _ _ => pts_nil) (fun _ _ _ _ _ => (pv 2)) (fun _ _ _ _ _ => (pe_op S.op_mulA (pe_dget hu (S.pe_fldK (K := K) rfl (pv 0) rfl) (pv 2) (fun _ _ => rfl)) (pv 1))))) pk_nil) rfl rfl))))), ?_⟩
  obtain ⟨_, _, rfl, a, dx, d, es, n, rfl, rfl, F, bn, be, q, ex⟩ := h
  refine ⟨_, rfl, rfl, rfl, _, rfl, _, .int n, _, rfl, iteF ⟨_, rfl, _, _, rfl, rfl, _, rfl, ?_⟩⟩
  by_cases c : n < 0
  · exact iteY (by simpa using c) (raise_err (.int n) (fun dd H' n' s e => ex c dd H' n' s e) fun R r => ⟨_, rfl, r⟩)
  have n0 : 0 ≤ n := by omega
  refine iteN (by simpa using c) ?_
  unfold tNext
  dsimp only
  refine dc_keys (d := d) (es := es) (p := fun _ => true) (f := fun e => e.2 * n) F.tb_ F.ok.nd (by have := F.ln; omega) (fun J Z k z => ⟨_, rfl, a, _, dx, _, _, rfl, k _ _ F.ne F.at_, T.cl_Counts, T.na_Counts_table, rfl, z⟩) (fun _ => rfl) (fun e he J Z fz k z => yesT z) (fun e he J Z z => ⟨_, rfl, z⟩) (fun e he J Z fz k z => ?_) fun D2 hD2 => ?_
  · exact ⟨_, rfl, a, _, dx, _, _, rfl, k _ _ F.ne F.at_, T.cl_Counts, T.na_Counts_table, rfl, _, rfl, d, _, rfl, .inl ⟨_, .inr e.1, .inr fz, rfl, (val_mem F.ok.nd he).symm⟩, _, rfl, _, _, rfl, rfl, mul_ok (by have := be e.1; rw [cn_mem F.ok.nd he] at this; exact this) bn, z⟩
  · have er : ((es.filter fun _ => true).map fun e => (e.1, e.2 * n)) = rwE (es.map Prod.fst) fun y => cn es y * n := by
      rw [List.filter_eq_self.mpr (fun _ _ => rfl)]
      unfold rwE
      rw [List.map_map]
      refine List.map_congr_left fun e he => ?_
      show (e.1, e.2 * n) = (e.1, cn es e.1 * n)
      rw [cn_mem F.ok.nd he]
    rw [er]
    have s5 := Same.new (o := .dK (tb (rwE (es.map Prod.fst) fun y => cn es y * n))) hD2
    refine ⟨_, rfl, fun x dx3 nx ndx ne => ?_⟩
    refine mkCK nx ndx upd_same (by rw [rwE_keys]; exact F.ok.nd) (by unfold rwE; rw [List.length_map, List.length_map]; exact F.ln) fun H' dd gs s6 ndd Fp hc => ?_
    refine q n0 H' x dx3 dd gs (s5.trans s6) (s5.free nx) (s5.free ndd) Fp fun y => ?_
    rw [hc, rwE_cn F.ok.nd]
    have h1 := cn_nn F.ok y
    have h2 := Int.mul_nonneg h1 n0
    by_cases m : y ∈ es.map Prod.fst
    · rw [if_pos m]
      split <;> omega
    · rw [if_neg m, if_neg (by decide), cn_out m, Int.zero_mul]
theorem ok_Counts___rmul__ (T : Txt K mg) : FnOk P w K mg base (L2.CX P w) 6 (He.fAd K ("Counts", some "__rmul__")) (S.fdA K ("Counts", some "__rmul__")) ["self", "other"] (spMulO K) := by
  have G_is_integer := ok_is_integer (P := P) (w := w) (base := base) T
  have G_NoCounts___init__ := ok_NoCounts___init__ (P := P) (w := w) (base := base) T
  have G_Counts___init__ := ok_Counts___init__ (P := P) (w := w) (base := base) T
  have G_Counts___init___kw := ok_Counts___init___kw (P := P) (w := w) (base := base) T
  refine FunD.ok T.F_Counts___rmul__ sc_Counts___rmul__ (fun vs H Q E h => S.splen2 h) (fun cdv A outer s H vs Q E hr h => ?_)
  have hu := hu_of hr
  refine ⟨_, (pss_cons (ps_if (pt_not (pt_val (S.pe_fnS G_is_integer (hr.mono (by decide)) rfl T.g_is_integer T.F_is_integer.kp (kb_is_integer_1 T) S.pas0 (pa_cons (pv 1) pa_nil) pk_nil rfl rfl))) (pss_one S.ps_never) pss_nil)
      (pss_cons (ps_if (pt_cmpR op_lt (pv 1) pe_int (nomark _)) (pss_one (S.ps_raiseO rfl (takes_of rfl rfl rfl rfl) T.ox_NoCounts T.xi_NoCounts T.xt_NoCounts G_NoCounts___init__ (hr.mono (by decide)) (kb_NoCounts___init___2 T) rfl T.g_NoCounts (pa_cons (pv 1) pa_nil))) pss_nil)
      (pss_one (ps_ret (S.pe_mkRK T.mk_Counts G_Counts___init___kw (hr.mono (by decide)) rfl T.g_Counts (S.pasE (takes_of rfl rfl rfl rfl)) (pk_cons (pe_lock (pe_dc (own := [("name", 2)]) (g := gName 2) (tt := tYes) rfl sc_Counts___rmul__.nd (pi_keys (S.pe_fldK (K := K) rfl (pv 0) rfl)) (blkOk_by (N := ["self", "other", "name"]) (sc := defScope s_Counts___rmul__) (by decide +kernel)) (fun _ _ _ _ _ => (pg_name (i := 2) sc_Counts___rmul__.nd rfl (by first | exact Or.inl rfl | exact Or.inr rfl))) (fun _ _ _ _ _ => pts_nil) (fun _ _ _ _ _ => (pv 2)) (fun _ _ _ _ _ => (pe_op S.op_mulA (pe_dget hu (S.pe_fldK (K := K) rfl (pv 0) rfl) (pv 2) (fun _ _ => rfl)) (pv 1))))) pk_nil) rfl rfl))))), ?_⟩
  obtain ⟨_, _, rfl, a, dx, d, es, n, rfl, rfl, F, bn, be, q, ex⟩ := h
  refine ⟨_, rfl, rfl, rfl, _, rfl, _, .int n, _, rfl, iteF ⟨_, rfl, _, _, rfl, rfl, _, rfl, ?_⟩⟩
  by_cases c : n < 0
  · exact iteY (by simpa using c) (raise_err (.int n) (fun dd H' n' s e => ex c dd H' n' s e) fun R r => ⟨_, rfl, r⟩)
  have n0 : 0 ≤ n := by omega
  refine iteN (by simpa using c) ?_
  unfold tNext
  dsimp only
  refine dc_keys (d := d) (es := es) (p := fun _ => true) (f := fun e => e.2 * n) F.tb_ F.ok.nd (by have := F.ln; omega) (fun J Z k z => ⟨_, rfl, a, _, dx, _, _, rfl, k _ _ F.ne F.at_, T.cl_Counts, T.na_Counts_table, rfl, z⟩) (fun _ => rfl) (fun e he J Z fz k z => yesT z) (fun e he J Z z => ⟨_, rfl, z⟩) (fun e he J Z fz k z => ?_) fun D2 hD2 => ?_
  · exact ⟨_, rfl, a, _, dx, _, _, rfl, k _ _ F.ne F.at_, T.cl_Counts, T.na_Counts_table, rfl, _, rfl, d, _, rfl, .inl ⟨_, .inr e.1, .inr fz, rfl, (val_mem F.ok.nd he).symm⟩, _, rfl, _, _, rfl, rfl, mul_ok (by have := be e.1; rw [cn_mem F.ok.nd he] at this; exact this) bn, z⟩
  · have er : ((es.filter fun _ => true).map fun e => (e.1, e.2 * n)) = rwE (es.map Prod.fst) fun y => cn es y * n := by
      rw [List.filter_eq_self.mpr (fun _ _ => rfl)]
      unfold rwE
      rw [List.map_map]
      refine List.map_congr_left fun e he => ?_
      show (e.1, e.2 * n) = (e.1, cn es e.1 * n)
      rw [cn_mem F.ok.nd he]
    rw [er]
    have s5 := Same.new (o := .dK (tb (rwE (es.map Prod.fst) fun y => cn es y * n))) hD2
    refine ⟨_, rfl, fun x dx3 nx ndx ne => ?_⟩
    refine mkCK nx ndx upd_same (by rw [rwE_keys]; exact F.ok.nd) (by unfold rwE; rw [List.length_map, List.length_map]; exact F.ln) fun H' dd gs s6 ndd Fp hc => ?_
    refine q n0 H' x dx3 dd gs (s5.trans s6) (s5.free nx) (s5.free ndd) Fp fun y => ?_
    rw [hc, rwE_cn F.ok.nd]
    have h1 := cn_nn F.ok y
    have h2 := Int.mul_nonneg h1 n0
    by_cases m : y ∈ es.map Prod.fst
    · rw [if_pos m]
      split <;> omega
    · rw [if_neg m, if_neg (by decide), cn_out m, Int.zero_mul]
end
end W

namespace W
open PySem PySem.Spec PyProof.Rows L2
section
variable {P : Program} {w : World} {K : S.Frag} {mg : Str → Option Value} {base : Heap}
open S
/-! the law's own reading of counts -/
theorem totN_str {a b : Str} (h1 : PySem.W.dataLt (.str a) (.str b) = false) (h2 : PySem.W.dataLt (.str b) (.str a) = false) : a = b := by
  rw [PySem.W.dataLt_str] at h1 h2
  have e : a.cps.toList = b.cps.toList := List.le_antisymm (by simpa using h2) (by simpa using h1)
  obtain ⟨a⟩ := a
  obtain ⟨b⟩ := b
  congr 1
  exact Array.ext' e
theorem ord_names_perm {xs ys : List Str} (h : xs.Perm ys) : ordR ltNm xs = sortR ltNm ys := by
  have o : Swo ltNm := swo_on swo_data fun z : Str => PyData.str z
  refine srt_unique (ordR_srt o xs) (sortR_srt o ys) ((ordR_perm _ xs).trans (h.trans (sortR_perm _ ys).symm)) fun a _ b _ h1 h2 => totN_str h1 h2
def spWords (K : S.Frag) : Sp := Sp2 fun x y H Q _ => ∃ (a : Addr) (n M : Int), x = .ref a ∧ H a = some (.lst [.int n]) ∧ y = .int M ∧ 0 ≤ M ∧ M ≤ 20 ∧
  ∀ (L : Addr) (ws : List Str) (H' : Hp), Dr a H H' → H L = none → H' L = some (.lst (ws.map V.str)) → ws.Nodup → (ws.length : Int) = M → (∀ z ∈ ws, isNm z = true) → Q (.ref L) H'
theorem ok__law_words (T : Txt K mg) : FnOk P w K mg base (L2.CX P w) 3 (He.fAd K ("_law_words", none)) (S.fdA K ("_law_words", none)) ["_law_draw", "_law_many"] (spWords K) := by
  have G__law_name := ok__law_name (P := P) (w := w) (base := base) T
  refine FunD.ok T.F__law_words sc__law_words (fun vs H Q E h => S.splen2 h) (fun cdv A outer s H vs Q E hr h => ?_)
  have hu := hu_of hr
  refine ⟨_, (pss_cons (ps_set (i := 2) sc__law_words.nd rfl (by first | exact Or.inl rfl | exact Or.inr rfl) (pe_lst pa_nil))
      (pss_cons (ps_for (S.own_of rfl) rfl (pi_range1 rfl T.n_range (pa_cons (pv 1) pa_nil)) (pg_name (i := 3) sc__law_words.nd rfl (by first | exact Or.inl rfl | exact Or.inr rfl))
        (pss_one (ps_expr (pe_bm PySem.F.plainAttrs_list PySem.F.slot_list_append PySem.F.type_list_append mt_append (pv 2) (pa_cons (S.pe_fnS G__law_name (hr.mono (by decide)) rfl T.g__law_name T.F__law_name.kp (kb__law_name_2 T) S.pas0 (pa_cons (pv 0) (pa_cons (pv 2) pa_nil)) pk_nil rfl rfl) pa_nil)))))
      (pss_one (ps_ret (pv 2))))), ?_⟩
  obtain ⟨_, _, rfl, a, n, M, rfl, ha, rfl, M0, M1, q⟩ := h
  refine ⟨by decide, fun L hL => ?_⟩
  have naL : a ≠ L := ne_of_none ha hL
  have d0 : Dr a H (upd H L (.lst [])) := Dr.same ha (Same.new hL)
  refine ⟨_, rfl, M, rfl, by omega, by omega, for_range (n := M.toNat) (fun i σ J => Dr a H J ∧ (∃ ws : List Str, J L = some (.lst (ws.map V.str)) ∧ ws.Nodup ∧ ws.length = i ∧ ∀ z ∈ ws, isNm z = true) ∧ ∃ v, σ = [some (.ref a), some (.int M), some (.ref L), v]) ⟨d0, ⟨[], upd_same, List.nodup_nil, rfl, fun _ h => by cases h⟩, _, rfl⟩ ?_ ?_⟩
  · rintro i σ J hi ⟨d, ⟨ws, eL, nd, hl, hn⟩, v, rfl⟩
    obtain ⟨m, em⟩ := d.at_
    refine ⟨_, rfl, .inl ⟨rfl, _, .inl (.inl eL)⟩, _, rfl, _, rfl, rfl, rfl, _, _, rfl, a, L, m, ws, rfl, rfl, naL, em, eL, by omega, fun z J2 hz nz d2 => ?_⟩
    have eL2 := d2.kp _ _ naL.symm eL
    refine ⟨L, _, _, rfl, rfl, eL2, ?_, ?_⟩
    · rw [List.length_map]
      exact Nat.lt_of_lt_of_le (show ws.length < 20 by omega) (by decide)
    · refine ⟨⟨⟨_, by rw [upd_ne naL]; exact (d.trans d2).at_.choose_spec⟩, fun b o nb h => by rw [upd_ne (ne_of_none h hL)]; exact (d.trans d2).kp b o nb h⟩, ⟨ws ++ [z], by rw [upd_same, List.map_append]; rfl, ?_, by simp [hl], fun y hy => ?_⟩, _, rfl⟩
      · refine List.nodup_append.mpr ⟨nd, by simp, fun x hx y hy => ?_⟩
        rw [List.mem_singleton.mp hy]
        exact fun e => nz (e ▸ hx)
      · rcases List.mem_append.mp hy with h | h
        · exact hn y h
        · rw [List.mem_singleton.mp h]
          exact hz
  · rintro σ J ⟨d, ⟨ws, eL, nd, hl, hn⟩, v, rfl⟩
    exact ⟨_, rfl, q L ws J d hL eL nd (by omega) hn⟩
theorem nm_len8 {z : Str} (h : isNm z = true) : z.length ≤ 8 := by
  simp only [isNm, Bool.and_eq_true, decide_eq_true_eq] at h
  exact h.1.2
/-- the law's model: a number for each of the words -/
def moE (ws : List Str) (f : Str → Int) : List (Str × Int) := ws.map fun z => (z, f z)
theorem moE_keys (ws : List Str) (f : Str → Int) : (moE ws f).map Prod.fst = ws := by unfold moE; rw [List.map_map]; exact List.map_id ws
theorem moE_val {ws : List Str} {f : Str → Int} (nd : ws.Nodup) {z : Str} (h : z ∈ ws) : valV (tb (moE ws f)) (.inr z) = some (.int (f z)) :=
  val_mem (e := (z, f z)) (by rw [moE_keys]; exact nd) (List.mem_map.mpr ⟨z, h, rfl⟩)
def MoA (H : Hp) (mo : Addr) (ws : List Str) (f : Str → Int) : Prop := H mo = some (.dK (tb (moE ws f)))
def spFitC (K : S.Frag) : Sp := Sp3 fun c m w H Q _ => ∃ a dx d es mo R ws f, c = .ref a ∧ CtF K H a dx d es ∧ m = .ref mo ∧ MoA H mo ws f ∧ w = .ref R ∧ H R = some (.lst (ws.map V.str)) ∧ ws.Nodup ∧ ws.length ≤ 20 ∧ (∀ z ∈ ws, isNm z = true) ∧
  (∀ x, cn es x = if x ∈ ws then f x else 0) ∧ ∀ H', Same H H' → Q (.bl true) H'
theorem permI_sum {l m : List Int} (h : l.Perm m) : l.sum = m.sum := by
  induction h with
  | nil => rfl
  | cons x _ ih => rw [List.sum_cons, List.sum_cons, ih]
  | swap x y l => simp only [List.sum_cons]; omega
  | trans _ _ h1 h2 => exact h1.trans h2
theorem filter_sum {f : Str → Int} : ∀ {ws : List Str}, (∀ z ∈ ws, 0 ≤ f z) → ((ws.filter fun z => decide (0 < f z)).map f).sum = (ws.map f).sum
  | [], _ => rfl
  | z :: ws, h => by
    have ih := filter_sum (f := f) (ws := ws) fun y hy => h y (List.mem_cons_of_mem _ hy)
    have h0 := h z List.mem_cons_self
    rw [List.filter_cons, List.map_cons, List.sum_cons]
    by_cases c : 0 < f z
    · rw [if_pos (decide_eq_true c), List.map_cons, List.sum_cons, ih]
    · rw [if_neg (by simpa using c), ih]
      omega
theorem tot_sum {es : List (Str × Int)} {ws : List Str} {f : Str → Int} (o : OkE es) (hc : ∀ x, cn es x = if x ∈ ws then f x else 0) (pk : (es.map Prod.fst).Perm (ws.filter fun z => decide (0 < f z))) : totE es = (ws.map f).sum := by
  have e1 : es.map Prod.snd = (es.map Prod.fst).map f := by
    rw [List.map_map]
    refine List.map_congr_left fun e he => ?_
    have h1 := cn_mem o.nd he
    rw [hc] at h1
    have h2 := o.pos e he
    by_cases m : e.1 ∈ ws
    · rw [if_pos m] at h1
      exact h1.symm
    · rw [if_neg m] at h1
      omega
  unfold totE
  rw [e1, permI_sum (pk.map f)]
  refine filter_sum fun z hz => ?_
  have := cn_nn o z
  rw [hc, if_pos hz] at this
  exact this
theorem ok__law_counts_fit (T : Txt K mg) : FnOk P w K mg base (L2.CX P w) 5 (He.fAd K ("_law_counts_fit", none)) (S.fdA K ("_law_counts_fit", none)) ["_law_counts", "_law_model", "_law_words_here"] (spFitC K) := by
  have G__law_sorted := ok__law_sorted (P := P) (w := w) (base := base) T
  have G_Counts_present := ok_Counts_present (P := P) (w := w) (base := base) T
  have G_Counts___len__ := ok_Counts___len__ (P := P) (w := w) (base := base) T
  have G__law_is_integer := ok__law_is_integer (P := P) (w := w) (base := base) T
  have G_Counts_total := ok_Counts_total (P := P) (w := w) (base := base) T
  have G_Counts___getitem__ := ok_Counts___getitem__ (P := P) (w := w) (base := base) T
  have G_Counts___contains__ := ok_Counts___contains__ (P := P) (w := w) (base := base) T
  refine FunD.ok T.F__law_counts_fit sc__law_counts_fit (fun vs H Q E h => S.splen3 h) (fun cdv A outer s H vs Q E hr h => ?_)
  have hu := hu_of hr
  refine ⟨_, (pss_cons (ps_set (i := 3) sc__law_counts_fit.nd rfl (by first | exact Or.inl rfl | exact Or.inr rfl) (S.pe_fnS G__law_sorted (hr.mono (by decide)) rfl T.g__law_sorted T.F__law_sorted.kp (kb__law_sorted_1 T) S.pas0 (pa_cons (pe_lc (own := [("_law_word", 4)]) (g := gName 4) rfl sc__law_counts_fit.nd (S.pi_seqK (K := K) rfl (pv 2)) (blkOk_by (N := ["_law_counts", "_law_model", "_law_words_here", "_law_names", "_law_word"]) (sc := defScope s__law_counts_fit) (by decide +kernel)) (fun _ _ _ _ _ => (pg_name (i := 4) sc__law_counts_fit.nd rfl (by first | exact Or.inl rfl | exact Or.inr rfl))) (fun _ _ _ _ _ => pts_one (pt_cmpR op_gt (pe_dget hu (pv 1) (pv 4) (fun _ _ => rfl)) pe_int (nomark _))) (fun _ _ _ _ _ => (pv 4))) pa_nil) pk_nil rfl rfl))
      (pss_cons (ps_if (PW.pt (pw_or (pt_cmpR (S.neGK (K := K) rfl (S.hu64 hr)) (S.pe_mtS0 (pv 0) T.cl_Counts T.me_Counts_present G_Counts_present (hr.mono (by decide)) (kb_Counts_present_1 T) S.pas0  pk_nil rfl rfl) (pv 3) (nomark _)) (pw_or (pt_cmpR op_ne (pe_callB (S.call_lenO (C := He.ga K "Counts") T.me_Counts___len__.1 T.me_Counts___len__.2 (S.raw_of G_Counts___len__ (kb_Counts___len___1 T)) (hr.mono (by decide))) rfl T.n_len S.boot_len (pa_cons (pv 0) pa_nil)) (pe_callB (S.lenK (K := K) rfl) rfl T.n_len S.boot_len (pa_cons (pv 3) pa_nil)) (nomark _)) (pw_or1 (pt_not (pt_val (pe_callB (S.isiK (K := K) rfl) rfl T.n_isinstance S.boot_isinstance (pa_cons (S.pe_mtS0 (pv 0) T.cl_Counts T.me_Counts_present G_Counts_present (hr.mono (by decide)) (kb_Counts_present_1 T) S.pas0  pk_nil rfl rfl) (pa_cons (pe_bltn (v := .ty "list") rfl T.n_list S.boot_list rfl) pa_nil))))))))) (pss_one (ps_ret pe_bl)) pss_nil)
      (pss_cons (ps_if (PW.pt (pw_or (pt_not (pt_val (S.pe_fnS G__law_is_integer (hr.mono (by decide)) rfl T.g__law_is_integer T.F__law_is_integer.kp (kb__law_is_integer_1 T) S.pas0 (pa_cons (S.pe_mtS0 (pv 0) T.cl_Counts T.me_Counts_total G_Counts_total (hr.mono (by decide)) (kb_Counts_total_1 T) S.pas0  pk_nil rfl rfl) pa_nil) pk_nil rfl rfl))) (pw_or1 (pt_cmpR op_ne (S.pe_mtS0 (pv 0) T.cl_Counts T.me_Counts_total G_Counts_total (hr.mono (by decide)) (kb_Counts_total_1 T) S.pas0  pk_nil rfl rfl) (pe_callB (S.sumK (K := K) rfl rfl) rfl T.n_sum S.boot_sum (pa_cons (pe_lc (own := [("_law_word", 4)]) (g := gName 4) (tt := tYes) rfl sc__law_counts_fit.nd (S.pi_seqK (K := K) rfl (pv 2)) (blkOk_by (N := ["_law_counts", "_law_model", "_law_words_here", "_law_names", "_law_word"]) (sc := defScope s__law_counts_fit) (by decide +kernel)) (fun _ _ _ _ _ => (pg_name (i := 4) sc__law_counts_fit.nd rfl (by first | exact Or.inl rfl | exact Or.inr rfl))) (fun _ _ _ _ _ => pts_nil) (fun _ _ _ _ _ => (pe_dget hu (pv 1) (pv 4) (fun _ _ => rfl)))) pa_nil)) (nomark _))))) (pss_one (ps_ret pe_bl)) pss_nil)
      (pss_cons (ps_for (S.own_of rfl) rfl (S.pi_seqK (K := K) rfl (pv 2)) (pg_name (i := 4) sc__law_counts_fit.nd rfl (by first | exact Or.inl rfl | exact Or.inr rfl))
        (pss_cons (ps_if (PW.pt (pw_or (pt_not (pt_val (S.pe_fnS G__law_is_integer (hr.mono (by decide)) rfl T.g__law_is_integer T.F__law_is_integer.kp (kb__law_is_integer_1 T) S.pas0 (pa_cons (S.pe_ixO (C := He.ga K "Counts") T.me_Counts___getitem__.1 T.fn_Counts___getitem__ T.me_Counts___getitem__.2 (S.raw_of G_Counts___getitem__ (kb_Counts___getitem___2 T)) (hr.mono (by decide)) (S.pasE (takes_of rfl rfl rfl rfl)) (pv 0) (pv 4)) pa_nil) pk_nil rfl rfl))) (pw_or1 (pt_cmpR op_ne (S.pe_ixO (C := He.ga K "Counts") T.me_Counts___getitem__.1 T.fn_Counts___getitem__ T.me_Counts___getitem__.2 (S.raw_of G_Counts___getitem__ (kb_Counts___getitem___2 T)) (hr.mono (by decide)) (S.pasE (takes_of rfl rfl rfl rfl)) (pv 0) (pv 4)) (pe_dget hu (pv 1) (pv 4) (fun _ _ => rfl)) (nomark _))))) (pss_one (ps_ret pe_bl)) pss_nil)
      (pss_one (ps_if (pt_cmpR op_ne (pe_cmpR (S.op_inC (C := He.ga K "Counts") T.me_Counts___contains__.1 T.me_Counts___contains__.2 (S.raw_of G_Counts___contains__ (kb_Counts___contains___2 T)) (hr.mono (by decide))) (pv 4) (pv 0) rfl) (pe_cmpR op_gt (pe_dget hu (pv 1) (pv 4) (fun _ _ => rfl)) pe_int (nomark _)) (nomark _)) (pss_one (ps_ret pe_bl)) pss_nil))))
      (pss_one (ps_ret pe_bl)))))), ?_⟩
  obtain ⟨_, _, _, rfl, a, dx, d, es, mo, R, ws, f, rfl, F, rfl, hM, rfl, hR, nd, lw, hn, hc, q⟩ := h
  have pk : (es.map Prod.fst).Perm (ws.filter fun z => decide (0 < f z)) := by
    refine (List.perm_ext_iff_of_nodup F.ok.nd (nd.filter _)).mpr fun x => ?_
    rw [cn_pos F.ok, hc, List.mem_filter]
    by_cases m : x ∈ ws
    · simp [m]
    · simp [m]
  have lk : es.length = (ws.filter fun z => decide (0 < f z)).length := by rw [← pk.length_eq, List.length_map]
  -- the law's own names
  refine ⟨_, rfl, R, _, rfl, .inl (.inl (.inl hR)), fun It wk D hD => lc_seq wk (fun k J => J = upd H D (.lst (((ws.take k).filter fun z => decide (0 < f z)).map V.str))) rfl (fun k J _ h => by rw [h]; exact Same.new hD) ?_ ?_⟩
  · rintro k x J hx rfl
    rw [List.getElem?_map] at hx
    obtain ⟨z, hz, rfl⟩ := Option.map_eq_some_iff.mp hx
    have mz := List.mem_of_getElem? hz
    have hk : k < ws.length := (List.getElem?_eq_some_iff.mp hz).1
    have eM : MoA (upd H D (.lst (((ws.take k).filter fun z => decide (0 < f z)).map V.str))) mo ws f := Same.new hD _ _ hM
    refine ⟨rfl, _, rfl, _, rfl, mo, _, rfl, .inl ⟨_, .inr z, .inl eM, rfl, (moE_val nd mz).symm⟩, _, _, rfl, rfl, _, rfl, ?_⟩
    rw [List.take_add_one, hz]
    by_cases c : 0 < f z
    · refine iteY (by simpa using c) ⟨_, rfl, _, upd_same, ?_, ?_⟩
      · rw [List.length_map]
        exact Nat.lt_of_le_of_lt (Nat.le_trans (List.length_filter_le _ _) (List.length_take_le _ _)) (Nat.lt_of_lt_of_le (show k < 20 by omega) (by decide))
      · show _ = _
        rw [List.filter_append, List.map_append]
        funext b
        by_cases e : b = D
        · rw [e, upd_same, upd_same]
          simp [c]
        · rw [upd_ne e, upd_ne e, upd_ne e]
    · refine iteN (by simpa using c) ?_
      show _ = _
      rw [List.filter_append]
      simp [c]
  rintro J rfl
  rw [List.length_map, List.take_length]
  have s1 := Same.new (o := .lst ((ws.filter fun z => decide (0 < f z)).map V.str)) hD
  refine ⟨rfl, rfl, _, rfl, D, (ws.filter fun z => decide (0 < f z)).map vdN, rfl, by rw [upd_same, List.map_map]; rfl, ?_, ⟨fun z hz => ?_, fun z hz y hy => ?_⟩, fun S H2 nS s2 eS => ?_⟩
  · rw [List.length_map]
    exact Nat.le_trans (List.length_filter_le _ _) (by omega)
  · obtain ⟨n, _, rfl⟩ := List.mem_map.mp hz
    exact ⟨.str n, (fun h => by cases h), by simp [vdN, PyData.depth]⟩
  · obtain ⟨n, _, rfl⟩ := List.mem_map.mp hz
    obtain ⟨n', _, rfl⟩ := List.mem_map.mp hy
    simp [vdN, PySem.W.alike]
  have eS' : H2 S = some (.lst ((ordR ltNm (es.map Prod.fst)).map V.str)) := by
    rw [eS, ord_names_perm pk, ← sortR_map (lt := ltNm) (lt' := ltD) (f := vdN) (fun _ _ => rfl), List.map_map]
    rfl
  have s02 := s1.trans s2
  have F2 := F.same s02
  have lo : (ordR ltNm (es.map Prod.fst)).length = es.length := by rw [(ordR_perm _ _).length_eq, List.length_map]
  refine ⟨_, rfl, a, dx, _, rfl, F2.at_, rfl, rfl, rfl, _, rfl, a, dx, d, es, rfl, F2, fun L H3 nL s3 eL => ⟨_, rfl, 1, _, by decide, (eg_lsts (n := 0) (.inl (.inl eL)) (.inl (.inl (s3 _ _ eS'))) (fun _ => rfl)).ne, _, rfl, iteN (by simp) ?_⟩⟩
  have F3 := F2.same s3
  refine ⟨_, rfl, a, dx, _, rfl, F3.at_, ⟨_, rfl, a, dx, d, es, rfl, F3, _, rfl, by omega, by have := F3.ln; omega, _, rfl, _, _, rfl, lenVX (.inl (.inl (.inl (s3 _ _ eS')))), ?_⟩⟩
  rw [List.length_map, lo]
  refine ⟨rfl, _, rfl, iteN (by simp) ?_⟩
  refine ⟨_, rfl, a, dx, _, rfl, F3.at_, rfl, rfl, rfl, _, rfl, a, dx, d, es, rfl, F3, fun L2 H4 nL2 s4 eL2 => ⟨_, _, _, _, true, rfl, .ty _, .base (.lst eL2), kit_ty (by decide +kernel), _, rfl, iteF ?_⟩⟩
  have F4 := F3.same s4
  refine ⟨_, rfl, a, dx, _, rfl, F4.at_, rfl, rfl, rfl, _, rfl, a, dx, d, es, rfl, F4, fun H5 s5 => ⟨rfl, rfl, _, rfl, _, .int _, _, rfl, iteF ?_⟩⟩
  have F5 := F4.same s5
  refine ⟨_, rfl, a, dx, _, rfl, F5.at_, rfl, rfl, rfl, _, rfl, a, dx, d, es, rfl, F5, fun H6 s6 => ?_⟩
  have s06 := (((s02.trans s3).trans s4).trans s5).trans s6
  refine ⟨_, rfl, R, _, rfl, .inl (.inl (.inl (s06 _ _ hR))), fun It wk D hD => lc_seq wk (fun k J => J = upd H6 D (.lst (((ws.take k).map f).map V.int))) rfl (fun k J _ h => by rw [h]; exact Same.new hD) ?_ ?_⟩
  · rintro k x J hx rfl
    rw [List.getElem?_map] at hx
    obtain ⟨z, hz, rfl⟩ := Option.map_eq_some_iff.mp hx
    have mz := List.mem_of_getElem? hz
    have hk : k < ws.length := (List.getElem?_eq_some_iff.mp hz).1
    have eM : MoA (upd H6 D (.lst (((ws.take k).map f).map V.int))) mo ws f := Same.new hD _ _ (s06 _ _ hM)
    refine ⟨rfl, yesT (iteT ⟨_, rfl, _, rfl, mo, _, rfl, .inl ⟨_, .inr z, .inl eM, rfl, (moE_val nd mz).symm⟩, _, upd_same, ?_, ?_⟩)⟩
    · rw [List.length_map, List.length_map]
      exact Nat.lt_of_le_of_lt (List.length_take_le _ _) (Nat.lt_of_lt_of_le (show k < 20 by omega) (by decide))
    · show _ = _
      rw [List.take_add_one, hz, List.map_append, List.map_append]
      funext b
      by_cases e : b = D
      · rw [e, upd_same, upd_same]
        rfl
      · rw [upd_ne e, upd_ne e, upd_ne e]
  rintro J rfl
  rw [List.length_map, List.take_length]
  have s7 := s06.trans (Same.new (o := .lst ((ws.map f).map V.int)) hD)
  refine ⟨D, ws.map f, rfl, .inl (.inl upd_same), rfl, _, rfl, iteN (by rw [tot_sum F.ok hc pk]; simp) ?_⟩
  have F7 := F.same s7
  refine ⟨_, rfl, R, _, rfl, .inl (.inl (.inl (s7 _ _ hR))), fun It wk => for_seq wk (fun k σ J => J = upd H6 D (.lst ((ws.map f).map V.int)) ∧ ∃ v, σ = [some (.ref a), some (.ref mo), some (.ref R), some (.ref S), v]) ⟨rfl, _, rfl⟩ (fun k σ J _ h => by rw [h.1]; exact fun _ _ z => z) ?_ ?_⟩
  · rintro k x σ J hx ⟨rfl, v, rfl⟩
    rw [List.getElem?_map] at hx
    obtain ⟨z, hz, rfl⟩ := Option.map_eq_some_iff.mp hx
    have mz := List.mem_of_getElem? hz
    have nz := hn z mz
    have ez : cn es z = f z := by rw [hc, if_pos mz]
    have sz : sml (.str z) := Nat.le_trans (nm_len8 nz) (by decide)
    have nob : nmV (.str z) = false → RaiseN K (upd H6 D (.lst ((ws.map f).map V.int))) (.str z) E := fun h => by
      rw [show nmV (.str z) = true from nz] at h
      cases h
    refine ⟨_, rfl, _, rfl, a, dx, _, rfl, F7.at_, _, _, rfl, a, dx, d, es, rfl, F7, .str z, sz, fun z' hz' hn' => ?_, nob⟩
    injection hz' with hz'
    subst hz'
    refine ⟨rfl, rfl, _, rfl, _, .int _, _, rfl, iteF ?_⟩
    refine ⟨_, rfl, _, rfl, a, dx, _, rfl, F7.at_, _, _, rfl, a, dx, d, es, rfl, F7, .str z, sz, fun z' hz' hn' => ?_, nob⟩
    injection hz' with hz'
    subst hz'
    refine ⟨_, rfl, _, rfl, mo, _, rfl, .inl ⟨_, .inr z, .inl (s7 _ _ hM), rfl, (moE_val nd mz).symm⟩, rfl, _, rfl, iteN (by rw [ez]; simp) ?_⟩
    refine ⟨_, rfl, _, rfl, a, dx, _, rfl, F7.at_, _, _, rfl, a, dx, d, es, rfl, F7, .str z, sz, _, rfl, ?_⟩
    refine ⟨_, rfl, _, rfl, mo, _, rfl, .inl ⟨_, .inr z, .inl (s7 _ _ hM), rfl, (moE_val nd mz).symm⟩, _, _, rfl, rfl, rfl, _, rfl, iteN ?_ ⟨rfl, _, rfl⟩⟩
    simp only [inC, nz, Bool.true_and, ez]
    simp
  · rintro σ J ⟨rfl, v, rfl⟩
    exact q _ s7
end
end W

namespace W
open PySem PySem.Spec PyProof.Rows L2
section
variable {P : Program} {w : World} {K : S.Frag} {mg : Str → Option Value} {base : Heap}
open S
/-! two tuples of the same values are equal -/
theorem Od.self {H : Hp} {z : V} (h : Od H z) : EqOk K H 5 z z true := by
  have flat : ∀ {x : V} {d : PyData}, Dp K H x d → d.plain = true → d.depth ≤ 5 → PyData.eqv d d = true → EqOk K H 5 x x true := fun {x d} hd hp hl he => (((eg_dat hd hd hp hp).up (m := 5) (by omega)).to he).at_
  cases h with
  | int i => exact flat (.int i) rfl (by simp [PyData.depth]) (by simp [PyData.eqv])
  | non => exact flat .non rfl (by simp [PyData.depth]) (by simp [PyData.eqv])
  | bl b => exact flat (.bl b) rfl (by simp [PyData.depth]) (by simp [PyData.eqv])
  | str z => exact flat (.str z) rfl (by simp [PyData.depth]) (by simp [PyData.eqv])
  | tup h => exact eg_same
  | lst h => exact eg_same
  | dK h => exact eg_same
theorem eg_od {J : Hp} {o1 o2 : Addr} {xs : List V} (h1 : J o1 = some (.tup xs)) (h2 : J o2 = some (.tup xs)) (ho : ∀ v ∈ xs, Od J v) : EqG K J 6 (.ref o1) (.ref o2) true := by
  have pt : pairs (fun _ => true) xs xs = true := by unfold pairs; simp
  refine (eg_tup (n := 5) (e := fun _ => true) (.inl (.inl h1)) (.inl (.inl h2)) (fun i p q hp hq => ?_) (fun _ => pt)).to pt
  rw [hp] at hq
  injection hq with hq
  subst hq
  exact (ho p (List.mem_of_getElem? hp)).self
end
end W

namespace W
open PySem PySem.Spec PyProof.Rows L2
section
variable {P : Program} {w : World} {K : S.Frag} {mg : Str → Option Value} {base : Heap}
open S
/-! numbers for the names; counts of them -/
theorem moE_snoc {ws : List Str} {f : Str → Int} {z : Str} (h : z ∉ ws) : putE (moE ws f) z (f z) = moE (ws ++ [z]) f := by
  unfold putE
  rw [moE_keys, if_neg h]
  unfold moE
  rw [List.map_append]
  rfl
theorem moE_upd {ws : List Str} {f : Str → Int} {z : Str} (h : z ∈ ws) (v : Int) : putE (moE ws f) z v = moE ws (fun x => if x = z then v else f x) := by
  unfold putE
  rw [moE_keys, if_pos h]
  unfold moE
  rw [List.map_map]
  refine List.map_congr_left fun x _ => ?_
  show (if x = z then (z, v) else (x, f x)) = (x, if x = z then v else f x)
  by_cases c : x = z
  · rw [if_pos c, if_pos c, c]
  · rw [if_neg c, if_neg c]
theorem moE_congr {ws : List Str} {f g : Str → Int} (h : ∀ x ∈ ws, f x = g x) : moE ws f = moE ws g := List.map_congr_left fun x hx => by rw [h x hx]
theorem moE_lenS {ws : List Str} (l : ws.length ≤ 20) (f : Str → Int) : (tb (moE ws f)).length < sizeLine := by
  rw [tb_len]
  unfold moE
  rw [List.length_map]
  exact Nat.lt_of_le_of_lt l (by decide)
theorem out_take {ws : List Str} (nd : ws.Nodup) {k : Nat} {z : Str} (h : ws[k]? = some z) : z ∉ ws.take k := fun m => by
  obtain ⟨j, hj, ej⟩ := List.mem_take_iff_getElem.mp m
  have hk := (List.getElem?_eq_some_iff.mp h).1
  have e1 : ws[j]? = some z := by rw [List.getElem?_eq_getElem (by omega), ej]
  have := (List.getElem?_inj (by omega) nd).mp (e1.trans h.symm)
  omega
theorem mo_step {ws : List Str} (nd : ws.Nodup) {k : Nat} {z : Str} (h : ws[k]? = some z) (g : Str → Int) : putK (tb (moE (ws.take k) g)) (.inr z) (.int (g z)) = tb (moE (ws.take (k + 1)) g) := by
  rw [tb_put, moE_snoc (out_take nd h), List.take_add_one, h]
  rfl
theorem cf_len {es : List (Str × Int)} {ws : List Str} {f : Str → Int} (o : OkE es) (cf : ∀ x, cn es x = if x ∈ ws then f x else 0) : es.length ≤ ws.length := by
  have := nodup_le o.nd (m := ws) fun y hy => by
    rw [cn_pos o, cf] at hy
    by_cases m : y ∈ ws
    · exact m
    · rw [if_neg m] at hy
      exact absurd hy (by decide)
  rwa [List.length_map] at this
def Big (f : Str → Int) : Prop := ∀ x, 0 ≤ f x ∧ f x < 10 ^ 30
theorem Big.put {f : Str → Int} (h : Big f) {z : Str} {v : Int} (h0 : 0 ≤ v) (h1 : v < 10 ^ 30) : Big (fun x => if x = z then v else f x) := fun x => by
  show 0 ≤ (if x = z then v else f x) ∧ (if x = z then v else f x) < 10 ^ 30
  split
  · exact ⟨h0, h1⟩
  · exact h x
def spNums (K : S.Frag) : Sp := Sp2 fun x y H Q _ => ∃ (r R : Addr) (n : Int) (ws : List Str), x = .ref r ∧ H r = some (.lst [.int n]) ∧ y = .ref R ∧ r ≠ R ∧ H R = some (.lst (ws.map V.str)) ∧ ws.Nodup ∧ ws.length ≤ 20 ∧
  ∀ (mo : Addr) (f : Str → Int) (H' : Hp), Dr r H H' → H mo = none → MoA H' mo ws f → Big f → Q (.ref mo) H'
theorem ok__law_numbers (T : Txt K mg) : FnOk P w K mg base (L2.CX P w) 2 (He.fAd K ("_law_numbers", none)) (S.fdA K ("_law_numbers", none)) ["_law_draw", "_law_words_here"] (spNums K) := by
  have G__law_take := ok__law_take (P := P) (w := w) (base := base) T
  refine FunD.ok T.F__law_numbers sc__law_numbers (fun vs H Q E h => S.splen2 h) (fun cdv A outer s H vs Q E hr h => ?_)
  have hu := hu_of hr
  refine ⟨_, (pss_cons (ps_set (i := 2) sc__law_numbers.nd rfl (by first | exact Or.inl rfl | exact Or.inr rfl) pe_dnewK)
      (pss_cons (ps_for (S.own_of rfl) rfl (S.pi_listK (K := K) rfl (pv 1)) (pg_name (i := 3) sc__law_numbers.nd rfl (by first | exact Or.inl rfl | exact Or.inr rfl))
        (pss_cons (ps_dput hu (pv 2) (pv 3) (S.pe_fnS G__law_take (hr.mono (by decide)) rfl T.g__law_take T.F__law_take.kp (kb__law_take_2 T) S.pas0 (pa_cons (pv 0) (pa_cons pe_int pa_nil)) pk_nil rfl rfl) rfl)
      (pss_one (ps_if (pt_cmpR op_eq (S.pe_fnS G__law_take (hr.mono (by decide)) rfl T.g__law_take T.F__law_take.kp (kb__law_take_2 T) S.pas0 (pa_cons (pv 0) (pa_cons pe_int pa_nil)) pk_nil rfl rfl) pe_int (nomark _)) (pss_one (ps_dput hu (pv 2) (pv 3) (S.pe_fnS G__law_take (hr.mono (by decide)) rfl T.g__law_take T.F__law_take.kp (kb__law_take_2 T) S.pas0 (pa_cons (pv 0) (pa_cons (pe_op op_pow pe_int pe_int) pa_nil)) pk_nil rfl rfl) rfl)) pss_nil))))
      (pss_one (ps_ret (pv 2))))), ?_⟩
  obtain ⟨_, _, rfl, r, R, n, ws, rfl, hr0, rfl, ne, hR, nd, lw, q⟩ := h
  refine fun mo hmo => ?_
  have nrm : r ≠ mo := ne_of_none hr0 hmo
  have nRm : R ≠ mo := ne_of_none hR hmo
  refine ⟨_, rfl, R, rfl, ⟨_, .inl (.inl (Same.new hmo _ _ hR))⟩, for_list (xs := ws.map V.str) (fun k σ J => Dr r H J ∧ (∃ f, J mo = some (.dK (tb (moE (ws.take k) f))) ∧ Big f) ∧ ∃ v, σ = [some (.ref r), some (.ref R), some (.ref mo), v]) ⟨Dr.same hr0 (Same.new hmo), ⟨fun _ => 0, upd_same, fun _ => ⟨Int.le_refl 0, by show (0 : Int) < 10 ^ 30; decide +kernel⟩⟩, _, rfl⟩ (fun k σ J _ h => .inl (.inl (h.1.kp _ _ ne.symm hR))) ?_ ?_⟩
  · rintro k x σ J hx ⟨d, ⟨f, eM, bf⟩, v, rfl⟩
    rw [List.getElem?_map] at hx
    obtain ⟨z, hz, rfl⟩ := Option.map_eq_some_iff.mp hx
    have hk := (List.getElem?_eq_some_iff.mp hz).1
    obtain ⟨m, em⟩ := d.at_
    refine ⟨_, rfl, rfl, rfl, _, _, rfl, r, m, 4, rfl, em, rfl, by decide, by decide, fun t n1 t0 t1 => ?_⟩
    have d1 := d.trans (Dr.upd (n := n1))
    have er1 := upd_same (H := J) (a := r) (o := .lst [.int n1])
    have eM1 : (upd J r (.lst [.int n1])) mo = some (.dK (tb (moE (ws.take k) f))) := by rw [upd_ne nrm.symm]; exact eM
    generalize upd J r (.lst [.int n1]) = J1 at d1 er1 eM1
    have lt : (tb (moE (ws.take k) f)).length < sizeLine := moE_lenS (by have := List.length_take_le k ws; omega) f
    refine ⟨_, rfl, _, rfl, mo, _, rfl, .inl ⟨_, .inr z, eM1, rfl, lt, rfl⟩, ?_⟩
    have out := out_take nd hz
    have ep : putK (tb (moE (ws.take k) f)) (.inr z) (.int t) = tb (moE (ws.take (k + 1)) fun x => if x = z then t else f x) := by
      have h1 := mo_step nd hz (fun x => if x = z then t else f x)
      rw [show (if z = z then t else f z) = t from if_pos rfl] at h1
      rw [← h1]
      congr 2
      exact moE_congr fun x hx => (if_neg (fun e : x = z => out (e ▸ hx))).symm
    rw [ep]
    have t1' : t < 10 ^ 30 := Int.lt_trans t1 (by decide)
    have bf1 : Big fun x => if x = z then t else f x := bf.put t0 t1'
    generalize (fun x => if x = z then t else f x) = f1 at bf1
    have keep : ∀ {J2 : Hp} {o : HO}, Dr r H J2 → Dr r H (upd J2 mo o) := fun {J2 o} d => ⟨⟨d.at_.choose, by rw [upd_ne nrm]; exact d.at_.choose_spec⟩, fun b o nb h => by rw [upd_ne (ne_of_none h hmo)]; exact d.kp b o nb h⟩
    have d2 := keep (o := .dK (tb (moE (ws.take (k + 1)) f1))) d1
    have eM2 := upd_same (H := J1) (a := mo) (o := .dK (tb (moE (ws.take (k + 1)) f1)))
    have er2 : (upd J1 mo (.dK (tb (moE (ws.take (k + 1)) f1)))) r = some (.lst [.int n1]) := by rw [upd_ne nrm]; exact er1
    generalize upd J1 mo (.dK (tb (moE (ws.take (k + 1)) f1))) = J2 at d2 eM2 er2
    refine ⟨_, rfl, rfl, rfl, _, _, rfl, r, n1, 3, rfl, er2, rfl, by decide, by decide, fun u n2 u0 u1 => ?_⟩
    have d3 := d2.trans (Dr.upd (n := n2))
    have er3 := upd_same (H := J2) (a := r) (o := .lst [.int n2])
    have eM3 : (upd J2 r (.lst [.int n2])) mo = some (.dK (tb (moE (ws.take (k + 1)) f1))) := by rw [upd_ne nrm.symm]; exact eM2
    generalize upd J2 r (.lst [.int n2]) = J3 at d3 er3 eM3
    refine ⟨rfl, _, rfl, ite2 (fun _ => ?_) (fun _ => ⟨d3, ⟨f1, eM3, bf1⟩, _, rfl⟩)⟩
    refine ⟨_, rfl, _, _, rfl, rfl, ⟨by decide, by decide, by decide⟩, rfl, rfl, _, _, rfl, r, n2, _, rfl, er3, rfl, by decide +kernel, by decide +kernel, fun v n3 v0 v1 => ?_⟩
    have eM4 : (upd J3 r (.lst [.int n3])) mo = some (.dK (tb (moE (ws.take (k + 1)) f1))) := by rw [upd_ne nrm.symm]; exact eM3
    have mz : z ∈ ws.take (k + 1) := by rw [List.take_add_one, hz]; exact List.mem_append_right _ (by simp)
    refine ⟨_, rfl, _, rfl, mo, _, rfl, .inl ⟨_, .inr z, eM4, rfl, moE_lenS (by have := List.length_take_le (k + 1) ws; omega) f1, rfl⟩, keep (d3.trans (Dr.upd (n := n3))), ⟨fun x => if x = z then v else f1 x, ?_, bf1.put v0 (Int.lt_of_lt_of_le v1 (by decide +kernel))⟩, _, rfl⟩
    rw [upd_same, tb_put, moE_upd mz]
  · rintro σ J ⟨d, ⟨f, eM, bf⟩, v, rfl⟩
    rw [List.length_map, List.take_length] at eM
    exact ⟨_, rfl, q mo f J d hmo eM bf⟩
/-- Counts(..) of good names -/
theorem mkC0 {H : Hp} {E : XK} {Q : Hp → Prop} {x dx : Addr} (nx : H x = none) (ndx : H dx = none) (ne : dx ≠ x) (q : ∀ H' d, Same H H' → H d = none → CtF K H' x dx d [] → Q H') :
    spStar (spMkC K) .non [V.ref x] (upd (upd H dx (.own x)) x (.ins (He.ga K "Counts") dx [])) (fun v H2 => v = .non ∧ Q H2) E := by
  refine ⟨_, _, rfl, by decide, fun p o np ho => ⟨_, _, _, rfl, x, dx, p, o, _, rfl, ?_, rfl, rfl, upd_same, ho, (fun v hv => by cases hv), fun ws e hw => ?_, fun c ⟨i, h, _⟩ => by simp at h⟩⟩
  · rw [upd_ne (fun e => by rw [e, upd_same] at np; cases np)]
    exact upd_same
  · have ew : ws = [] := by cases ws with | nil => rfl | cons a l => cases e
    subst ew
    refine ⟨by decide, fun H' d es k nd F hc => ⟨rfl, ?_⟩⟩
    have e0 : es = [] := by
      cases es with
      | nil => rfl
      | cons e es0 =>
        have h1 := cn_mem F.ok.nd (List.mem_cons_self (a := e) (l := es0))
        have h2 := F.ok.pos e List.mem_cons_self
        rw [hc] at h1
        simp at h1
        omega
    subst e0
    refine q H' d (fun b o' h => k _ _ (ne_of_none h nx) ?_) ?_ F
    · exact Same.new np _ _ (Same.upd (Same.new ndx) nx _ _ h)
    · cases e : H d with
      | none => rfl
      | some u =>
        have := Same.new (o := .frz o (.tup [])) np _ _ (Same.upd (Same.new ndx) nx _ _ e)
        rw [this] at nd
        cases nd
def spMade (K : S.Frag) : Sp := Sp2 fun x y H Q _ => ∃ (mo R : Addr) (ws vs : List Str) (f : Str → Int), x = .ref mo ∧ MoA H mo ws f ∧ y = .ref R ∧ H R = some (.lst (vs.map V.str)) ∧ ws.Nodup ∧ (∀ z, z ∈ vs ↔ z ∈ ws) ∧ vs.length ≤ 20 ∧ (∀ z ∈ ws, isNm z = true) ∧ Big f ∧
  ∀ H' a dx d es, Same H H' → H a = none → H d = none → CtF K H' a dx d es → (∀ y, cn es y = if y ∈ ws then f y else 0) → Q (.ref a) H'
theorem ok__law_made (T : Txt K mg) : FnOk P w K mg base (L2.CX P w) 6 (He.fAd K ("_law_made", none)) (S.fdA K ("_law_made", none)) ["_law_model", "_law_words_here"] (spMade K) := by
  have G_Counts___init__ := ok_Counts___init__ (P := P) (w := w) (base := base) T
  have G_Counts___init___kw := ok_Counts___init___kw (P := P) (w := w) (base := base) T
  have G_Counts___setitem__ := ok_Counts___setitem__ (P := P) (w := w) (base := base) T
  refine FunD.ok T.F__law_made sc__law_made (fun vs H Q E h => S.splen2 h) (fun cdv A outer s H vs Q E hr h => ?_)
  have hu := hu_of hr
  refine ⟨_, (pss_cons (ps_set (i := 2) sc__law_made.nd rfl (by first | exact Or.inl rfl | exact Or.inr rfl) (S.pe_mkR0 T.mk_Counts G_Counts___init__ (hr.mono (by decide)) rfl T.g_Counts (S.pasE (takes_of rfl rfl rfl rfl))))
      (pss_cons (ps_for (S.own_of rfl) rfl (S.pi_listK (K := K) rfl (pv 1)) (pg_name (i := 3) sc__law_made.nd rfl (by first | exact Or.inl rfl | exact Or.inr rfl))
        (pss_one (S.ps_setO (C := He.ga K "Counts") T.nq_Counts T.me_Counts___setitem__.1 T.me_Counts___setitem__.2 (S.raw_of G_Counts___setitem__ (kb_Counts___setitem___3 T)) (hr.mono (by decide)) (S.pasE (takes_of rfl rfl rfl rfl)) (pv 2) (pv 3) (pe_dget hu (pv 0) (pv 3) (fun _ _ => rfl)))))
      (pss_one (ps_ret (pv 2))))), ?_⟩
  obtain ⟨_, _, rfl, mo, R, ws, vs, f, rfl, hM, rfl, hR, nd, mv, lv, hn, bf, q⟩ := h
  refine fun x dx nx ndx ne => ?_
  refine mkC0 nx ndx ne fun H1 d s1 nd1 F => ?_
  refine ⟨_, rfl, R, rfl, ⟨_, .inl (.inl (s1 _ _ hR))⟩, for_list (xs := vs.map V.str) (fun k σ J => KpC d H1 J ∧ (∃ es, CtF K J x dx d es ∧ ∀ y, cn es y = if y ∈ vs.take k then f y else 0) ∧ ∃ v, σ = [some (.ref mo), some (.ref R), some (.ref x), v]) ⟨fun _ _ _ h => h, ⟨[], F, fun y => by simp [cn]⟩, _, rfl⟩ (fun k σ J _ h => .inl (.inl (h.1 _ _ (ne_of_none hR nd1) (s1 _ _ hR)))) ?_ ?_⟩
  · rintro k y σ J hy ⟨kJ, ⟨es, FJ, hc⟩, v, rfl⟩
    rw [List.getElem?_map] at hy
    obtain ⟨z, hz, rfl⟩ := Option.map_eq_some_iff.mp hy
    have mz := (mv z).mp (List.mem_of_getElem? hz)
    have nz := hn z mz
    have eM : MoA J mo ws f := kJ _ _ (ne_of_none hM nd1) (s1 _ _ hM)
    have le := cf_len FJ.ok hc
    have lt : (vs.take k).length ≤ 20 := by rw [List.length_take]; omega
    refine ⟨_, rfl, _, rfl, mo, _, rfl, .inl ⟨_, .inr z, .inl eM, rfl, (moE_val nd mz).symm⟩, _, rfl, _, rfl, x, dx, _, rfl, FJ.at_, _, _, _, rfl, x, dx, d, es, rfl, FJ, by omega, .str z, Nat.le_trans (nm_len8 nz) (by decide), .int _, fun z' n ez _ en _ J2 es2 F2 k2 c2 => ⟨fun b o nb h => k2 b o nb (kJ b o nb h), ⟨es2, F2, fun y => ?_⟩, _, rfl⟩, fun h => ?_⟩
    · injection ez with ez
      injection en with en
      subst ez en
      rw [c2, List.take_add_one, hz, hc]
      by_cases c : y = z
      · rw [if_pos c, if_pos (List.mem_append_right _ (by rw [c]; simp)), c]
      · rw [if_neg c]
        by_cases m : y ∈ vs.take k
        · rw [if_pos m, if_pos (List.mem_append_left _ m)]
        · rw [if_neg m, if_neg (fun h => by rcases List.mem_append.mp h with h | h; exact m h; exact c (by simpa using h))]
    · rcases h with h | h | ⟨n, h, h'⟩
      · rw [show nmV (.str z) = true from nz] at h
        cases h
      · cases h
      · injection h with h
        have := (bf z).1
        omega
  · rintro σ J ⟨kJ, ⟨es, FJ, hc⟩, v, rfl⟩
    rw [List.length_map, List.take_length] at hc
    refine ⟨_, rfl, q J x dx d es (fun b o h => kJ _ _ (ne_of_none h nd1) (s1 _ _ h)) nx nd1 FJ fun y => ?_⟩
    rw [hc]
    by_cases m : y ∈ vs
    · rw [if_pos m, if_pos ((mv y).mp m)]
    · rw [if_neg m, if_neg (fun h => m ((mv y).mpr h))]
end
end W

namespace W
open PySem PySem.Spec PyProof.Rows L2
section
variable {P : Program} {w : World} {K : S.Frag} {mg : Str → Option Value} {base : Heap}
open S
/-! differences and products, tried -/
def spLess (K : S.Frag) : Sp := Sp2 fun s t H Q _ => ∃ a dx d es a2 dx2 d2 fs, s = .ref a ∧ t = .ref a2 ∧ CtF K H a dx d es ∧ CtF K H a2 dx2 d2 fs ∧ fs.length ≤ 60 ∧
  ((∀ y, cn fs y ≤ cn es y) → ∀ H' o p dp dd gs, Same H H' → CtF K H' p dp dd gs → (∀ y, cn gs y = cn es y - cn fs y) → H' o = some (.tup [.str "told", .ref p]) → Q (.ref o) H') ∧
  ((∃ y, cn es y < cn fs y) → ∃ z, cn es z < cn fs z ∧ (∀ y, cn es y < cn fs y → ltNm y z = false) ∧ ∀ H' o, Same H H' → H' o = some (.tup [.str "refused", .str z]) → Q (.ref o) H')
theorem ltNm_tot {a b : Str} (h1 : ltNm a b = false) (h2 : ltNm b a = false) : a = b := totN_str h1 h2
theorem ok__law_less (T : Txt K mg) : FnOk P w K mg base (L2.CX P w) 8 (He.fAd K ("_law_less", none)) (S.fdA K ("_law_less", none)) ["_law_one", "_law_other"] (spLess K) := by
  have G_Counts___sub__ := ok_Counts___sub__ (P := P) (w := w) (base := base) T
  refine FunD.ok T.F__law_less sc__law_less (fun vs H Q E h => S.splen2 h) (fun cdv A outer s H vs Q E hr h => ?_)
  have hu := hu_of hr
  refine ⟨_, (pss_cons (ps_try_as (i := 3) rfl rfl sc__law_less.nd rfl rfl ⟨rfl, by decide, .inl T.g_NoCounts⟩ takes0
        (fun W pn xe tk ow => (pss_one (ps_set (i := 2) sc__law_less.nd rfl (by first | exact Or.inl rfl | exact Or.inr rfl) (pe_tup (pa_cons pe_str (pa_cons (S.pe_binII (C := He.ga K "Counts") T.sf_Counts T.me_Counts___sub__.1 T.me_Counts___sub__.2 (S.raw_of G_Counts___sub__ (kb_Counts___sub___2 T)) (hr.mono (by decide)) (fun σ => passAt tk σ) (pv 0) (pv 1)) pa_nil))))))
        (fun a oe cls d pn hz hf => (pss_one (ps_set (i := 2) sc__law_less.nd rfl (by first | exact Or.inl rfl | exact Or.inr rfl) (pe_tup (pa_cons pe_str (pa_cons (pe_xf T.xf_NoCounts T.xn_NoCounts_name hz hf (pv 3) rfl) pa_nil)))))))
      (pss_one (ps_ret (pv 2)))), ?_⟩
  obtain ⟨_, _, rfl, a, dx, d, es, a2, dx2, d2, fs, rfl, rfl, F, G, ln, q1, q2⟩ := h
  refine ⟨_, rfl, _, rfl, a, dx, _, a2, dx2, _, rfl, rfl, F.at_, G.at_, _, _, rfl, a, dx, d, es, a2, dx2, d2, fs, rfl, rfl, F, G, ln, fun le H' p dp dd gs s1 np nd Fp hc => ⟨by show 2 ≤ sizeLine; decide, fun o ho => ⟨_, rfl, q1 le _ o p dp dd gs (s1.trans (Same.new ho)) (Fp.same (Same.new ho)) hc upd_same⟩⟩, fun z hz hf => ?_⟩
  obtain ⟨z2, hz2, hf2, q⟩ := q2 ⟨z, hz⟩
  have e : z = z2 := ltNm_tot (hf2 z hz) (hf z2 hz2)
  subst e
  intro dd H' nd s' hd
  refine ⟨true, T.xm_NoCounts_NoCounts, fun _ a0 ha0 => ?_, fun z => Bool.noConfusion z⟩
  exact ⟨_, rfl, rfl, rfl, dd, _, _, rfl, hd, (by rw [lookup_put, if_pos rfl]), by show 2 ≤ sizeLine; decide, fun k hk => ⟨_, rfl, q _ k (Same.upd s' (s'.free hk)) upd_same⟩⟩
def spTimes (K : S.Frag) : Sp := Sp3 fun s t l H Q _ => ∃ a dx d es n b, s = .ref a ∧ t = .int n ∧ l = .bl b ∧ CtF K H a dx d es ∧ (n.natAbs < 2 ^ 1000) ∧ (∀ y, (cn es y).natAbs < 2 ^ 1000) ∧
  (0 ≤ n → ∀ H' o p dp dd gs, Same H H' → CtF K H' p dp dd gs → (∀ y, cn gs y = cn es y * n) → H' o = some (.tup [.str "told", .ref p]) → Q (.ref o) H') ∧ (n < 0 → ∀ H' o, Same H H' → H' o = some (.tup [.str "refused", .int n]) → Q (.ref o) H')
theorem ok__law_times (T : Txt K mg) : FnOk P w K mg base (L2.CX P w) 8 (He.fAd K ("_law_times", none)) (S.fdA K ("_law_times", none)) ["_law_one", "_law_number", "_law_left"] (spTimes K) := by
  have G_Counts___mul__ := ok_Counts___mul__ (P := P) (w := w) (base := base) T
  have G_Counts___rmul__ := ok_Counts___rmul__ (P := P) (w := w) (base := base) T
  refine FunD.ok T.F__law_times sc__law_times (fun vs H Q E h => S.splen3 h) (fun cdv A outer s H vs Q E hr h => ?_)
  have hu := hu_of hr
  refine ⟨_, (pss_cons (ps_try_as (i := 5) rfl rfl sc__law_times.nd rfl rfl ⟨rfl, by decide, .inl T.g_NoCounts⟩ takes0
        (fun W pn xe tk ow => (pss_cons (ps_if (pt_val (pv 2)) (pss_one (ps_set (i := 3) sc__law_times.nd rfl (by first | exact Or.inl rfl | exact Or.inr rfl) (S.pe_binIN S.io_mul T.bni_mul (S.raw_of G_Counts___mul__ (kb_Counts___mul___2 T)) (hr.mono (by decide)) (S.raw_of G_Counts___rmul__ (kb_Counts___rmul___2 T)) (hr.mono (by decide)) (fun σ => passAt tk σ) (pv 1) (pv 0)))) (pss_one (ps_set (i := 3) sc__law_times.nd rfl (by first | exact Or.inl rfl | exact Or.inr rfl) (S.pe_binIN S.io_mul T.bni_mul (S.raw_of G_Counts___mul__ (kb_Counts___mul___2 T)) (hr.mono (by decide)) (S.raw_of G_Counts___rmul__ (kb_Counts___rmul___2 T)) (hr.mono (by decide)) (fun σ => passAt tk σ) (pv 0) (pv 1)))))
      (pss_one (ps_set (i := 4) sc__law_times.nd rfl (by first | exact Or.inl rfl | exact Or.inr rfl) (pe_tup (pa_cons pe_str (pa_cons (pv 3) pa_nil)))))))
        (fun a oe cls d pn hz hf => (pss_one (ps_set (i := 4) sc__law_times.nd rfl (by first | exact Or.inl rfl | exact Or.inr rfl) (pe_tup (pa_cons pe_str (pa_cons (pe_xf T.xf_NoCounts T.xn_NoCounts_name hz hf (pv 5) rfl) pa_nil)))))))
      (pss_one (ps_ret (pv 4)))), ?_⟩
  obtain ⟨_, _, _, rfl, a, dx, d, es, n, b, rfl, rfl, rfl, F, bn, be, q1, q2⟩ := h
  cases b with
  | true =>
    refine ⟨_, rfl, _, rfl, iteT ⟨_, rfl, _, rfl, .inr ⟨a, dx, _, n, rfl, rfl, F.at_, _, _, rfl, a, dx, d, es, n, rfl, rfl, F, bn, be, fun n0 H' p dp dd gs s1 np nd Fp hc => ⟨_, rfl, by show 2 ≤ sizeLine; decide, fun o ho => ⟨_, rfl, q1 n0 _ o p dp dd gs (s1.trans (Same.new ho)) (Fp.same (Same.new ho)) hc upd_same⟩⟩, fun n0 => ?_⟩⟩⟩
    intro dd H' nd s' hd
    refine ⟨true, T.xm_NoCounts_NoCounts, fun _ a0 ha0 => ?_, fun z => Bool.noConfusion z⟩
    exact ⟨_, rfl, rfl, rfl, dd, _, _, rfl, hd, (by rw [lookup_put, if_pos rfl]), by show 2 ≤ sizeLine; decide, fun k hk => ⟨_, rfl, q2 n0 _ k (Same.upd s' (s'.free hk)) upd_same⟩⟩
  | false =>
    refine ⟨_, rfl, _, rfl, iteF ⟨_, rfl, _, rfl, .inl ⟨a, dx, _, n, rfl, rfl, F.at_, _, _, rfl, a, dx, d, es, n, rfl, rfl, F, bn, be, fun n0 H' p dp dd gs s1 np nd Fp hc => ⟨_, rfl, by show 2 ≤ sizeLine; decide, fun o ho => ⟨_, rfl, q1 n0 _ o p dp dd gs (s1.trans (Same.new ho)) (Fp.same (Same.new ho)) hc upd_same⟩⟩, fun n0 => ?_⟩⟩⟩
    intro dd H' nd s' hd
    refine ⟨true, T.xm_NoCounts_NoCounts, fun _ a0 ha0 => ?_, fun z => Bool.noConfusion z⟩
    exact ⟨_, rfl, rfl, rfl, dd, _, _, rfl, hd, (by rw [lookup_put, if_pos rfl]), by show 2 ≤ sizeLine; decide, fun k hk => ⟨_, rfl, q2 n0 _ k (Same.upd s' (s'.free hk)) upd_same⟩⟩
def spProd (K : S.Frag) : Sp := Sp4 fun x t m v H Q _ => ∃ a dx d es n mo R ws f, x = .ref a ∧ CtF K H a dx d es ∧ t = .int n ∧ n.natAbs < 10 ^ 20 ∧ m = .ref mo ∧ MoA H mo ws f ∧ v = .ref R ∧ H R = some (.lst (ws.map V.str)) ∧ ws.Nodup ∧ ws.length ≤ 20 ∧ (∀ z ∈ ws, isNm z = true) ∧ Big f ∧
  (∀ x, cn es x = if x ∈ ws then f x else 0) ∧ ∀ H', Same H H' → Q (.bl true) H'
theorem big_bit {x : Int} (h0 : 0 ≤ x) (h1 : x < 10 ^ 30) : x.natAbs < 2 ^ 1000 := Nat.lt_trans (by omega : x.natAbs < 10 ^ 30) (by decide +kernel)
theorem ok__law_products_fit (T : Txt K mg) : FnOk P w K mg base (L2.CX P w) 9 (He.fAd K ("_law_products_fit", none)) (S.fdA K ("_law_products_fit", none)) ["_law_x", "_law_number", "_law_one", "_law_words_here"] (spProd K) := by
  have G__law_times := ok__law_times (P := P) (w := w) (base := base) T
  have G__law_counts_fit := ok__law_counts_fit (P := P) (w := w) (base := base) T
  refine FunD.ok T.F__law_products_fit sc__law_products_fit (fun vs H Q E h => S.splen4 h) (fun cdv A outer s H vs Q E hr h => ?_)
  have hu := hu_of hr
  refine ⟨_, (pss_cons (ps_set (i := 4) sc__law_products_fit.nd rfl (by first | exact Or.inl rfl | exact Or.inr rfl) pe_dnewK)
      (pss_cons (ps_for (S.own_of rfl) rfl (S.pi_listK (K := K) rfl (pv 3)) (pg_name (i := 5) sc__law_products_fit.nd rfl (by first | exact Or.inl rfl | exact Or.inr rfl))
        (pss_one (ps_dput hu (pv 4) (pv 5) (pe_op S.op_mulA (pe_dget hu (pv 2) (pv 5) (fun _ _ => rfl)) (pv 1)) rfl)))
      (pss_cons (ps_for (S.own_of rfl) rfl (S.pi_listK (K := K) rfl (pe_lst (pa_cons pe_bl (pa_cons pe_bl pa_nil)))) (pg_name (i := 6) sc__law_products_fit.nd rfl (by first | exact Or.inl rfl | exact Or.inr rfl))
        (pss_cons (ps_set (i := 7) sc__law_products_fit.nd rfl (by first | exact Or.inl rfl | exact Or.inr rfl) (S.pe_fnS G__law_times (hr.mono (by decide)) rfl T.g__law_times T.F__law_times.kp (kb__law_times_3 T) S.pas0 (pa_cons (pv 0) (pa_cons (pv 1) (pa_cons (pv 6) pa_nil))) pk_nil rfl rfl))
      (pss_cons (ps_if (PW.pt (pw_and (pt_cmpR op_lt (pv 1) pe_int (nomark _)) (pw_and1 (pt_cmpR (S.neGK (K := K) rfl (S.hu64 hr)) (pv 7) (pe_tup (pa_cons pe_str (pa_cons (pv 1) pa_nil))) (nomark _))))) (pss_one (ps_ret pe_bl)) pss_nil)
      (pss_one (ps_if (PW.pt (pw_and (pt_cmpR op_ge (pv 1) pe_int (nomark _)) (pw_and1 (PW.pt (pw_or (pt_cmpR (S.neGK (K := K) rfl (S.hu64 hr)) (pe_ix (S.ixK (K := K) rfl) (pv 7) pe_int (fun _ _ => rfl)) pe_str (nomark _)) (pw_or1 (pt_not (pt_val (S.pe_fnS G__law_counts_fit (hr.mono (by decide)) rfl T.g__law_counts_fit T.F__law_counts_fit.kp (kb__law_counts_fit_3 T) S.pas0 (pa_cons (pe_ix (S.ixK (K := K) rfl) (pv 7) pe_int (fun _ _ => rfl)) (pa_cons (pv 4) (pa_cons (pv 3) pa_nil))) pk_nil rfl rfl))))))))) (pss_one (ps_ret pe_bl)) pss_nil)))))
      (pss_one (ps_ret pe_bl))))), ?_⟩
  obtain ⟨_, _, _, _, rfl, a, dx, d, es, n, mo, R, ws, f, rfl, F, rfl, bn, rfl, hM, rfl, hR, nd, lw, hn, bf, cf, q⟩ := h
  have bn' : n.natAbs < 2 ^ 1000 := Nat.lt_trans bn (by decide +kernel)
  have be : ∀ y, (cn es y).natAbs < 2 ^ 1000 := fun y => by
    rw [cf]
    split
    · exact big_bit (bf y).1 (bf y).2
    · decide +kernel
  refine fun mo2 hm2 => ?_
  have s1 : ∀ o : HO, Same H (upd H mo2 o) := fun o => Same.new hm2
  refine ⟨_, rfl, R, rfl, ⟨_, .inl (.inl (s1 _ _ _ hR))⟩, for_list (xs := ws.map V.str) (fun k σ J => J = upd H mo2 (.dK (tb (moE (ws.take k) fun z => f z * n))) ∧ ∃ v, σ = [some (.ref a), some (.int n), some (.ref mo), some (.ref R), some (.ref mo2), v, none, none]) ⟨rfl, _, rfl⟩ (fun k σ J _ h => by rw [h.1]; exact .inl (.inl (s1 _ _ _ hR))) ?_ ?_⟩
  · rintro k y σ J hy ⟨rfl, v, rfl⟩
    rw [List.getElem?_map] at hy
    obtain ⟨z, hz, rfl⟩ := Option.map_eq_some_iff.mp hy
    have mz := List.mem_of_getElem? hz
    have eM : MoA (upd H mo2 (.dK (tb (moE (ws.take k) fun z => f z * n)))) mo ws f := s1 _ _ _ hM
    refine ⟨_, rfl, _, rfl, mo, _, rfl, .inl ⟨_, .inr z, .inl eM, rfl, (moE_val nd mz).symm⟩, _, rfl, _, _, rfl, rfl, mul_ok (big_bit (bf z).1 (bf z).2) bn', _, rfl, _, rfl, mo2, _, rfl, .inl ⟨_, .inr z, upd_same, rfl, moE_lenS (by rw [List.length_take]; omega) _, rfl⟩, ?_, _, rfl⟩
    rw [upd_upd, ← mo_step nd hz (fun z => f z * n)]
  rintro σ J ⟨rfl, v, rfl⟩
  rw [List.length_map, List.take_length]
  have s2 := s1 (.dK (tb (moE ws fun z => f z * n)))
  have eM2 : MoA (upd H mo2 (.dK (tb (moE ws fun z => f z * n)))) mo2 ws (fun z => f z * n) := upd_same
  generalize upd H mo2 (.dK (tb (moE ws fun z => f z * n))) = H2 at s2 eM2
  have F2 := F.same s2
  refine ⟨by show 2 ≤ sizeLine; decide, fun l hl => ⟨l, rfl, ⟨_, .inl (.inl upd_same)⟩, for_list (xs := [.bl true, .bl false]) (fun k σ J => Same H2 J ∧ J l = some (.lst [.bl true, .bl false]) ∧ ∃ v6 v7, σ = [some (.ref a), some (.int n), some (.ref mo), some (.ref R), some (.ref mo2), v, v6, v7]) ⟨Same.new hl, upd_same, _, _, rfl⟩ (fun k σ J _ h => .inl (.inl h.2.1)) ?_ ?_⟩⟩
  · rintro k y σ J hy ⟨sJ, el, v6, v7, rfl⟩
    obtain ⟨b, rfl⟩ : ∃ b, y = .bl b := by
      have := List.mem_of_getElem? hy
      simp at this
      rcases this with rfl | rfl <;> exact ⟨_, rfl⟩
    have FJ := F2.same sJ
    refine ⟨_, rfl, _, rfl, _, rfl, rfl, rfl, _, _, _, rfl, a, dx, d, es, n, b, rfl, rfl, rfl, FJ, bn', be, fun n0 H5 o p dp dd gs s5 Fp hc eo => ?_, fun n0 H5 o s5 eo => ?_⟩
    · refine ⟨_, rfl, _, _, rfl, rfl, _, rfl, iteN (by simp; omega) (iteF ?_)⟩
      refine ⟨_, rfl, _, _, rfl, rfl, _, rfl, iteY (by simp; omega) ?_⟩
      have s25 := (s2.trans sJ).trans s5
      refine ⟨_, rfl, ixT eo rfl ⟨1, _, by decide, (eg_str (n := 1)).ne, _, rfl, iteN (by simp) ?_⟩⟩
      refine ⟨_, rfl, ixT eo rfl ⟨_, rfl, _, rfl, rfl, rfl, _, _, _, rfl, p, dp, dd, gs, mo2, R, ws, fun z => f z * n, rfl, Fp, rfl, s5 _ _ (sJ _ _ eM2), rfl, s25 _ _ hR, nd, lw, hn, fun x => ?_, fun H6 s6 => ⟨_, rfl, iteF ⟨(sJ.trans s5).trans s6, s6 _ _ (s5 _ _ el), _, _, rfl⟩⟩⟩⟩
      rw [hc, cf]
      by_cases m : x ∈ ws
      · rw [if_pos m, if_pos m]
      · rw [if_neg m, if_neg m, Int.zero_mul]
    · refine ⟨_, rfl, _, _, rfl, rfl, _, rfl, iteY (by simp; omega) ?_⟩
      refine ⟨_, rfl, _, rfl, by show 2 ≤ sizeLine; decide, fun p hp => ⟨6, _, by decide, (eg_od (Same.new hp _ _ eo) upd_same (fun u hu => ?_)).ne, _, rfl, iteN (by decide) ?_⟩⟩
      · simp only [List.mem_cons, List.not_mem_nil, or_false] at hu
        rcases hu with rfl | rfl
        · exact .str _
        · exact .int _
      · refine ⟨_, rfl, _, _, rfl, rfl, _, rfl, iteN (by simp; omega) (iteF ⟨(sJ.trans s5).trans (Same.new hp), Same.new hp _ _ (s5 _ _ el), _, _, rfl⟩)⟩
  · rintro σ J ⟨sJ, el, v6, v7, rfl⟩
    exact q J (s2.trans sJ)
end
end W

namespace W
open PySem PySem.Spec PyProof.Rows L2
section
variable {P : Program} {w : World} {K : S.Frag} {mg : Str → Option Value} {base : Heap}
open S
theorem mo_eq {ws : List Str} {f g : Str → Int} (nd : ws.Nodup) : (decide ((tb (moE ws f)).length = (tb (moE ws g)).length) && hitsV eqV (tb (moE ws f)) (tb (moE ws g))) = true ↔ ∀ x ∈ ws, f x = g x := by
  have hl : (tb (moE ws f)).length = (tb (moE ws g)).length := by rw [tb_len, tb_len]; unfold moE; rw [List.length_map, List.length_map]
  rw [decide_eq_true hl, Bool.true_and]
  unfold hitsV
  rw [List.all_eq_true]
  refine ⟨fun h x hx => ?_, fun h p hp => ?_⟩
  · have := h (.inr x, .int (f x)) (List.mem_map.mpr ⟨(x, f x), List.mem_map.mpr ⟨x, hx, rfl⟩, rfl⟩)
    rw [moE_val nd hx] at this
    have h2 : (f x == g x) = true := this
    exact eq_of_beq h2
  · obtain ⟨e, he, rfl⟩ := List.mem_map.mp hp
    obtain ⟨x, hx, rfl⟩ := List.mem_map.mp he
    show (match valV (tb (moE ws g)) (.inr x) with | some y => eqV (V.int (f x)) y | none => false) = true
    rw [moE_val nd hx, h x hx]
    show (g x == g x) = true
    simp
theorem mo_cmp {H : Hp} {m1 m2 : Addr} {ws : List Str} {f g : Str → Int} (h1 : MoA H m1 ws f) (h2 : MoA H m2 ws g) (nd : ws.Nodup) {b : Bool} (hb : b = true ↔ ∀ x ∈ ws, f x = g x) : RcOk K H 2 (.ref m1) (.ref m2) b ∧ NeOk K H 2 (.ref m1) (.ref m2) b := by
  have e : b = (decide ((tb (moE ws f)).length = (tb (moE ws g)).length) && hitsV eqV (tb (moE ws f)) (tb (moE ws g))) := by
    rw [Bool.eq_iff_iff, hb, mo_eq nd]
  rw [e]
  exact eg_dict (n := 1) (f := eqV) h1 h2 fun p hp z hz => by
    obtain ⟨e, he, rfl⟩ := List.mem_map.mp hp
    obtain ⟨y, hy, rfl⟩ := List.mem_map.mp he
    have h2 : valV (tb (moE ws g)) (.inr y) = some z := hz
    rw [moE_val nd hy] at h2
    injection h2 with h2
    rw [← h2]
    exact eg_flat rfl rfl
theorem le_of {es fs : List (Str × Int)} {ws : List Str} {f g : Str → Int} (o : OkE es) (bg : Big g) (cf : ∀ x, cn es x = if x ∈ ws then f x else 0) (cg : ∀ x, cn fs x = if x ∈ ws then g x else 0) :
    (es.all fun e => decide (e.2 ≤ cn fs e.1)) = decide ((ws.filter fun z => decide (g z < f z)) = []) := by
  rw [Bool.eq_iff_iff, List.all_eq_true, decide_eq_true_eq, List.filter_eq_nil_iff]
  refine ⟨fun h z hz => ?_, fun h e he => ?_⟩
  · have c1 := cf z
    have c2 := cg z
    rw [if_pos hz] at c1 c2
    by_cases p : 0 < f z
    · obtain ⟨e, he, ee⟩ := List.mem_map.mp ((cn_pos o z).mpr (by rw [c1]; exact p))
      have h1 := of_decide_eq_true (h e he)
      have h2 := cn_mem o.nd he
      rw [ee] at h1 h2
      simp
      omega
    · have := (bg z).1
      simp
      omega
  · have h1 := cn_mem o.nd he
    have h2 := o.pos e he
    rw [cf] at h1
    by_cases m : e.1 ∈ ws
    · rw [if_pos m] at h1
      have h3 := h _ m
      have c2 := cg e.1
      rw [if_pos m] at c2
      rw [c2]
      simp at h3
      exact decide_eq_true (by omega)
    · rw [if_neg m] at h1
      omega
def spOrder (K : S.Frag) : Sp := Sp5 fun x y m1 m2 v H Q _ => ∃ a dx d es a2 dx2 d2 fs mo1 mo2 R ws f g, x = .ref a ∧ y = .ref a2 ∧ CtF K H a dx d es ∧ CtF K H a2 dx2 d2 fs ∧ m1 = .ref mo1 ∧ MoA H mo1 ws f ∧ m2 = .ref mo2 ∧ MoA H mo2 ws g ∧ v = .ref R ∧ H R = some (.lst (ws.map V.str)) ∧ ws.Nodup ∧ ws.length ≤ 20 ∧ (∀ z ∈ ws, isNm z = true) ∧ Big f ∧ Big g ∧
  (∀ x, cn es x = if x ∈ ws then f x else 0) ∧ (∀ x, cn fs x = if x ∈ ws then g x else 0) ∧ ∀ H', Same H H' → Q (.bl true) H'
theorem ok__law_order_fits (T : Txt K mg) : FnOk P w K mg base (L2.CX P w) 9 (He.fAd K ("_law_order_fits", none)) (S.fdA K ("_law_order_fits", none)) ["_law_x", "_law_y", "_law_one", "_law_other", "_law_words_here"] (spOrder K) := by
  have G__law_sorted := ok__law_sorted (P := P) (w := w) (base := base) T
  have G_Counts___le__ := ok_Counts___le__ (P := P) (w := w) (base := base) T
  have G_Counts___eq__ := ok_Counts___eq__ (P := P) (w := w) (base := base) T
  have G__law_less := ok__law_less (P := P) (w := w) (base := base) T
  have G_Counts___add__ := ok_Counts___add__ (P := P) (w := w) (base := base) T
  have G__law_counts_fit := ok__law_counts_fit (P := P) (w := w) (base := base) T
  refine FunD.ok T.F__law_order_fits sc__law_order_fits (fun vs H Q E h => S.splen5 h) (fun cdv A outer s H vs Q E hr h => ?_)
  have hu := hu_of hr
  refine ⟨_, (pss_cons (ps_setLc (i := 5) (own := [("_law_word", 6)]) (g := gName 6) rfl sc__law_order_fits.nd rfl rfl (sw_true rfl rfl rfl (by decide +kernel)) (S.pi_seqK (K := K) rfl (pv 4)) (blkOk_by (N := ["_law_x", "_law_y", "_law_one", "_law_other", "_law_words_here", "_law_above", "_law_word", "_law_below", "_law_outcome", "_law_rest"]) (sc := defScope s__law_order_fits) (by decide +kernel)) (fun _ _ _ _ _ => (pg_name (i := 6) sc__law_order_fits.nd rfl (by first | exact Or.inl rfl | exact Or.inr rfl))) (fun _ _ _ _ _ => pts_one (pt_cmpR op_gt (pe_dget hu (pv 2) (pv 6) (fun _ _ => rfl)) (pe_dget hu (pv 3) (pv 6) (fun _ _ => rfl)) (nomark _))) (fun _ _ _ _ _ => (pv 6)))
      (pss_cons (ps_set (i := 7) sc__law_order_fits.nd rfl (by first | exact Or.inl rfl | exact Or.inr rfl) (S.pe_fnS G__law_sorted (hr.mono (by decide)) rfl T.g__law_sorted T.F__law_sorted.kp (kb__law_sorted_1 T) S.pas0 (pa_cons (pe_lc (own := [("_law_word", 6)]) (g := gName 6) rfl sc__law_order_fits.nd (S.pi_seqK (K := K) rfl (pv 4)) (blkOk_by (N := ["_law_x", "_law_y", "_law_one", "_law_other", "_law_words_here", "_law_above", "_law_word", "_law_below", "_law_outcome", "_law_rest"]) (sc := defScope s__law_order_fits) (by decide +kernel)) (fun _ _ _ _ _ => (pg_name (i := 6) sc__law_order_fits.nd rfl (by first | exact Or.inl rfl | exact Or.inr rfl))) (fun _ _ _ _ _ => pts_one (pt_cmpR op_lt (pe_dget hu (pv 2) (pv 6) (fun _ _ => rfl)) (pe_dget hu (pv 3) (pv 6) (fun _ _ => rfl)) (nomark _))) (fun _ _ _ _ _ => (pv 6))) pa_nil) pk_nil rfl rfl))
      (pss_cons (ps_if (PW.pt (pw_or (pt_cmpR op_ne (pe_cmpR (S.op_ownI (C := He.ga K "Counts") S.hop_le T.me_Counts___le__.1 T.me_Counts___le__.2 (S.raw_of G_Counts___le__ (kb_Counts___le___2 T)) (hr.mono (by decide))) (pv 0) (pv 1) (nomark _)) (pe_cmpR (S.eqGK (K := K) rfl (S.hu64 hr)) (pv 5) (pe_lst pa_nil) (nomark _)) (nomark _)) (pw_or1 (pt_cmpR op_ne (pe_cmpR (S.op_ownI (C := He.ga K "Counts") S.hop_le T.me_Counts___le__.1 T.me_Counts___le__.2 (S.raw_of G_Counts___le__ (kb_Counts___le___2 T)) (hr.mono (by decide))) (pv 1) (pv 0) (nomark _)) (pe_cmpR (S.eqGK (K := K) rfl (S.hu64 hr)) (pv 7) (pe_lst pa_nil) (nomark _)) (nomark _))))) (pss_one (ps_ret pe_bl)) pss_nil)
      (pss_cons (ps_if (PW.pt (pw_or (pt_cmpR op_ne (pe_cmpR (S.op_ownI (C := He.ga K "Counts") S.hop_eq T.me_Counts___eq__.1 T.me_Counts___eq__.2 (S.raw_of G_Counts___eq__ (kb_Counts___eq___2 T)) (hr.mono (by decide))) (pv 0) (pv 1) (nomark _)) (pe_cmpR (S.eqGK (K := K) rfl (S.hu64 hr)) (pv 2) (pv 3) (nomark _)) (nomark _)) (pw_or1 (pt_cmpR op_ne (pe_cmpR (S.op_neI (C := He.ga K "Counts") T.ne_Counts T.is_Counts.hm T.me_Counts___eq__.1 T.me_Counts___eq__.2 (S.raw_of G_Counts___eq__ (kb_Counts___eq___2 T)) (hr.mono (by decide))) (pv 0) (pv 1) (nomark _)) (pe_cmpR (S.neGK (K := K) rfl (S.hu64 hr)) (pv 2) (pv 3) (nomark _)) (nomark _))))) (pss_one (ps_ret pe_bl)) pss_nil)
      (pss_cons (ps_set (i := 8) sc__law_order_fits.nd rfl (by first | exact Or.inl rfl | exact Or.inr rfl) (S.pe_fnS G__law_less (hr.mono (by decide)) rfl T.g__law_less T.F__law_less.kp (kb__law_less_2 T) S.pas0 (pa_cons (pv 0) (pa_cons (pv 1) pa_nil)) pk_nil rfl rfl))
      (pss_cons (ps_if (pt_cmpR (S.neGK (K := K) rfl (S.hu64 hr)) (pv 7) (pe_lst pa_nil) (nomark _)) (pss_one (ps_ret (pe_cmpR (S.eqGK (K := K) rfl (S.hu64 hr)) (pv 8) (pe_tup (pa_cons pe_str (pa_cons (pe_ix (S.ixK (K := K) rfl) (pv 7) pe_int (fun _ _ => rfl)) pa_nil))) (nomark _)))) pss_nil)
      (pss_cons (ps_if (PW.pt (pw_or (pt_cmpR (S.neGK (K := K) rfl (S.hu64 hr)) (pe_ix (S.ixK (K := K) rfl) (pv 8) pe_int (fun _ _ => rfl)) pe_str (nomark _)) (pw_or1 (pt_cmpR (S.op_neI (C := He.ga K "Counts") T.ne_Counts T.is_Counts.hm T.me_Counts___eq__.1 T.me_Counts___eq__.2 (S.raw_of G_Counts___eq__ (kb_Counts___eq___2 T)) (hr.mono (by decide))) (S.pe_binII (C := He.ga K "Counts") T.sf_Counts T.me_Counts___add__.1 T.me_Counts___add__.2 (S.raw_of G_Counts___add__ (kb_Counts___add___2 T)) (hr.mono (by decide)) S.pas0 (pe_ix (S.ixK (K := K) rfl) (pv 8) pe_int (fun _ _ => rfl)) (pv 1)) (pv 0) (nomark _))))) (pss_one (ps_ret pe_bl)) pss_nil)
      (pss_cons (ps_set (i := 9) sc__law_order_fits.nd rfl (by first | exact Or.inl rfl | exact Or.inr rfl) pe_dnewK)
      (pss_cons (ps_for (S.own_of rfl) rfl (S.pi_listK (K := K) rfl (pv 4)) (pg_name (i := 6) sc__law_order_fits.nd rfl (by first | exact Or.inl rfl | exact Or.inr rfl))
        (pss_one (ps_dput hu (pv 9) (pv 6) (pe_op op_sub (pe_dget hu (pv 2) (pv 6) (fun _ _ => rfl)) (pe_dget hu (pv 3) (pv 6) (fun _ _ => rfl))) rfl)))
      (pss_one (ps_ret (S.pe_fnS G__law_counts_fit (hr.mono (by decide)) rfl T.g__law_counts_fit T.F__law_counts_fit.kp (kb__law_counts_fit_3 T) S.pas0 (pa_cons (pe_ix (S.ixK (K := K) rfl) (pv 8) pe_int (fun _ _ => rfl)) (pa_cons (pv 9) (pa_cons (pv 4) pa_nil))) pk_nil rfl rfl)))))))))))), ?_⟩
  obtain ⟨_, _, _, _, _, rfl, a, dx, d, es, a2, dx2, d2, fs, mo1, mo2, R, ws, f, g, rfl, rfl, F, G, rfl, hM1, rfl, hM2, rfl, hR, nd, lw, hn, bf, bg, cf, cg, q⟩ := h
  -- the names above
  refine ⟨_, rfl, R, _, rfl, .inl (.inl (.inl hR)), fun It wk D hD => lc_seq wk (fun k J => J = upd H D (.lst (((ws.take k).filter fun z => decide (g z < f z)).map V.str))) rfl (fun k J _ h => by rw [h]; exact Same.new hD) ?_ ?_⟩
  · rintro k x J hx rfl
    rw [List.getElem?_map] at hx
    obtain ⟨z, hz, rfl⟩ := Option.map_eq_some_iff.mp hx
    have mz := List.mem_of_getElem? hz
    have hk : k < ws.length := (List.getElem?_eq_some_iff.mp hz).1
    have s1 := Same.new (H := H) (o := .lst (((ws.take k).filter fun z => decide (g z < f z)).map V.str)) hD
    have e1 : MoA (upd H D (.lst (((ws.take k).filter fun z => decide (g z < f z)).map V.str))) mo1 ws f := s1 _ _ hM1
    have e2 : MoA (upd H D (.lst (((ws.take k).filter fun z => decide (g z < f z)).map V.str))) mo2 ws g := s1 _ _ hM2
    refine ⟨rfl, _, rfl, _, rfl, mo1, _, rfl, .inl ⟨_, .inr z, .inl e1, rfl, (moE_val nd mz).symm⟩, _, rfl, _, rfl, mo2, _, rfl, .inl ⟨_, .inr z, .inl e2, rfl, (moE_val nd mz).symm⟩, _, _, rfl, rfl, _, rfl, ?_⟩
    rw [List.take_add_one, hz]
    by_cases c : g z < f z
    · refine iteY (by simpa using c) ⟨_, rfl, _, upd_same, ?_, ?_⟩
      · rw [List.length_map]
        exact Nat.lt_of_le_of_lt (Nat.le_trans (List.length_filter_le _ _) (List.length_take_le _ _)) (Nat.lt_of_lt_of_le (show k < 20 by omega) (by decide))
      · show _ = _
        rw [List.filter_append, List.map_append]
        funext b
        by_cases e : b = D
        · rw [e, upd_same, upd_same]
          simp [c]
        · rw [upd_ne e, upd_ne e, upd_ne e]
    · refine iteN (by simpa using c) ?_
      show _ = _
      rw [List.filter_append]
      simp [c]
  rintro J rfl
  rw [List.length_map, List.take_length]
  have s1 := Same.new (H := H) (o := .lst ((ws.filter fun z => decide (g z < f z)).map V.str)) hD
  have eA := upd_same (H := H) (a := D) (o := .lst ((ws.filter fun z => decide (g z < f z)).map V.str))
  generalize upd H D (.lst ((ws.filter fun z => decide (g z < f z)).map V.str)) = H1 at s1 eA
  -- the names below
  refine ⟨_, rfl, R, _, rfl, .inl (.inl (.inl (s1 _ _ hR))), fun It wk D2 hD2 => lc_seq wk (fun k J => J = upd H1 D2 (.lst (((ws.take k).filter fun z => decide (f z < g z)).map V.str))) rfl (fun k J _ h => by rw [h]; exact Same.new hD2) ?_ ?_⟩
  · rintro k x J hx rfl
    rw [List.getElem?_map] at hx
    obtain ⟨z, hz, rfl⟩ := Option.map_eq_some_iff.mp hx
    have mz := List.mem_of_getElem? hz
    have hk : k < ws.length := (List.getElem?_eq_some_iff.mp hz).1
    have s2 := s1.trans (Same.new (H := H1) (o := .lst (((ws.take k).filter fun z => decide (f z < g z)).map V.str)) hD2)
    have e1 : MoA (upd H1 D2 (.lst (((ws.take k).filter fun z => decide (f z < g z)).map V.str))) mo1 ws f := s2 _ _ hM1
    have e2 : MoA (upd H1 D2 (.lst (((ws.take k).filter fun z => decide (f z < g z)).map V.str))) mo2 ws g := s2 _ _ hM2
    refine ⟨rfl, _, rfl, _, rfl, mo1, _, rfl, .inl ⟨_, .inr z, .inl e1, rfl, (moE_val nd mz).symm⟩, _, rfl, _, rfl, mo2, _, rfl, .inl ⟨_, .inr z, .inl e2, rfl, (moE_val nd mz).symm⟩, _, _, rfl, rfl, _, rfl, ?_⟩
    rw [List.take_add_one, hz]
    by_cases c : f z < g z
    · refine iteY (by simpa using c) ⟨_, rfl, _, upd_same, ?_, ?_⟩
      · rw [List.length_map]
        exact Nat.lt_of_le_of_lt (Nat.le_trans (List.length_filter_le _ _) (List.length_take_le _ _)) (Nat.lt_of_lt_of_le (show k < 20 by omega) (by decide))
      · show _ = _
        rw [List.filter_append, List.map_append]
        funext b
        by_cases e : b = D2
        · rw [e, upd_same, upd_same]
          simp [c]
        · rw [upd_ne e, upd_ne e, upd_ne e]
    · refine iteN (by simpa using c) ?_
      show _ = _
      rw [List.filter_append]
      simp [c]
  rintro J rfl
  rw [List.length_map, List.take_length]
  have s2 := s1.trans (Same.new (H := H1) (o := .lst ((ws.filter fun z => decide (f z < g z)).map V.str)) hD2)
  have eA2 := Same.new (H := H1) (o := .lst ((ws.filter fun z => decide (f z < g z)).map V.str)) hD2 _ _ eA
  have eB2 := upd_same (H := H1) (a := D2) (o := .lst ((ws.filter fun z => decide (f z < g z)).map V.str))
  generalize upd H1 D2 (.lst ((ws.filter fun z => decide (f z < g z)).map V.str)) = H2 at s2 eA2 eB2
  refine ⟨rfl, rfl, _, rfl, D2, (ws.filter fun z => decide (f z < g z)).map vdN, rfl, by rw [eB2, List.map_map]; rfl, ?_, ⟨fun z hz => ?_, fun z hz y hy => ?_⟩, fun B H3 nB s3 eB => ?_⟩
  · rw [List.length_map]
    exact Nat.le_trans (List.length_filter_le _ _) (by omega)
  · obtain ⟨n, _, rfl⟩ := List.mem_map.mp hz
    exact ⟨.str n, (fun h => by cases h), by simp [vdN, PyData.depth]⟩
  · obtain ⟨n, _, rfl⟩ := List.mem_map.mp hz
    obtain ⟨n', _, rfl⟩ := List.mem_map.mp hy
    simp [vdN, PySem.W.alike]
  have eB' : H3 B = some (.lst ((sortR ltNm (ws.filter fun z => decide (f z < g z))).map V.str)) := by
    rw [eB, ← sortR_map (lt := ltNm) (lt' := ltD) (f := vdN) (fun _ _ => rfl), List.map_map]
    rfl
  clear eB eB2
  have eA3 := s3 _ _ eA2
  have s03 := s2.trans s3
  have F3 := F.same s03
  have G3 := G.same s03
  obtain ⟨bl, hbl⟩ : ∃ bl, bl = sortR ltNm (ws.filter fun z => decide (f z < g z)) := ⟨_, rfl⟩
  rw [← hbl] at eB'
  have mbl : ∀ y, y ∈ bl ↔ (y ∈ ws ∧ f y < g y) := fun y => by
    rw [hbl, (sortR_perm _ _).mem_iff, List.mem_filter]
    simp
  have nbl : (decide ((ws.filter fun z => decide (f z < g z)) = [])) = decide (bl = []) := by
    rw [Bool.eq_iff_iff, decide_eq_true_eq, decide_eq_true_eq]
    have l1 : bl.length = (ws.filter fun z => decide (f z < g z)).length := by rw [hbl, (sortR_perm _ _).length_eq]
    rw [← List.length_eq_zero_iff, ← List.length_eq_zero_iff, l1]
  have les := cf_len F.ok cf
  have lfs := cf_len G.ok cg
  -- x <= y, y <= x
  refine ⟨_, rfl, _, rfl, a, dx, _, a2, _, dx2, _, rfl, rfl, F3.at_, G3.at_, T.nf_Counts, _, _, rfl, a, dx, d, es, a2, dx2, d2, fs, rfl, rfl, F3, G3, ?_⟩
  refine ⟨_, rfl, by decide, fun l1 hl1 => ⟨1, _, by decide, (eg_lsts (n := 0) (zs := []) (.inl (.inl (Same.new hl1 _ _ eA3))) (.inl (.inl upd_same)) (fun e => by rw [e] at eA3; have := hl1; rw [eA3] at this; cases this)).eq, rfl, _, rfl, iteN (by rw [le_of F.ok bg cf cg]; simp) ?_⟩⟩
  have s4 := Same.new (o := .lst []) hl1
  have F4 := F3.same s4
  have G4 := G3.same s4
  have eB4 := s4 _ _ eB'
  have s04 := s03.trans s4
  generalize upd H3 l1 (.lst []) = H4 at s4 F4 G4 eB4 s04
  refine ⟨_, rfl, _, rfl, a2, dx2, _, a, _, dx, _, rfl, rfl, G4.at_, F4.at_, T.nf_Counts, _, _, rfl, a2, dx2, d2, fs, a, dx, d, es, rfl, rfl, G4, F4, ?_⟩
  refine ⟨_, rfl, by decide, fun l2 hl2 => ⟨1, _, by decide, (eg_lsts (n := 0) (ws := bl) (zs := []) (.inl (.inl (Same.new hl2 _ _ eB4))) (.inl (.inl upd_same)) (fun e => by rw [e, hl2] at eB4; cases eB4)).eq, rfl, _, rfl, iteN (by rw [le_of G.ok bf cg cf, nbl]; simp) ?_⟩⟩
  have s5 := Same.new (o := .lst []) hl2
  have F5 := F4.same s5
  have G5 := G4.same s5
  have eB5 := s5 _ _ eB4
  have s05 := s04.trans s5
  generalize upd H4 l2 (.lst []) = H5 at s5 F5 G5 eB5 s05
  have eM1 : MoA H5 mo1 ws f := s05 _ _ hM1
  have eM2 : MoA H5 mo2 ws g := s05 _ _ hM2
  have eqs : (∀ x, cn es x = cn fs x) ↔ ∀ x ∈ ws, f x = g x := by
    refine ⟨fun h x hx => ?_, fun h x => ?_⟩
    · have := h x
      rw [cf, cg, if_pos hx, if_pos hx] at this
      exact this
    · rw [cf, cg]
      by_cases m : x ∈ ws
      · rw [if_pos m, if_pos m, h x m]
      · rw [if_neg m, if_neg m]
  -- x == y, x != y
  refine ⟨_, rfl, _, rfl, a, dx, _, a2, _, dx2, _, rfl, rfl, F5.at_, G5.at_, T.nf_Counts, _, _, rfl, a, dx, d, es, a2, dx2, d2, fs, rfl, rfl, F5, G5, fun b hb => ?_⟩
  refine ⟨_, rfl, _, rfl, 2, b, by decide, (mo_cmp eM1 eM2 nd (hb.trans eqs)).1, rfl, _, rfl, iteN (by simp) ?_⟩
  refine ⟨_, rfl, _, rfl, a, dx, _, a2, _, dx2, _, rfl, rfl, F5.at_, G5.at_, T.nf_Counts, _, _, rfl, a, dx, d, es, a2, dx2, d2, fs, rfl, rfl, F5, G5, fun b2 hb2 => ⟨b2, rfl, ?_⟩⟩
  refine ⟨_, rfl, _, rfl, 2, b2, by decide, (mo_cmp eM1 eM2 nd (hb2.trans eqs)).2, rfl, _, rfl, iteN (by simp) ?_⟩
  -- the difference
  refine ⟨_, rfl, _, rfl, rfl, rfl, _, _, rfl, a, dx, d, es, a2, dx2, d2, fs, rfl, rfl, F5, G5, by omega, fun le H6 o p dp dd gs s6 Fp hc eo => ?_, fun ⟨y, hy⟩ => ?_⟩
  · have b0 : bl = [] := List.eq_nil_iff_forall_not_mem.mpr fun y hy => by
      obtain ⟨m, h⟩ := (mbl y).mp hy
      have := le y
      rw [cf, cg, if_pos m, if_pos m] at this
      omega
    refine ⟨_, rfl, by decide, fun l3 hl3 => ⟨1, _, by decide, (eg_lsts (n := 0) (ws := bl) (zs := []) (.inl (.inl (Same.new hl3 _ _ (s6 _ _ eB5)))) (.inl (.inl upd_same)) (fun _ => b0)).ne, _, rfl, iteN (by rw [b0]; simp) ?_⟩⟩
    have s7 := Same.new (o := .lst []) hl3
    have Fp7 := Fp.same s7
    have eo7 := s7 _ _ eo
    have s07 := (s05.trans s6).trans s7
    have F7 := F.same s07
    have G7 := G.same s07
    generalize upd H6 l3 (.lst []) = H7 at s7 Fp7 eo7 s07 F7 G7
    refine ⟨_, rfl, ixT eo7 rfl ⟨1, _, by decide, (eg_str (n := 1)).ne, _, rfl, iteN (by simp) ?_⟩⟩
    have lgs : gs.length ≤ ws.length := cf_len (f := fun x => f x - g x) Fp.ok fun x => by
      rw [hc, cf, cg]
      by_cases m : x ∈ ws
      · rw [if_pos m, if_pos m, if_pos m]
      · rw [if_neg m, if_neg m, if_neg m]
        rfl
    refine ⟨_, rfl, ixT eo7 rfl ⟨_, rfl, p, dp, _, a2, dx2, _, rfl, rfl, Fp7.at_, G7.at_, _, _, rfl, p, dp, dd, gs, a2, dx2, d2, fs, rfl, rfl, Fp7, G7, by omega, fun H8 p2 dp2 dd2 hs s8 _ _ F2 hc2 => ?_⟩⟩
    have F8 := F7.same s8
    refine ⟨_, rfl, p2, dp2, _, a, _, dx, _, rfl, rfl, F2.at_, F8.at_, T.nf_Counts, _, _, rfl, p2, dp2, dd2, hs, a, dx, d, es, rfl, rfl, F2, F8, fun b3 hb3 => ⟨b3, rfl, ?_⟩⟩
    have b3t : b3 = true := hb3.mpr fun y => by rw [hc2, hc]; omega
    subst b3t
    refine ⟨_, rfl, iteN (by decide) ?_⟩
    -- the rest
    have s08 := s07.trans s8
    refine fun mo3 hm3 => ?_
    have s9 : ∀ o : HO, Same H8 (upd H8 mo3 o) := fun o => Same.new hm3
    have nfR : ∀ o : HO, (upd H8 mo3 o) R = some (.lst (ws.map V.str)) := fun o => s9 o _ _ (s08 _ _ hR)
    refine ⟨_, rfl, R, rfl, ⟨_, .inl (.inl (nfR _))⟩, for_list (xs := ws.map V.str) (fun k σ J => J = upd H8 mo3 (.dK (tb (moE (ws.take k) fun z => f z - g z))) ∧ ∃ v, σ = [some (.ref a), some (.ref a2), some (.ref mo1), some (.ref mo2), some (.ref R), some (.ref D), v, some (.ref B), some (.ref o), some (.ref mo3)]) ⟨rfl, _, rfl⟩ (fun k σ J _ h => by rw [h.1]; exact .inl (.inl (nfR _))) ?_ ?_⟩
    · rintro k y σ J hy ⟨rfl, v, rfl⟩
      rw [List.getElem?_map] at hy
      obtain ⟨z, hz, rfl⟩ := Option.map_eq_some_iff.mp hy
      have mz := List.mem_of_getElem? hz
      have e1 : MoA (upd H8 mo3 (.dK (tb (moE (ws.take k) fun z => f z - g z)))) mo1 ws f := s9 _ _ _ (s08 _ _ hM1)
      have e2 : MoA (upd H8 mo3 (.dK (tb (moE (ws.take k) fun z => f z - g z)))) mo2 ws g := s9 _ _ _ (s08 _ _ hM2)
      refine ⟨_, rfl, _, rfl, mo1, _, rfl, .inl ⟨_, .inr z, .inl e1, rfl, (moE_val nd mz).symm⟩, _, rfl, _, rfl, mo2, _, rfl, .inl ⟨_, .inr z, .inl e2, rfl, (moE_val nd mz).symm⟩, _, _, rfl, rfl, _, rfl, _, rfl, mo3, _, rfl, .inl ⟨_, .inr z, upd_same, rfl, moE_lenS (by rw [List.length_take]; omega) _, rfl⟩, ?_, _, rfl⟩
      rw [upd_upd, ← mo_step nd hz (fun z => f z - g z)]
    · rintro σ J ⟨rfl, v, rfl⟩
      rw [List.length_map, List.take_length]
      have sA := s9 (.dK (tb (moE ws fun z => f z - g z)))
      have s0A := s08.trans sA
      refine ⟨_, rfl, ixT (sA _ _ (s8 _ _ eo7)) rfl ⟨_, rfl, _, rfl, rfl, rfl, _, _, _, rfl, p, dp, dd, gs, mo3, R, ws, fun z => f z - g z, rfl, (Fp7.same s8).same sA, rfl, upd_same, rfl, s0A _ _ hR, nd, lw, hn, fun x => ?_, fun H' s' => q H' (s0A.trans s')⟩⟩
      rw [hc, cf, cg]
      by_cases m : x ∈ ws
      · rw [if_pos m, if_pos m, if_pos m]
      · rw [if_neg m, if_neg m, if_neg m]
        rfl
  · have yw : y ∈ ws := Classical.byContradiction fun m => by
      rw [cf, cg, if_neg m, if_neg m] at hy
      exact absurd hy (by decide)
    have yb : y ∈ bl := by
      rw [mbl]
      rw [cf, cg, if_pos yw, if_pos yw] at hy
      exact ⟨yw, hy⟩
    have srt : Srt ltNm bl := by rw [hbl]; exact sortR_srt swo_nm _
    obtain ⟨z, tl, ebl⟩ : ∃ z tl, bl = z :: tl := by
      cases bl with
      | nil => cases yb
      | cons z tl => exact ⟨z, tl, rfl⟩
    obtain ⟨mz, hz⟩ := (mbl z).mp (by rw [ebl]; exact List.mem_cons_self)
    refine ⟨z, by rw [cf, cg, if_pos mz, if_pos mz]; exact hz, fun x hx => ?_, fun H6 o s6 eo => ?_⟩
    · have xw : x ∈ ws := Classical.byContradiction fun m => by
        rw [cf, cg, if_neg m, if_neg m] at hx
        exact absurd hx (by decide)
      have xb : x ∈ bl := by
        rw [mbl]
        rw [cf, cg, if_pos xw, if_pos xw] at hx
        exact ⟨xw, hx⟩
      rw [ebl] at xb srt
      rcases List.mem_cons.mp xb with e | h
      · rw [e]
        exact swo_nm.irr z
      · exact (List.pairwise_cons.mp srt).1 x h
    · have eB6 := s6 _ _ eB5
      refine ⟨_, rfl, by decide, fun l3 hl3 => ⟨1, _, by decide, (eg_lsts (n := 0) (ws := bl) (zs := []) (.inl (.inl (Same.new hl3 _ _ eB6))) (.inl (.inl upd_same)) (fun e => by rw [e, hl3] at eB6; cases eB6)).ne, _, rfl, iteY (by rw [ebl]; simp) ?_⟩⟩
      have s7 := s6.trans (Same.new (o := .lst []) hl3)
      have eB7 := Same.new (o := .lst []) hl3 _ _ eB6
      have eo7 := Same.new (o := .lst []) hl3 _ _ eo
      refine ⟨_, rfl, _, rfl, ix3 eB7 (show atI (bl.map V.str) ((0 : Nat) : Int) = some (.str z) from atI_nat (by rw [ebl]; rfl)) ⟨by show 2 ≤ sizeLine; decide, fun p hp => ⟨6, _, by decide, (eg_od (Same.new hp _ _ eo7) upd_same (fun u hu => ?_)).eq, q _ ((s05.trans s7).trans (Same.new hp))⟩⟩⟩
      simp only [List.mem_cons, List.not_mem_nil, or_false] at hu
      rcases hu with rfl | rfl
      · exact .str _
      · exact .str _
end
end W

namespace W
open PySem PySem.Spec PyProof.Rows L2
section
variable {P : Program} {w : World} {K : S.Frag} {mg : Str → Option Value} {base : Heap}
open S
theorem strs_inj {ws zs : List Str} (e : ws.map V.str = zs.map V.str) : ws = zs := by
  have := congrArg (List.map fun v : V => match v with | .str z => z | _ => "") e
  rw [List.map_map, List.map_map] at this
  have i1 : ((fun v : V => match v with | .str z => z | _ => "") ∘ V.str) = id := rfl
  rw [i1, List.map_id, List.map_id] at this
  exact this
theorem strs_good {H : Hp} {ws : List Str} (hw : ∀ z ∈ ws, isNm z = true) : ∀ v ∈ ws.map V.str, Od H v ∧ sml v := fun v hv => by
  obtain ⟨z, hz, rfl⟩ := List.mem_map.mp hv
  exact ⟨.str z, Nat.le_trans (nm_len8 (hw z hz)) (by decide)⟩
theorem strs_nobad {ws : List Str} (hw : ∀ z ∈ ws, isNm z = true) {b : V} (h : FirstBad (ws.map V.str) b) : False := by
  obtain ⟨i, hi, hb, _⟩ := h
  obtain ⟨z, hz, rfl⟩ := List.mem_map.mp (List.mem_of_getElem? hi)
  rw [show nmV (.str z) = true from hw z hz] at hb
  cases hb
def spLaw (K : S.Frag) : Sp := Sp1 fun x H Q _ => ∃ (a : Addr) (ns : List Int), x = .ref a ∧ SqL K H a (ns.map V.int) ∧ ns.length ≤ 63 ∧ ∀ H', Q (.bl true) H'
theorem sqL_same {H H' : Hp} {a : Addr} {xs : List V} (h : SqL K H a xs) (s : Same H H') : SqL K H' a xs := by
  rcases h with (h | ⟨o, h⟩) | h
  · exact .inl (.inl (s _ _ h))
  · exact .inl (.inr ⟨o, s _ _ h⟩)
  · exact .inr h
theorem ok_law (T : Txt K mg) : FnOk P w K mg base (L2.CX P w) 10 (He.fAd K ("law", none)) (S.fdA K ("law", none)) ["_law_script"] (spLaw K) := by
  have G__law_cell := ok__law_cell (P := P) (w := w) (base := base) T
  have G__law_words := ok__law_words (P := P) (w := w) (base := base) T
  have G__law_numbers := ok__law_numbers (P := P) (w := w) (base := base) T
  have G__law_take := ok__law_take (P := P) (w := w) (base := base) T
  have G__law_made := ok__law_made (P := P) (w := w) (base := base) T
  have G__law_counts_fit := ok__law_counts_fit (P := P) (w := w) (base := base) T
  have G_Counts___add__ := ok_Counts___add__ (P := P) (w := w) (base := base) T
  have G__law_products_fit := ok__law_products_fit (P := P) (w := w) (base := base) T
  have G__law_order_fits := ok__law_order_fits (P := P) (w := w) (base := base) T
  have G_Counts___setitem__ := ok_Counts___setitem__ (P := P) (w := w) (base := base) T
  have G_Counts___iadd__ := ok_Counts___iadd__ (P := P) (w := w) (base := base) T
  refine FunD.ok T.F_law sc_law (fun vs H Q E h => S.splen1 h) (fun cdv A outer s H vs Q E hr h => ?_)
  have hu := hu_of hr
  refine ⟨_, (pss_cons (ps_set (i := 1) sc_law.nd rfl (by first | exact Or.inl rfl | exact Or.inr rfl) (pe_lst (pa_cons (S.pe_fnS G__law_cell (hr.mono (by decide)) rfl T.g__law_cell T.F__law_cell.kp (kb__law_cell_2 T) S.pas0 (pa_cons (pv 0) (pa_cons pe_int pa_nil)) pk_nil rfl rfl) pa_nil)))
      (pss_cons (ps_set (i := 2) sc_law.nd rfl (by first | exact Or.inl rfl | exact Or.inr rfl) (S.pe_fnS G__law_words (hr.mono (by decide)) rfl T.g__law_words T.F__law_words.kp (kb__law_words_2 T) S.pas0 (pa_cons (pe_lst (pa_cons (S.pe_fnS G__law_cell (hr.mono (by decide)) rfl T.g__law_cell T.F__law_cell.kp (kb__law_cell_2 T) S.pas0 (pa_cons (pv 0) (pa_cons pe_int pa_nil)) pk_nil rfl rfl) pa_nil)) (pa_cons pe_int pa_nil)) pk_nil rfl rfl))
      (pss_cons (ps_set (i := 3) sc_law.nd rfl (by first | exact Or.inl rfl | exact Or.inr rfl) (S.pe_fnS G__law_numbers (hr.mono (by decide)) rfl T.g__law_numbers T.F__law_numbers.kp (kb__law_numbers_2 T) S.pas0 (pa_cons (pe_lst (pa_cons (S.pe_fnS G__law_cell (hr.mono (by decide)) rfl T.g__law_cell T.F__law_cell.kp (kb__law_cell_2 T) S.pas0 (pa_cons (pv 0) (pa_cons pe_int pa_nil)) pk_nil rfl rfl) pa_nil)) (pa_cons (pv 2) pa_nil)) pk_nil rfl rfl))
      (pss_cons (ps_set (i := 4) sc_law.nd rfl (by first | exact Or.inl rfl | exact Or.inr rfl) (S.pe_fnS G__law_numbers (hr.mono (by decide)) rfl T.g__law_numbers T.F__law_numbers.kp (kb__law_numbers_2 T) S.pas0 (pa_cons (pe_lst (pa_cons (S.pe_fnS G__law_cell (hr.mono (by decide)) rfl T.g__law_cell T.F__law_cell.kp (kb__law_cell_2 T) S.pas0 (pa_cons (pv 0) (pa_cons pe_int pa_nil)) pk_nil rfl rfl) pa_nil)) (pa_cons (pv 2) pa_nil)) pk_nil rfl rfl))
      (pss_cons (ps_set (i := 5) sc_law.nd rfl (by first | exact Or.inl rfl | exact Or.inr rfl) (S.pe_fnS G__law_take (hr.mono (by decide)) rfl T.g__law_take T.F__law_take.kp (kb__law_take_2 T) S.pas0 (pa_cons (pv 1) (pa_cons pe_int pa_nil)) pk_nil rfl rfl))
      (pss_cons (ps_set (i := 6) sc_law.nd rfl (by first | exact Or.inl rfl | exact Or.inr rfl) (pe_op op_sub (S.pe_fnS G__law_take (hr.mono (by decide)) rfl T.g__law_take T.F__law_take.kp (kb__law_take_2 T) S.pas0 (pa_cons (pv 1) (pa_cons pe_int pa_nil)) pk_nil rfl rfl) pe_int))
      (S.pss_cut (ps_if (pt_cmpR op_eq (pv 6) pe_int (nomark _)) (pss_one (ps_set (i := 6) sc_law.nd rfl (by first | exact Or.inl rfl | exact Or.inr rfl) (S.pe_fnS G__law_take (hr.mono (by decide)) rfl T.g__law_take T.F__law_take.kp (kb__law_take_2 T) S.pas0 (pa_cons (pv 1) (pa_cons (pe_op op_pow pe_int pe_int) pa_nil)) pk_nil rfl rfl))) pss_nil)
      (pss_cons (ps_set (i := 7) sc_law.nd rfl (by first | exact Or.inl rfl | exact Or.inr rfl) pe_dnewK)
      (pss_cons (ps_for (S.own_of rfl) rfl (S.pi_listK (K := K) rfl (pv 2)) (pg_name (i := 8) sc_law.nd rfl (by first | exact Or.inl rfl | exact Or.inr rfl))
        (S.pss_cut (ps_if (PW.pt (pw_and (pt_cmpR op_eq (pv 5) pe_int (nomark _)) (pw_and1 (pt_cmpR op_gt (pe_dget hu (pv 4) (pv 8) (fun _ _ => rfl)) (pe_dget hu (pv 3) (pv 8) (fun _ _ => rfl)) (nomark _))))) (pss_one (ps_dput hu (pv 4) (pv 8) (pe_dget hu (pv 3) (pv 8) (fun _ _ => rfl)) rfl)) pss_nil)
      (pss_one (ps_dput hu (pv 7) (pv 8) (pe_op op_add (pe_dget hu (pv 3) (pv 8) (fun _ _ => rfl)) (pe_dget hu (pv 4) (pv 8) (fun _ _ => rfl))) rfl))))
      (pss_cons (ps_set (i := 9) sc_law.nd rfl (by first | exact Or.inl rfl | exact Or.inr rfl) (S.pe_fnS G__law_made (hr.mono (by decide)) rfl T.g__law_made T.F__law_made.kp (kb__law_made_2 T) S.pas0 (pa_cons (pv 3) (pa_cons (pv 2) pa_nil)) pk_nil rfl rfl))
      (pss_cons (ps_set (i := 10) sc_law.nd rfl (by first | exact Or.inl rfl | exact Or.inr rfl) (S.pe_fnS G__law_made (hr.mono (by decide)) rfl T.g__law_made T.F__law_made.kp (kb__law_made_2 T) S.pas0 (pa_cons (pv 4) (pa_cons (S.pe_revK (K := K) rfl (pv 2)) pa_nil)) pk_nil rfl rfl))
      (pss_cons (ps_if (PW.pt (pw_or (pt_not (pt_val (S.pe_fnS G__law_counts_fit (hr.mono (by decide)) rfl T.g__law_counts_fit T.F__law_counts_fit.kp (kb__law_counts_fit_3 T) S.pas0 (pa_cons (S.pe_binII (C := He.ga K "Counts") T.sf_Counts T.me_Counts___add__.1 T.me_Counts___add__.2 (S.raw_of G_Counts___add__ (kb_Counts___add___2 T)) (hr.mono (by decide)) S.pas0 (pv 9) (pv 10)) (pa_cons (pv 7) (pa_cons (pv 2) pa_nil))) pk_nil rfl rfl))) (pw_or1 (pt_not (pt_val (S.pe_fnS G__law_counts_fit (hr.mono (by decide)) rfl T.g__law_counts_fit T.F__law_counts_fit.kp (kb__law_counts_fit_3 T) S.pas0 (pa_cons (S.pe_binII (C := He.ga K "Counts") T.sf_Counts T.me_Counts___add__.1 T.me_Counts___add__.2 (S.raw_of G_Counts___add__ (kb_Counts___add___2 T)) (hr.mono (by decide)) S.pas0 (pv 10) (pv 9)) (pa_cons (pv 7) (pa_cons (pv 2) pa_nil))) pk_nil rfl rfl)))))) (pss_one (ps_ret pe_bl)) pss_nil)
      (pss_cons (ps_if (PW.pt (pw_or (pt_not (pt_val (S.pe_fnS G__law_products_fit (hr.mono (by decide)) rfl T.g__law_products_fit T.F__law_products_fit.kp (kb__law_products_fit_4 T) S.pas0 (pa_cons (pv 9) (pa_cons (pv 6) (pa_cons (pv 3) (pa_cons (pv 2) pa_nil)))) pk_nil rfl rfl))) (pw_or1 (pt_not (pt_val (S.pe_fnS G__law_order_fits (hr.mono (by decide)) rfl T.g__law_order_fits T.F__law_order_fits.kp (kb__law_order_fits_5 T) S.pas0 (pa_cons (pv 9) (pa_cons (pv 10) (pa_cons (pv 3) (pa_cons (pv 4) (pa_cons (pv 2) pa_nil))))) pk_nil rfl rfl)))))) (pss_one (ps_ret pe_bl)) pss_nil)
      (pss_cons (ps_set (i := 11) sc_law.nd rfl (by first | exact Or.inl rfl | exact Or.inr rfl) (S.pe_binII (C := He.ga K "Counts") T.sf_Counts T.me_Counts___add__.1 T.me_Counts___add__.2 (S.raw_of G_Counts___add__ (kb_Counts___add___2 T)) (hr.mono (by decide)) S.pas0 (pv 9) (pv 10)))
      (pss_cons (S.ps_setO (C := He.ga K "Counts") T.nq_Counts T.me_Counts___setitem__.1 T.me_Counts___setitem__.2 (S.raw_of G_Counts___setitem__ (kb_Counts___setitem___3 T)) (hr.mono (by decide)) (S.pasE (takes_of rfl rfl rfl rfl)) (pv 11) (pe_ix (S.ixK (K := K) rfl) (pv 2) pe_int (fun _ _ => rfl)) pe_int)
      (pss_cons (S.ps_augO (j := 11) (C := He.ga K "Counts") sc_law.nd rfl (by first | exact Or.inl rfl | exact Or.inr rfl) (pv 2) T.sf_Counts T.me_Counts___iadd__.1 T.me_Counts___iadd__.2 (S.raw_of G_Counts___iadd__ (kb_Counts___iadd___2 T)) (hr.mono (by decide)) (S.pasE (takes_of rfl rfl rfl rfl)))
      (pss_one (ps_ret (pe_and (S.pe_fnS G__law_counts_fit (hr.mono (by decide)) rfl T.g__law_counts_fit T.F__law_counts_fit.kp (kb__law_counts_fit_3 T) S.pas0 (pa_cons (pv 9) (pa_cons (pv 3) (pa_cons (pv 2) pa_nil))) pk_nil rfl rfl) (pe_one (S.pe_fnS G__law_counts_fit (hr.mono (by decide)) rfl T.g__law_counts_fit T.F__law_counts_fit.kp (kb__law_counts_fit_3 T) S.pas0 (pa_cons (pv 10) (pa_cons (pv 4) (pa_cons (pv 2) pa_nil))) pk_nil rfl rfl))))))))))))))))))))), ?_⟩
  obtain ⟨_, rfl, a, ns, rfl, hS, hl, q⟩ := h
  refine ⟨_, rfl, rfl, rfl, _, _, rfl, a, ns, 0, rfl, rfl, Int.le_refl 0, hS, fun n0 hn0 => ⟨by show 1 ≤ sizeLine; decide, fun r hr0 => ?_⟩⟩
  have s0 := Same.new (o := .lst [.int n0]) hr0
  have er0 := upd_same (H := H) (a := r) (o := .lst [.int n0])
  generalize upd H r (.lst [.int n0]) = H0 at s0 er0
  refine ⟨_, rfl, rfl, rfl, _, _, rfl, a, ns, 1, rfl, rfl, by decide, sqL_same hS s0, fun n1 hn1 => ⟨by show 1 ≤ sizeLine; decide, fun r2 hr2 => ⟨rfl, rfl, _, _, rfl, r2, n1, 5, rfl, upd_same, rfl, by decide, by decide, fun L ws H2 d2 nL eL nd lw hn => ?_⟩⟩⟩
  have s02 : Same H0 H2 := fun b o h => d2.kp b o (ne_of_none h hr2) (Same.new hr2 _ _ h)
  clear d2 nL
  have lws : ws.length = 5 := by omega
  have sH2 := s0.trans s02
  -- the numbers
  refine ⟨_, rfl, rfl, rfl, _, _, rfl, a, ns, 2, rfl, rfl, by decide, sqL_same hS sH2, fun n2 hn2 => ⟨by show 1 ≤ sizeLine; decide, fun r3 hr3 => ⟨_, rfl, rfl, rfl, _, _, rfl, r3, L, n2, ws, rfl, upd_same, rfl, (ne_of_none eL hr3).symm, Same.new hr3 _ _ eL, nd, by omega, fun mo1 f H3 d3 nm1 eM1 bf => ?_⟩⟩⟩
  have s23 : Same H2 H3 := fun b o h => d3.kp b o (ne_of_none h hr3) (Same.new hr3 _ _ h)
  have eL3 := s23 _ _ eL
  have sH3 := sH2.trans s23
  have fm1 : H2 mo1 = none := (Same.new hr3).free nm1
  clear d3 nm1 hr3
  refine ⟨_, rfl, rfl, rfl, _, _, rfl, a, ns, 3, rfl, rfl, by decide, sqL_same hS sH3, fun n3 hn3 => ⟨by show 1 ≤ sizeLine; decide, fun r4 hr4 => ⟨_, rfl, rfl, rfl, _, _, rfl, r4, L, n3, ws, rfl, upd_same, rfl, (ne_of_none eL3 hr4).symm, Same.new hr4 _ _ eL3, nd, by omega, fun mo2 g H4 d4 nm2 eM2 bg => ?_⟩⟩⟩
  have s34 : Same H3 H4 := fun b o h => d4.kp b o (ne_of_none h hr4) (Same.new hr4 _ _ h)
  have fm2 : H3 mo2 = none := (Same.new hr4).free nm2
  clear d4 nm2 hr4
  have eM1' : MoA H4 mo1 ws f := s34 _ _ eM1
  have er4 := s34 _ _ (s23 _ _ (s02 _ _ er0))
  have eL4 := s34 _ _ eL3
  have sH4 := sH3.trans s34
  have nm12 : mo1 ≠ mo2 := ne_of_none eM1 fm2
  have nrm1 : r ≠ mo1 := ne_of er4 eM1' (by intro e; cases e)
  have nrm2 : r ≠ mo2 := ne_of er4 eM2 (by intro e; cases e)
  have nrL : r ≠ L := ne_of er4 eL4 (by
    intro e
    cases ws with
    | nil => cases lws
    | cons z zs => cases e)
  -- draws
  refine ⟨_, rfl, rfl, rfl, _, _, rfl, r, n0, 3, rfl, er4, rfl, by decide, by decide, fun ls m1 l0 l1 => ?_⟩
  refine ⟨_, rfl, rfl, rfl, _, _, rfl, r, m1, 7, rfl, upd_same, rfl, by decide, by decide, fun nu m2 u0 u1 => ⟨_, _, rfl, rfl, ?_⟩⟩
  rw [upd_upd]
  refine ⟨fun τ J => ∃ (nu m : Int), nu.natAbs < 10 ^ 20 ∧ J = upd H4 r (.lst [.int m]) ∧ τ = [some (.ref a), some (.ref r), some (.ref L), some (.ref mo1), some (.ref mo2), some (.int ls), some (.int nu), none, none, none, none, none], ?_, ?_⟩
  · refine ⟨_, rfl, rfl, _, rfl, ite2 (fun _ => ?_) (fun _ => ⟨_, m2, ?_, rfl, rfl⟩)⟩
    · refine ⟨_, rfl, _, _, rfl, rfl, ⟨by decide, by decide, by decide⟩, rfl, rfl, _, _, rfl, r, m2, _, rfl, upd_same, rfl, by decide +kernel, by decide +kernel, fun nu2 m3 v0 v1 => ⟨nu2, m3, ?_, upd_upd, rfl⟩⟩
      have e1 : (10 ^ Int.toNat 20 : Int) = 100000000000000000000 := by decide +kernel
      have e2 : (10 ^ 20 : Nat) = 100000000000000000000 := by decide +kernel
      rw [e1] at v1
      rw [e2]
      omega
    · have e2 : (10 ^ 20 : Nat) = 100000000000000000000 := by decide +kernel
      rw [e2]
      omega
  rintro τ J ⟨nu, m, bn, rfl, rfl⟩
  have k45 : ∀ b o, b ≠ r → H4 b = some o → (upd H4 r (.lst [.int m])) b = some o := fun b o nb h => by rw [upd_ne nb]; exact h
  have sH5 : Same H (upd H4 r (.lst [.int m])) := fun b o h => k45 b o (ne_of_none h hr0) (sH4 _ _ h)
  have fr5 : ∀ b, H4 b = none → b ≠ r → (upd H4 r (.lst [.int m])) b = none := fun b h nb => by rw [upd_ne nb]; exact h
  generalize upd H4 r (.lst [.int m]) = H5 at k45 sH5 fr5
  have eM1 : MoA H5 mo1 ws f := k45 _ _ nrm1.symm eM1'
  have eM2 : MoA H5 mo2 ws g := k45 _ _ nrm2.symm eM2
  have eL5 := k45 _ _ nrL.symm eL4
  -- the totals
  refine fun mo3 hm3 => ?_
  have nm13 : mo1 ≠ mo3 := ne_of_none eM1 hm3
  have nm23 : mo2 ≠ mo3 := ne_of_none eM2 hm3
  have nL2 : L ≠ mo2 := ne_of eL5 eM2 (by intro e; cases e)
  have nL3 : L ≠ mo3 := ne_of_none eL5 hm3
  refine ⟨_, rfl, L, rfl, ⟨_, .inl (.inl (Same.new hm3 _ _ eL5))⟩, for_list (xs := ws.map V.str) (fun k σ J => (∀ b o, b ≠ mo2 → H5 b = some o → J b = some o) ∧ (∃ g', MoA J mo2 ws g' ∧ Big g' ∧ J mo3 = some (.dK (tb (moE (ws.take k) fun z => f z + g' z)))) ∧ ∃ v, σ = [some (.ref a), some (.ref r), some (.ref L), some (.ref mo1), some (.ref mo2), some (.int ls), some (.int nu), some (.ref mo3), v, none, none, none]) ⟨fun b o _ h => Same.new hm3 _ _ h, ⟨g, Same.new hm3 _ _ eM2, bg, upd_same⟩, _, rfl⟩ (fun k σ J _ h => .inl (.inl (h.1 _ _ nL2 eL5))) ?_ ?_⟩
  · rintro k y σ J hy ⟨kJ, ⟨g', eG, bg', eT⟩, v, rfl⟩
    rw [List.getElem?_map] at hy
    obtain ⟨z, hz, rfl⟩ := Option.map_eq_some_iff.mp hy
    have mz := List.mem_of_getElem? hz
    have out := out_take nd hz
    have eF : MoA J mo1 ws f := kJ _ _ nm12 eM1
    refine ⟨fun τ J' => τ = [some (.ref a), some (.ref r), some (.ref L), some (.ref mo1), some (.ref mo2), some (.int ls), some (.int nu), some (.ref mo3), some (.str z), none, none, none] ∧ (∀ b o, b ≠ mo2 → H5 b = some o → J' b = some o) ∧ ∃ g', MoA J' mo2 ws g' ∧ Big g' ∧ J' mo3 = some (.dK (tb (moE (ws.take k) fun z => f z + g' z))), ?_, ?_⟩
    · have skip : ([some (.ref a), some (.ref r), some (.ref L), some (.ref mo1), some (.ref mo2), some (.int ls), some (.int nu), some (.ref mo3), some (.str z), none, none, none] : L2.St) = [some (.ref a), some (.ref r), some (.ref L), some (.ref mo1), some (.ref mo2), some (.int ls), some (.int nu), some (.ref mo3), some (.str z), none, none, none] ∧ (∀ b o, b ≠ mo2 → H5 b = some o → J b = some o) ∧ ∃ g', MoA J mo2 ws g' ∧ Big g' ∧ J mo3 = some (.dK (tb (moE (ws.take k) fun z => f z + g' z))) := ⟨rfl, kJ, g', eG, bg', eT⟩
      refine ⟨_, rfl, rfl, _, rfl, ?_⟩
      by_cases c0 : ls = 0
      · refine iteY (by simpa using c0) ⟨_, rfl, _, rfl, mo2, _, rfl, .inl ⟨_, .inr z, .inl eG, rfl, (moE_val nd mz).symm⟩, _, rfl, _, rfl, mo1, _, rfl, .inl ⟨_, .inr z, .inl eF, rfl, (moE_val nd mz).symm⟩, _, _, rfl, rfl, _, rfl, ?_⟩
        by_cases c1 : f z < g' z
        · refine iteY (by simpa using c1) ⟨_, rfl, _, rfl, mo1, _, rfl, .inl ⟨_, .inr z, .inl eF, rfl, (moE_val nd mz).symm⟩, _, rfl, _, rfl, mo2, _, rfl, .inl ⟨_, .inr z, eG, rfl, moE_lenS (by omega) _, rfl⟩, rfl, fun b o nb h => by rw [upd_ne nb]; exact kJ b o nb h, fun x => if x = z then f z else g' x, ?_, bg'.put (bf z).1 (bf z).2, ?_⟩
          · show upd J mo2 _ mo2 = _
            rw [upd_same, tb_put, moE_upd mz]
          · rw [upd_ne nm23.symm, eT]
            congr 3
            exact moE_congr fun x hx => by
              show f x + g' x = f x + (if x = z then f z else g' x)
              rw [if_neg (fun e : x = z => out (e ▸ hx))]
        · exact iteN (by simpa using c1) skip
      · exact iteN (by simpa using c0) (iteF skip)
    · rintro τ J' ⟨rfl, kJ', g2, eG2, bg2, eT2⟩
      have eF2 : MoA J' mo1 ws f := kJ' _ _ nm12 eM1
      refine ⟨_, rfl, _, rfl, mo1, _, rfl, .inl ⟨_, .inr z, .inl eF2, rfl, (moE_val nd mz).symm⟩, _, rfl, _, rfl, mo2, _, rfl, .inl ⟨_, .inr z, .inl eG2, rfl, (moE_val nd mz).symm⟩, _, _, rfl, rfl, _, rfl, _, rfl, mo3, _, rfl, .inl ⟨_, .inr z, eT2, rfl, moE_lenS (by rw [List.length_take]; omega) _, rfl⟩, fun b o nb h => by rw [upd_ne (ne_of_none h hm3)]; exact kJ' b o nb h, ⟨g2, ?_, bg2, ?_⟩, _, rfl⟩
      · show upd J' mo3 _ mo2 = _
        rw [upd_ne nm23]
        exact eG2
      · rw [upd_same, ← mo_step nd hz (fun z => f z + g2 z)]
  rintro σ J ⟨kJ, ⟨g', eG, bg', eT⟩, v8, rfl⟩
  rw [List.length_map, List.take_length] at eT
  have eF : MoA J mo1 ws f := kJ _ _ nm12 eM1
  have eLJ := kJ _ _ nL2 eL5
  clear eM1 eM2 eM1' bg
  -- the counts
  refine ⟨_, rfl, _, rfl, rfl, rfl, _, _, rfl, mo1, L, ws, ws, f, rfl, eF, rfl, eLJ, nd, fun _ => Iff.rfl, by omega, hn, bf, fun H7 x dx d es s7 nx nd7 F cf => ?_⟩
  have eL7 := s7 _ _ eLJ
  refine ⟨_, rfl, _, rfl, L, _, rfl, .inl (.inl eL7), fun R2 hR2 => ?_⟩
  have sR := Same.new (o := .lst (ws.map V.str).reverse) hR2
  have eG7 : MoA (upd H7 R2 (.lst (ws.map V.str).reverse)) mo2 ws g' := sR _ _ (s7 _ _ eG)
  refine ⟨rfl, rfl, _, _, rfl, mo2, R2, ws, ws.reverse, g', rfl, eG7, rfl, by rw [upd_same, List.map_reverse], nd, fun _ => List.mem_reverse, by rw [List.length_reverse]; omega, hn, bg', fun H8 y dy d2 fs s8 ny nd8 G cg => ?_⟩
  have s78 := sR.trans s8
  have F8 := F.same s78
  have s08 := s7.trans s78
  have eT8 : MoA H8 mo3 ws (fun z => f z + g' z) := s08 _ _ eT
  have eF8 : MoA H8 mo1 ws f := s08 _ _ eF
  have eG8 : MoA H8 mo2 ws g' := s08 _ _ eG
  have eL8 := s08 _ _ eLJ
  have les := cf_len F.ok cf
  have lfs := cf_len G.ok cg
  have l20 : ws.length ≤ 20 := by omega
  -- the sums
  refine ⟨_, rfl, _, rfl, x, dx, _, y, dy, _, rfl, rfl, F8.at_, G.at_, _, _, rfl, x, dx, d, es, y, dy, d2, fs, rfl, rfl, F8, G, by omega, fun H9 p dp dd gs s9 _ _ Fp hc => ?_⟩
  refine ⟨_, rfl, _, rfl, rfl, rfl, _, _, _, rfl, p, dp, dd, gs, mo3, L, ws, _, rfl, Fp, rfl, s9 _ _ eT8, rfl, s9 _ _ eL8, nd, l20, hn, fun z => ?_, fun H10 s10 => ⟨_, rfl, iteF ?_⟩⟩
  · rw [hc, cf, cg]
    by_cases m : z ∈ ws
    · rw [if_pos m, if_pos m, if_pos m]
    · rw [if_neg m, if_neg m, if_neg m]
      rfl
  have s810 := s9.trans s10
  refine ⟨_, rfl, _, rfl, y, dy, _, x, dx, _, rfl, rfl, (G.same s810).at_, (F8.same s810).at_, _, _, rfl, y, dy, d2, fs, x, dx, d, es, rfl, rfl, G.same s810, F8.same s810, by omega, fun H11 p2 dp2 dd2 gs2 s11 _ _ Fp2 hc2 => ?_⟩
  refine ⟨_, rfl, _, rfl, rfl, rfl, _, _, _, rfl, p2, dp2, dd2, gs2, mo3, L, ws, _, rfl, Fp2, rfl, s11 _ _ (s810 _ _ eT8), rfl, s11 _ _ (s810 _ _ eL8), nd, l20, hn, fun z => ?_, fun H12 s12 => ⟨_, rfl, iteF ?_⟩⟩
  · rw [hc2, cf, cg]
    by_cases m : z ∈ ws
    · rw [if_pos m, if_pos m, if_pos m]
      omega
    · rw [if_neg m, if_neg m, if_neg m]
      rfl
  have s812 := (s810.trans s11).trans s12
  -- products and order
  refine ⟨_, rfl, _, rfl, _, rfl, _, rfl, rfl, rfl, _, _, _, _, rfl, x, dx, d, es, nu, mo1, L, ws, f, rfl, F8.same s812, rfl, bn, rfl, s812 _ _ eF8, rfl, s812 _ _ eL8, nd, l20, hn, bf, cf, fun H13 s13 => ⟨_, rfl, iteF ?_⟩⟩
  have s813 := s812.trans s13
  refine ⟨_, rfl, _, rfl, _, rfl, _, rfl, _, rfl, rfl, rfl, _, _, _, _, _, rfl, x, dx, d, es, y, dy, d2, fs, mo1, mo2, L, ws, f, g', rfl, rfl, F8.same s813, G.same s813, rfl, s813 _ _ eF8, rfl, s813 _ _ eG8, rfl, s813 _ _ eL8, nd, l20, hn, bf, bg', cf, cg, fun H14 s14 => ⟨_, rfl, iteF ?_⟩⟩
  have s814 := s813.trans s14
  have F14 := F8.same s814
  have G14 := G.same s814
  have eL14 := s814 _ _ eL8
  -- a fresh one, changed
  refine ⟨_, rfl, _, rfl, x, dx, _, y, dy, _, rfl, rfl, F14.at_, G14.at_, _, _, rfl, x, dx, d, es, y, dy, d2, fs, rfl, rfl, F14, G14, by omega, fun H15 p3 dp3 dd3 gs3 s15 _ nd3 Fp3 hc3 => ?_⟩
  have lg3 : gs3.length ≤ ws.length := cf_len (f := fun z => f z + g' z) Fp3.ok fun z => by
    rw [hc3, cf, cg]
    by_cases m : z ∈ ws
    · rw [if_pos m, if_pos m, if_pos m]
    · rw [if_neg m, if_neg m, if_neg m]
      rfl
  have eL15 := s15 _ _ eL14
  obtain ⟨w0, gw0⟩ : ∃ w0, ws[0]? = some w0 := ⟨_, List.getElem?_eq_getElem (show 0 < ws.length by omega)⟩
  have mw0 := List.mem_of_getElem? gw0
  have nw0 := hn w0 mw0
  refine ⟨_, rfl, _, rfl, ix3 eL15 (show atI (ws.map V.str) ((0 : Nat) : Int) = some (.str w0) from atI_nat (by rw [List.getElem?_map, gw0]; rfl)) ⟨p3, dp3, _, rfl, Fp3.at_, _, _, _, rfl, p3, dp3, dd3, gs3, rfl, Fp3, by omega, .str w0, Nat.le_trans (nm_len8 nw0) (by decide), .int 5, fun z n ez _ en _ H16 gs4 F16 k16 c16 => ?_, fun h => ?_⟩⟩
  rotate_left
  · rcases h with h | h | ⟨n, h, h'⟩
    · rw [show nmV (.str w0) = true from nw0] at h
      cases h
    · cases h
    · injection h with h
      omega
  injection ez with ez
  injection en with en
  subst ez en
  have keep16 : ∀ b o, H14 b = some o → H16 b = some o := fun b o h => k16 b o (ne_of_none h nd3) (s15 _ _ h)
  have lg4 : gs4.length ≤ ws.length := cf_len (f := fun z => if z = w0 then 5 else f z + g' z) F16.ok fun z => by
    rw [c16, hc3, cf, cg]
    by_cases m : z ∈ ws
    · rw [if_pos m, if_pos m, if_pos m]
    · rw [if_neg m, if_neg m, if_neg m, if_neg (fun e : z = w0 => m (e ▸ mw0))]
      rfl
  have eL16 := keep16 _ _ eL14
  refine ⟨_, rfl, _, rfl, p3, dp3, _, rfl, F16.at_, _, _, rfl, p3, dp3, dd3, gs4, rfl, F16, .inl ⟨L, _, rfl, .inl eL16, strs_good hn, fun zs e _ => ?_, fun c hc => (strs_nobad hn hc).elim⟩⟩
  have e := strs_inj e
  subst e
  refine ⟨by omega, fun H17 gs5 F17 k17 c17 => ?_⟩
  have keep17 : Same H14 H17 := fun b o h => k17 b o (ne_of_none h nd3) (keep16 b o h)
  have s817 := s814.trans keep17
  refine ⟨_, rfl, _, rfl, _, rfl, rfl, rfl, _, _, _, rfl, x, dx, d, es, mo1, L, ws, f, rfl, F8.same s817, rfl, s817 _ _ eF8, rfl, s817 _ _ eL8, nd, l20, hn, cf, fun H18 s18 => ⟨_, rfl, iteY rfl ?_⟩⟩
  have s818 := s817.trans s18
  exact ⟨_, rfl, _, rfl, _, rfl, rfl, rfl, _, _, _, rfl, y, dy, d2, fs, mo2, L, ws, g', rfl, G.same s818, rfl, s818 _ _ eG8, rfl, s818 _ _ eL8, nd, l20, hn, cg, fun H19 s19 => q _⟩
end
end W

namespace W
open PySem PySem.Spec PyProof.Rows L2
theorem facts {P : Program} {w : World} {K : S.Frag} {h : Heap} {mg : Str → Option Value} {f : Addr} (X : K.In h) (G : h.Ns mainGlobals mg) (hfa : mg ("law" : Str) = some (.ref f)) (c : S.SaysX cks fns gts K) :
    ∃ fd : FuncData, (∀ (s : Shared) (v : Value), BindsTo s fd ⟨[v], []⟩ [("_law_script", v)]) ∧ ∀ base : Heap, FnOk P w K mg base (L2.CX P w) 10 f fd ["_law_script"] (spLaw K) := by
  have T : Txt K mg := txt_of X G c
  have e := hfa.symm.trans T.g_law
  cases e
  have b := FunD.bindsA (ps := ["_law_script"]) T.F_law fun _ _ _ _ _ _ us hl => match us, hl with | [_], _ => rfl
  exact ⟨_, fun s v => b s [v] rfl, fun base => ok_law T⟩
end W
open PySem PySem.W PySem.Calls PyProof.Rows
set_option maxRecDepth 100000 in
set_option maxHeartbeats 0 in
theorem PySem.Challenge.cw_seenshares_k27_counts_operators_holds : PySem.Challenge.rw_seenshares_k27_counts_operators.Holds := by
  w_on; o_law
  refine HandSHeadRun.head_any (r := OpenLaw.row PySem.Challenge.rw_seenshares_k27_counts_operators) (q := view (OpenLaw.row PySem.Challenge.rw_seenshares_k27_counts_operators).prog [29]) (H := _root_.W.hk) (ob := _root_.W.ob) (M := 9000)
    (loose := _root_.W.lo) (d := HandSHeadRun.topDef (OpenLaw.row PySem.Challenge.rw_seenshares_k27_counts_operators).prog 29) (kwd := []) _root_.W.ob_eq (by kernel_rfl) (fun s => by kernel_rfl) _root_.W.run
    (by kernel_rfl) (by kernel_rfl) (by kernel_rfl) (by rfl) (by first | assumption | decide +kernel) (by decide +kernel) ⟨rfl, rfl, rfl, rfl, rfl, by decide +kernel⟩ ?hw ?hc
  case hw => w_witness2
  case hc =>
    refine _root_.S.walk_X (l := PySem.Challenge.rw_seenshares_k27_counts_operators) (n := 63) (k := 10) (x := "_law_script") rfl (by decide) (by kernel_rfl) ⟨rfl, by decide, by decide⟩ ?F
    intro w mg fa h Y G hmg0
    obtain ⟨K, KX, c⟩ := Y
    have hmg : mg ("law" : PySem.Str) = some (.ref fa) := by
      have e : (HandSHeadRun.topDef (OpenLaw.row PySem.Challenge.rw_seenshares_k27_counts_operators).prog 29).name = ("law" : PySem.Str) := by kernel_rfl
      rw [← e]; exact hmg0
    obtain ⟨fd, hb, hF⟩ := _root_.W.facts (P := (PySem.Challenge.rw_seenshares_k27_counts_operators).prog) (w := w) KX G hmg c
    exact ⟨K, fd, _root_.W.spLaw K, KX, hb, fun H a ns hl hbits _ hS => ⟨_, rfl, a, ns, rfl, hS, hl, fun _ => rfl⟩, fun base _ _ => hF base⟩

