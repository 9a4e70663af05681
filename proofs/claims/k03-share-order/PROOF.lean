import PyProof.Rows.All
import Wide.All
import OpenK.AllK
import Wide.FinOn
import KE.KStateDown
import Lean
import HandS.Base
import HandS.Call
import HandS.List
import HandS.Comp
import HandS.Ends
import HandS.Dict
import HandS.Iter
import HandS.Text
import HandS.StrMore
import HandS.Nested
import HandS.EndTab
import HandS.HeadWalk
import HandS.CallLocal
import HandS.More
import HandS.Exc
import HandS.FStr
import KE.KCallOwn
import KE.KOpsOwn
import HandS.ExcOwn
import HandS.TryOnly
import HandS.Words
import HandS.WordsList
import HandS.WordsDict
import HandS.WordsExc
import HandS.Defaults
import HandS.MakeKw
import HandS.IsInst
import HandS.Wide
import HandS.ExcInit
import HandS.ExcField
import HandS.ExcIs
import HandS.SlotsOwn
import HandS.NamedTupSort
import HandS.OwnEq
import HandS.EndBits
import HandS.Head0
import HandS.Head1
import HandS.Head2
import HandS.HeadEnd
import HandS.HeadHook1
import HandS.HeadHook2
import HandS.DictComp
import HandS.Property
import HandS.Deep
import HandS.Walk
import HandS.TupAny
import KE.KEqDict
import KE.DataEq
import KE.LtData
import HandS.Conv
import KE.KDictKeyed
import HandS.GenList
import HandS.GenYield
import HandS.Style
import HandS.Star
import KE.GoesEnumKw
import HandS.HotCalls
import HandS.Finally
import KE.KEqNest
import HandS.RaiseMore
import KE.DataFind
import HandS.ListItems
import KE.KWithOwn
import PySem.Challenge.RW_seenshares_k03_share_order
set_option Elab.async false
set_option linter.all false
set_option maxRecDepth 100000
set_option maxHeartbeats 4000000
namespace S
open PySem PySem.Spec PyProof.Rows L2
/-! the head's facts as plain Bools over the written part -/
abbrev Frag := PySem.W.Frag
abbrev Ck := Frag → Bool
/-- the function behind a property -/
def gA (K : Frag) (p : Str × Option Str) : Addr := match PySem.W.recIn K (He.fAd K p) "property" with
  | some (.ref g :: _) => g
  | _ => 0
def gnW (K : Frag) (p : Str × Option Str) : He.FnW := match K.lookup (gA K p) with
  | some ⟨_, _, .func fd, _⟩ => some (fd.name, fd.qualname, fd.params, fd.body, fd.scope, fd.globals, fd.closure, fd.builtins)
  | _ => none
def gok (K : Frag) (d : He.DefD) : Bool := PySem.W.keepIn K (.ref (gA K d.at_)) && (match K.lookup (gA K d.at_) with
  | some ⟨_, _, .func fd, _⟩ => PySem.W.codeIn K fd.code d.qual && (He.dflB K fd.defaults (d.dvs K) && He.kwdB K fd.kwdefaults (d.kws K))
  | _ => false)
theorem funG {K : Frag} {d : He.DefD} (e : gnW K d.at_ = d.val) (c : gok K d = true) : ∃ fd, FunD K d.name d.qual d.params d.body d.scope (d.dvs K) (d.kws K) (gA K d.at_) fd := by
  obtain ⟨kp, c2⟩ := He.ba c
  unfold gnW at e
  cases q : K.lookup (gA K d.at_) with
  | none => rw [q] at c2; cases c2
  | some o =>
    obtain ⟨o1, o2, o3, o4⟩ := o
    rw [q] at c2 e
    cases o3 with
    | func fd =>
      obtain ⟨x1, x2, x3, x4, x5, x6, x7, x8, x9, x10, x11, x12, x13, x14, x15⟩ := fd
      have e2 : (some (x1, x2, x3, x4, x5, x6, x7, x15) : He.FnW) = some (d.name, d.qual, d.params, .stmts d.body, d.scope, mainGlobals, [], builtinsNs) := e
      simp only [Option.some.injEq, Prod.mk.injEq] at e2
      obtain ⟨y1, y2, y3, y4, y5, y6, y7, y8⟩ := e2
      subst y1 y2 y3 y4 y5 y6 y7 y8
      have c3 : (PySem.W.codeIn K x13 d.qual && (He.dflB K x8 (d.dvs K) && He.kwdB K x9 (d.kws K))) = true := c2
      obtain ⟨k1, k2⟩ := He.ba c3
      obtain ⟨k3, k4⟩ := He.ba k2
      exact ⟨_, ⟨o1, o2, x8, x9, x10, x11, x12, x13, x14, o4, rfl, q, k1, He.dflB_ok k3, He.kwdB_ok k4⟩, kp⟩
    | _ => cases c2
def obsX (ck : List Ck) (fn gt : List He.DefD) (K : Frag) : He.AlD :=
  (ck.all (fun c => c K) && (fn.all (fun d => d.ok K) && gt.all (fun d => gok K d)), fn.map (fun d => He.fnW K d.at_) ++ gt.map (fun d => gnW K d.at_))
def valX (fn gt : List He.DefD) : He.AlD := (true, fn.map He.DefD.val ++ gt.map He.DefD.val)
def obsXG (n : Nat) (ck : List Ck) (fn gt : List He.DefD) (g : Addr → Option Obj) : He.AlD :=
  obsX ck fn gt (He.frG g (He.asD g n))
def SaysX (ck : List Ck) (fn gt : List He.DefD) (K : Frag) : Prop := obsX ck fn gt K = valX fn gt
def hookX (n : Nat) (ck : List Ck) (fn gt : List He.DefD) : PySem.W.Hook where
  α := He.AlD
  obs := fun s => obsXG n ck fn gt s.heap.get?
  val := fun _ => valX fn gt
  says := fun _ h => ∃ K : Frag, K.In h ∧ SaysX ck fn gt K
  of := fun _ _ e => ⟨_, He.frG_in, e⟩
  keeps := fun _ _ _ ⟨K, hK, c⟩ k => ⟨K, PySem.W.Frag.In.keeps hK k, c⟩
theorem obsXG_eq {n : Nat} {ck : List Ck} {fn gt : List He.DefD} {g : Addr → Option Obj} {s : Shared}
    (h : ∀ a, g a = s.heap.get? a) : obsXG n ck fn gt g = (hookX n ck fn gt).obs s := by
  have e : g = s.heap.get? := funext h
  subst e
  exact rfl
theorem SaysX.bools {ck : List Ck} {fn gt : List He.DefD} {K : Frag} (c : SaysX ck fn gt K) :
    (ck.all (fun c => c K) && (fn.all (fun d => d.ok K) && gt.all (fun d => gok K d))) = true := congrArg Prod.fst c
theorem SaysX.fact {ck : List Ck} {fn gt : List He.DefD} {K : Frag} (c : SaysX ck fn gt K) (i : Nat) {f : Ck}
    (h : ck[i]? = some f := by rfl) : f K = true :=
  List.all_eq_true.mp (He.ba c.bools).1 f (List.mem_of_getElem? h)
/-- the function object that stands there -/
def fdOf (K : Frag) (a : Addr) : FuncData := match K.lookup a with
  | some ⟨_, _, .func fd, _⟩ => fd
  | _ => PySem.W.fnOf "" "" ⟨[], [], none, [], [], none, []⟩ [] ⟨.function, [], false, false, []⟩ .none .none .none .none none .none .none
def fdA (K : Frag) (p : Str × Option Str) : FuncData := fdOf K (He.fAd K p)
def gdA (K : Frag) (p : Str × Option Str) : FuncData := fdOf K (gA K p)
abbrev FunA (K : Frag) (d : He.DefD) : Prop :=
  FunD K d.name d.qual d.params d.body d.scope (d.dvs K) (d.kws K) (He.fAd K d.at_) (fdA K d.at_)
abbrev FunG (K : Frag) (d : He.DefD) : Prop :=
  FunD K d.name d.qual d.params d.body d.scope (d.dvs K) (d.kws K) (gA K d.at_) (gdA K d.at_)
theorem SaysX.def_ {ck : List Ck} {fn gt : List He.DefD} {K : Frag} (c : SaysX ck fn gt K) (i : Nat) {d : He.DefD}
    (h : fn[i]? = some d := by rfl) : FunA K d := by
  have e : fn.map (fun d => He.fnW K d.at_) ++ gt.map (fun d => gnW K d.at_) = fn.map He.DefD.val ++ gt.map He.DefD.val := congrArg Prod.snd c
  have e1 := (List.append_inj e (by rw [List.length_map, List.length_map])).1
  have e2 := congrArg (fun l => l[i]?) e1
  simp only [List.getElem?_map, h, Option.map_some, Option.some.injEq] at e2
  obtain ⟨fd, F⟩ := He.DefD.funD e2 (List.all_eq_true.mp (He.ba (He.ba c.bools).2).1 d (List.mem_of_getElem? h))
  have q : fdA K d.at_ = fd := by
    obtain ⟨oc, od, dV, kV, doc, pm, an, cdv, ct, osl, r, lk, _⟩ := F.ex
    unfold fdA fdOf
    rw [lk]
  unfold FunA
  rw [q]
  exact F
theorem SaysX.get_ {ck : List Ck} {fn gt : List He.DefD} {K : Frag} (c : SaysX ck fn gt K) (i : Nat) {d : He.DefD}
    (h : gt[i]? = some d := by rfl) : FunG K d := by
  have e : fn.map (fun d => He.fnW K d.at_) ++ gt.map (fun d => gnW K d.at_) = fn.map He.DefD.val ++ gt.map He.DefD.val := congrArg Prod.snd c
  have e1 := (List.append_inj e (by rw [List.length_map, List.length_map])).2
  have e2 := congrArg (fun l => l[i]?) e1
  simp only [List.getElem?_map, h, Option.map_some, Option.some.injEq] at e2
  obtain ⟨fd, F⟩ := funG e2 (List.all_eq_true.mp (He.ba (He.ba c.bools).2).2 d (List.mem_of_getElem? h))
  have q : gdA K d.at_ = fd := by
    obtain ⟨oc, od, dV, kV, doc, pm, an, cdv, ct, osl, r, lk, _⟩ := F.ex
    unfold gdA fdOf
    rw [lk]
  unfold FunG
  rw [q]
  exact F
/-- a property of a class -/
def proB (K : Frag) (C : Addr) (f : Str) : Bool := He.eqO (PySem.W.findIn K (.ref C) f) (some (some (.ref (He.ma K C f)))) &&
  (He.eqO (PySem.W.specialIn K (.ref (He.ma K C f)) "__get__") (some (some (.builtin "property.__get__"))) &&
  (decide (PySem.W.takesIn K (.ref (He.ma K C f)) = some true) && (match PySem.W.recIn K (He.ma K C f) "property" with | some (.ref _ :: _) => true | _ => false)))
theorem proB_ok {K : Frag} {x f : Str} (q : proB K (He.ga K x) f = true) : PropOf K (He.ga K x) f (He.ma K (He.ga K x) f) (gA K (x, some f)) := by
  obtain ⟨a, q⟩ := He.ba q
  obtain ⟨b, q⟩ := He.ba q
  obtain ⟨c, d⟩ := He.ba q
  refine ⟨He.eqO_ok a, He.eqO_ok b, of_decide_eq_true c, ?_⟩
  show ∃ rest, PySem.W.recIn K (He.ma K (He.ga K x) f) "property" = some (.ref (gA K (x, some f)) :: rest)
  have e : gA K (x, some f) = (match PySem.W.recIn K (He.ma K (He.ga K x) f) "property" with
    | some (.ref g :: _) => g
    | _ => 0) := rfl
  rw [e]
  split at d
  · rename_i g r h
    rw [h]
    exact ⟨r, rfl⟩
  · cases d
/-! own exception classes, over ValueError at any depth -/
def oexO (K : Frag) (C : Addr) : Bool := (match K.lookup C with
  | some ⟨.type "type", _, .cls cd, sl⟩ => (match cd.mro, sl.toList with
    | .ref C' :: bm, [_, _, _, _, some (.builtin n), _] =>
      C' == C && (n == "ValueError.__new__" && (!cd.hasDel && (cd.hasDict && PySem.HandSPX.refsVE bm)))
    | _, _ => false)
  | _ => false)
theorem oexO_ok {K : Frag} {C : Addr} (q : oexO K C = true) :
    ∃ nm qn N bs bm sn sub ab col dd k0 k1 k2 k3 k5, K.lookup C = some (excClassObj nm qn C N bs bm true sn sub ab col dd k0 k1 k2 k3 k5 "ValueError.__new__") ∧ PySem.HandSPX.refsVE bm = true := by
  unfold oexO at q
  split at q
  · rename_i dd cd sl ho
    split at q
    · rename_i c1 bm k0 k1 k2 k3 n k5 hm hs
      simp only [Bool.and_eq_true, beq_iff_eq, Bool.not_eq_true'] at q
      obtain ⟨e1, e2, e3, e4, e5⟩ := q
      subst e1 e2
      obtain ⟨nm, bs, mro, ns, qn, hd, sn, sub, ab, col, dl⟩ := cd
      simp only at hm e3 e4
      subst hm e3 e4
      obtain ⟨l⟩ := sl
      simp only at hs
      subst hs
      exact ⟨nm, qn, ns, bs, bm, sn, sub, ab, col, dd, k0, k1, k2, k3, k5, ho, e5⟩
    · cases q
  · cases q
def oexB (K : Frag) (C : Addr) : Bool := oexO K C && (He.eqO (PySem.W.findIn K (.ref C) "__setattr__") (some (some (.builtin "object.__setattr__"))) &&
  (decide (PySem.W.subIn K (.ref C) (.type "BaseException") = some true) && (decide (PySem.W.typeIn K (.ref C) = some (.type "type")) && PySem.W.keepIn K (.ref C))))
theorem oexB_ok {K : Frag} {C : Addr} (q : oexB K C = true) : OexC K C := by
  obtain ⟨a, q⟩ := He.ba q
  obtain ⟨b, q⟩ := He.ba q
  obtain ⟨c, q⟩ := He.ba q
  obtain ⟨d, e⟩ := He.ba q
  exact ⟨oexO_ok a, He.eqO_ok b, of_decide_eq_true c, of_decide_eq_true d, e⟩
def excB (K : Frag) (D : Addr) : Bool := xfB K D && (He.eqO (PySem.W.findIn K (.ref D) "__class__") (some (some (.builtin "object.__class__"))) &&
  (He.eqO (PySem.W.specialIn K (.builtin "object.__class__") "__get__") (some (some (.builtin "getset_descriptor.__get__"))) &&
  (decide (PySem.W.takesIn K (.builtin "object.__class__") = some true) && decide (PySem.W.mroIn K D (.type "object") = some true))))
theorem excB_ok {K : Frag} {D : Addr} (q : excB K D = true) : ExcC K D := by
  obtain ⟨a, q⟩ := He.ba q
  obtain ⟨b, q⟩ := He.ba q
  obtain ⟨c, q⟩ := He.ba q
  obtain ⟨d, e⟩ := He.ba q
  have x := xfB_ok a
  exact ⟨x.ga, x.gg, x.exC, x.hdC, He.eqO_ok b, He.eqO_ok c, of_decide_eq_true d, of_decide_eq_true e⟩
end S
namespace S
open PySem PySem.Spec PyProof.Rows L2
/-! promises by their number of arguments -/
def Sp1 (f : V → Hp → VK → XK → Prop) : Sp := fun vs H Q E => ∃ x, vs = [x] ∧ f x H Q E
def Sp2 (f : V → V → Hp → VK → XK → Prop) : Sp := fun vs H Q E => ∃ x y, vs = [x, y] ∧ f x y H Q E
def Sp3 (f : V → V → V → Hp → VK → XK → Prop) : Sp := fun vs H Q E => ∃ x y z, vs = [x, y, z] ∧ f x y z H Q E
def Sp4 (f : V → V → V → V → Hp → VK → XK → Prop) : Sp := fun vs H Q E => ∃ x y z u, vs = [x, y, z, u] ∧ f x y z u H Q E
def Sp5 (f : V → V → V → V → V → Hp → VK → XK → Prop) : Sp := fun vs H Q E => ∃ x y z u v, vs = [x, y, z, u, v] ∧ f x y z u v H Q E
section
variable {vs : List V} {H : Hp} {Q : VK} {E : XK}
theorem splen1 {f} (h : Sp1 f vs H Q E) : vs.length = 1 := by obtain ⟨_, rfl, _⟩ := h; rfl
theorem splen2 {f} (h : Sp2 f vs H Q E) : vs.length = 2 := by obtain ⟨_, _, rfl, _⟩ := h; rfl
theorem splen3 {f} (h : Sp3 f vs H Q E) : vs.length = 3 := by obtain ⟨_, _, _, rfl, _⟩ := h; rfl
theorem splen4 {f} (h : Sp4 f vs H Q E) : vs.length = 4 := by obtain ⟨_, _, _, _, rfl, _⟩ := h; rfl
theorem splen5 {f} (h : Sp5 f vs H Q E) : vs.length = 5 := by obtain ⟨_, _, _, _, _, rfl, _⟩ := h; rfl
end
/-! built-ins by name -/
theorem boot_int : bootBuiltins "int" = some (.type "int") := by decide +kernel
theorem boot_bool : bootBuiltins "bool" = some (.type "bool") := by decide +kernel
theorem boot_str : bootBuiltins "str" = some (.type "str") := by decide +kernel
theorem boot_list : bootBuiltins "list" = some (.type "list") := by decide +kernel
theorem boot_tuple : bootBuiltins "tuple" = some (.type "tuple") := by decide +kernel
theorem boot_dict : bootBuiltins "dict" = some (.type "dict") := by decide +kernel
theorem boot_len : bootBuiltins "len" = some (.builtin "len") := by decide +kernel
theorem boot_abs : bootBuiltins "abs" = some (.builtin "abs") := by decide +kernel
theorem boot_isinstance : bootBuiltins "isinstance" = some (.builtin "isinstance") := by decide +kernel
section
variable {X : Cx} {CX : CXT} {k n : Nat} {f C : Addr} {fd : FuncData} {ps ks : List Str} {sp : Sp} {E : L2.St → XK} {x m : Str} {p pos apos : Pos} {o e : Expr} {es : List Expr} {kws : List Keyword} {ta : TE} {t tk : TA} {g : List Value → List Value → List Value} {gV : List V → List V → List V}
theorem pe_globI {i : Int} (hg : Gl X x) (h : ∃ t, X.mg x = some (.int i t)) (hd : (x == ("__debug__" : Str)) = false := by decide) : PE X (.Name x pos) (tC (.int i)) := by
  obtain ⟨t, h⟩ := h
  exact pe_glob hg h ⟨t, rfl⟩ hd
theorem pe_globS {z : Str} (hg : Gl X x) (h : ∃ t, X.mg x = some (.str z t)) (hd : (x == ("__debug__" : Str)) = false := by decide) : PE X (.Name x pos) (tC (.str z)) := by
  obtain ⟨t, h⟩ := h
  exact pe_glob hg h ⟨t, rfl⟩ hd
/-! what is raised, wished for at the slots -/
theorem pas0 {X : Cx} : ∀ σ : L2.St, PassesAt (L2.CX X.prog X.w) X σ E0 := fun σ pins H s e s' I c => passL pins σ H s e s' I c
theorem pasE {X : Cx} {W : WX} (tk : Takes X W) : ∀ σ : L2.St, PassesAt (L2.CX X.prog X.w) X σ (fun cls d H => W cls d σ H) := fun σ => passAt tk σ
theorem own_of {K : Value → Shared → Prop} {E1 : Value → Shared → Prop} (hx : X.xe = fun e s' => wpAny (model X.prog X.w) X.A (leaving X.env e) (fun _ s2 => K e s2) E1 s') : PassesOwn (model X.prog X.w) X.A X.env X.xe := passes_of hx
theorem kb_of_binds {K : Frag} {ds : List Value} {dvs : List V} (hb : Binds K fd ps ds) (hd : Vals dvs ds) (hl : n + dvs.length = ps.length) : KBn K fd ps n [] (fun us _ => us ++ ds) (fun vs _ => vs ++ dvs) where
  to := fun s us ws k l1 l2 => by
    have e : ([] : List Str).zip ws = [] := rfl
    rw [e]
    exact hb s us k (by rw [List.length_append, l1, ← hd.length]; exact hl)
  rel := fun r _ => r.append hd
/-! f(e, .., k = v, ..); C(e, .., k = v, ..); o.m(e, .., k = v, ..) -/
def tFnS (n m : Nat) (sp : Sp) (gV : List V → List V → List V) (E : L2.St → XK) (t tk : TA) : TE := fun σ H Q =>
  t σ H fun vs H1 => tk σ H1 fun zs H2 => vs.length = n ∧ zs.length = m ∧ sp (gV vs zs) H2 Q (E σ)
def tMkS (C : Addr) (n m : Nat) (sp : Sp) (gV : List V → List V → List V) (E : L2.St → XK) (t tk : TA) : TE := fun σ H Q =>
  t σ H fun vs H1 => tk σ H1 fun zs H2 => vs.length = n ∧ zs.length = m ∧ ∀ x dx, H2 x = none → H2 dx = none → dx ≠ x →
    sp (gV (.ref x :: vs) zs) (upd (upd H2 dx (.own x)) x (.ins C dx [])) (fun v H3 => v = .non ∧ Q (.ref x) H3) (E σ)
def tMtS (C : Addr) (m : Str) (n l : Nat) (sp : Sp) (gV : List V → List V → List V) (E : L2.St → XK) (ta : TE) (t tk : TA) : TE := fun σ H Q =>
  ta σ H fun x H1 => ∃ a dx fs, x = .ref a ∧ H1 a = some (.ins C dx fs) ∧ fs.lookup m = none ∧
    t σ H1 fun vs H2 => tk σ H2 fun zs H3 => vs.length = n ∧ zs.length = l ∧ sp (gV (x :: vs) zs) H3 Q (E σ)
section
variable {pins : List (Addr × Obj)} {σ : L2.St} {H : Hp} {s : Shared} {Q : VK} {us ws : List Value} {vs zs : List V}
theorem run_S (F : FnOk X.prog X.w X.K X.mg X.base CX k f fd ps sp) (hr : Room k X.A) (hb : KBn X.K fd ps n ks g gV) (hx : PassesAt CX X σ (E σ)) (I : Inv X pins σ H s) (r : Vals vs us) (rz : Vals zs ws)
    (l1 : vs.length = n) (l2 : zs.length = ks.length) (h : sp (gV vs zs) H Q (E σ)) : wpAny (model X.prog X.w) X.A (call (.ref f) us (ks.zip ws)) (EP X pins σ Q) X.xe s := by
  have a1 : us.length = n := r.length.symm.trans l1
  have a2 : ws.length = ks.length := rz.length.symm.trans l2
  refine wpAny_call (codeAny_mono (F.run X.A X.stack s H ⟨us, ks.zip ws⟩ (g us ws) (gV vs zs) Q (E σ) hr I.env0 (hb.to s us ws I.kIn a1 a2) (hb.rel r rz) h) fun r s' hq => ?_)
  match r, hq with
  | .error e, hq => exact hx pins H s e s' I hq
  | .ok (.ret u), hq => exact I.after hq
  | .ok .next, hq => exact hq.elim
  | .ok .brk, hq => exact hq.elim
  | .ok .cont, hq => exact hq.elim
theorem run_mkS (M : Mk X.K C f) (F : FnOk X.prog X.w X.K X.mg X.base CX k f fd ps sp) (hr : Room (k + 1) X.A) (hb : KBn X.K fd ps (n + 1) ks g gV) (hx : PassesAt CX X σ (E σ)) (I : Inv X pins σ H s) (r : Vals vs us) (rz : Vals zs ws)
    (l1 : vs.length = n) (l2 : zs.length = ks.length) (h : ∀ x dx, H x = none → H dx = none → dx ≠ x → sp (gV (.ref x :: vs) zs) (upd (upd H dx (.own x)) x (.ins C dx [])) (fun v H2 => v = .non ∧ Q (.ref x) H2) (E σ)) :
    wpAny (model X.prog X.w) X.A (call (.ref C) us (ks.zip ws)) (EP X pins σ Q) X.xe s := by
  have hq := h (s.heap.objs.size + 1) s.heap.objs.size (I.hok.fresh (Nat.le_succ _)) (I.hok.fresh (Nat.le_refl _)) (Nat.ne_of_lt (Nat.lt_succ_self _))
  have J := Inv.made (C := C) I
  have r1 : Vals (V.ref (s.heap.objs.size + 1) :: vs) (Value.ref (s.heap.objs.size + 1) :: us) := .cons rfl r
  have a1 : (Value.ref (s.heap.objs.size + 1) :: us).length = n + 1 := by rw [← r1.length]; exact congrArg Nat.succ l1
  have a2 : ws.length = ks.length := rz.length.symm.trans l2
  have run := F.run _ X.stack _ _ ⟨Value.ref (s.heap.objs.size + 1) :: us, ks.zip ws⟩ (g (Value.ref (s.heap.objs.size + 1) :: us) ws) _ _ (E σ) (hr.make C us (ks.zip ws)) (J.env0.make C us (ks.zip ws)) (hb.to _ _ ws J.kIn a1 a2) (hb.rel r1 rz) hq
  refine wpAny_call (make_map (f := f) I.kIn M.makes M.init (beq_iff_eq.mp M.fn) (codeAny_mono run fun r s' hq2 => ?_))
  match r, hq2 with
  | .error e, hq2 => exact hx pins _ _ e s' J hq2
  | .ok (.ret u), hq2 =>
    obtain ⟨v, H2, J2, rv, ev, q3⟩ := J.after hq2
    subst ev
    exact ⟨rv, ⟨V.ref (s.heap.objs.size + 1), H2, J2, rfl, q3⟩⟩
  | .ok .next, hq2 => exact hq2.elim
  | .ok .brk, hq2 => exact hq2.elim
  | .ok .cont, hq2 => exact hq2.elim
end
theorem pe_fnS (F : FnOk X.prog X.w X.K X.mg X.base CX k f fd ps sp) (hr : Room k X.A) (hg : Gl X x) (hm : X.mg x = some (.ref f)) (hk : PySem.W.keepIn X.K (.ref f) = true) (hb : KBn X.K fd ps n ks g gV) (hx : ∀ σ, PassesAt CX X σ (E σ))
    (ha : PA X (e :: es) t) (hkw : PK X kws tk) (hall : (backToKw pos (keywordEach kws X.env)).all (·.1.isSome) = true) (hks : (backToKw pos (keywordEach kws X.env)).filterMap (·.1) = ks)
    (hdb : (x == ("__debug__" : Str)) = false := by decide) (he : starEach (e :: es) X.env = (false, eval e X.env) :: starEach es X.env := by rfl)
    (hpl : ((backTo pos (starEach (e :: es) X.env)).any (·.1) || (backToKw pos (keywordEach kws X.env)).any (·.1.isNone)) = false := by rfl) :
    PE X (.Call (.Name x p) (e :: es) kws pos) (tFnS n ks.length sp gV E t tk) := ⟨fun pins s σ H Q I h =>
  wpAny_Call_Name_kw (ld_glob I hg hm (PySem.W.callWith_KW (h₀ := X.base) I.ok.mod.kin hk hall (thn (ha.run pos pins s σ H _ I h) fun us s1 ⟨vs, H1, I1, r, q⟩ =>
    thn (hkw.run pos pins s1 σ H1 _ I1 q) fun ws s2 ⟨zs, H2, I2, rz, l1, l2, q2⟩ => ⟨I2.kIn, by rw [hks]; exact run_S F hr hb (hx σ) I2 r rz l1 l2 q2⟩) hpl he) hdb)⟩
theorem pe_mkS (M : Mk X.K C f) (F : FnOk X.prog X.w X.K X.mg X.base CX k f fd ps sp) (hr : Room (k + 1) X.A) (hg : Gl X x) (hm : X.mg x = some (.ref C)) (hb : KBn X.K fd ps (n + 1) ks g gV) (hx : ∀ σ, PassesAt CX X σ (E σ))
    (ha : PA X (e :: es) t) (hkw : PK X kws tk) (hall : (backToKw pos (keywordEach kws X.env)).all (·.1.isSome) = true) (hks : (backToKw pos (keywordEach kws X.env)).filterMap (·.1) = ks)
    (hdb : (x == ("__debug__" : Str)) = false := by decide) (he : starEach (e :: es) X.env = (false, eval e X.env) :: starEach es X.env := by rfl)
    (hpl : ((backTo pos (starEach (e :: es) X.env)).any (·.1) || (backToKw pos (keywordEach kws X.env)).any (·.1.isNone)) = false := by rfl) :
    PE X (.Call (.Name x p) (e :: es) kws pos) (tMkS C n ks.length sp gV E t tk) := ⟨fun pins s σ H Q I h =>
  wpAny_Call_Name_kw (ld_glob I hg hm (PySem.W.callWith_KW (h₀ := X.base) I.ok.mod.kin M.kp hall (thn (ha.run pos pins s σ H _ I h) fun us s1 ⟨vs, H1, I1, r, q⟩ =>
    thn (hkw.run pos pins s1 σ H1 _ I1 q) fun ws s2 ⟨zs, H2, I2, rz, l1, l2, q2⟩ => ⟨I2.kIn, by rw [hks]; exact run_mkS M F hr hb (hx σ) I2 r rz l1 l2 q2⟩) hpl he) hdb)⟩
theorem pe_mtS {pl : Sem Bool} (he : PE X o ta) (c : Cls X.K C) (hm : Meth X.K C m f) (F : FnOk X.prog X.w X.K X.mg X.base CX k f fd ps sp) (hr : Room k X.A) (hb : KBn X.K fd ps (n + 1) ks g gV) (hx : ∀ σ, PassesAt CX X σ (E σ))
    (ha : PA X (e :: es) t) (hkw : PK X kws tk) (hall : (backToKw pos (keywordEach kws X.env)).all (·.1.isSome) = true) (hks : (backToKw pos (keywordEach kws X.env)).filterMap (·.1) = ks)
    (hst : starEach (e :: es) X.env = (false, eval e X.env) :: starEach es X.env := by rfl)
    (hpl : ((backTo pos (starEach (e :: es) X.env)).any (·.1) || (backToKw pos (keywordEach kws X.env)).any (·.1.isNone)) = false := by rfl)
    (ht : eval (.Call (.Attribute o m apos) (e :: es) kws pos) X.env = (do
      let ov ← eval o X.env
      standAt apos.atName
      let (f, first) ← holding [ov] (getMethod ov m pl)
      callWith pos f first (backTo pos (starEach (e :: es) X.env)) (backToKw pos (keywordEach kws X.env))) := by rfl) :
    PE X (.Call (.Attribute o m apos) (e :: es) kws pos) (tMtS C m n ks.length sp gV E ta t tk) := by
  refine ⟨fun pins s σ H Q I h => PySem.W.methodCall_KW (pl := pl) (thn (he.run pins s σ H _ I h) fun u s1 ⟨x, H1, I1, rx, a, dx, fs, ex, ea, l, q⟩ => ?_) ht⟩
  subst ex
  cases (show u = Value.ref a from rx)
  refine getmeth_ok I1 ea c hm l (PySem.W.callWith_KW (first := [.ref a]) (h₀ := X.base) I.ok.mod.kin hm.kp hall (thn (ha.run pos pins s1 σ H1 _ I1 q) fun us s2 ⟨vs, H2, I2, r, q2⟩ =>
    thn (hkw.run pos pins s2 σ H2 _ I2 q2) fun ws s3 ⟨zs, H3, I3, rz, l1, l2, q3⟩ => ⟨I3.kIn, ?_⟩) hpl hst)
  rw [hks]
  exact run_S (us := .ref a :: us) (vs := .ref a :: vs) F hr hb (hx σ) I3 (.cons rfl r) rz (congrArg Nat.succ l1) l2 q3
theorem pe_mtS0 {pl : Sem Bool} (he : PE X o ta) (c : Cls X.K C) (hm : Meth X.K C m f) (F : FnOk X.prog X.w X.K X.mg X.base CX k f fd ps sp) (hr : Room k X.A) (hb : KBn X.K fd ps (0 + 1) ks g gV) (hx : ∀ σ, PassesAt CX X σ (E σ))
    (hkw : PK X kws tk) (hall : (backToKw pos (keywordEach kws X.env)).all (·.1.isSome) = true) (hks : (backToKw pos (keywordEach kws X.env)).filterMap (·.1) = ks)
    (hpl : ((backTo pos (starEach [] X.env)).any (·.1) || (backToKw pos (keywordEach kws X.env)).any (·.1.isNone)) = false := by rfl)
    (ht : eval (.Call (.Attribute o m apos) [] kws pos) X.env = (do
      let ov ← eval o X.env
      standAt apos.atName
      let (f, first) ← holding [ov] (getMethod ov m pl)
      callWith pos f first (backTo pos (starEach [] X.env)) (backToKw pos (keywordEach kws X.env))) := by rfl) :
    PE X (.Call (.Attribute o m apos) [] kws pos) (tMtS C m 0 ks.length sp gV E ta tNil tk) := by
  refine ⟨fun pins s σ H Q I h => PySem.W.methodCall_KW (pl := pl) (thn (he.run pins s σ H _ I h) fun u s1 ⟨x, H1, I1, rx, a, dx, fs, ex, ea, l, q⟩ => ?_) ht⟩
  subst ex
  cases (show u = Value.ref a from rx)
  refine getmeth_ok I1 ea c hm l (PySem.W.callWith_KW0 (first := [.ref a]) (h₀ := X.base) I.ok.mod.kin hm.kp hall
    (thn (hkw.run pos pins s1 σ H1 _ I1 q) fun ws s3 ⟨zs, H3, I3, rz, l1, l2, q3⟩ => ⟨I3.kIn, ?_⟩) hpl)
  rw [hks]
  exact run_S (us := [.ref a]) (vs := [.ref a]) F hr hb (hx σ) I3 (.cons rfl .nil) rz rfl l2 q3
/-! raise C(e, ..), C with an own __init__ -/
theorem ps_raiseO {W : WX} {fI : Addr} {pos2 : Pos} (hc : X.calm = true) (tk : Takes X W) (T : OexC X.K C) (iC : PySem.W.findIn X.K (.ref C) "__init__" = some (some (.ref fI))) (tI : PySem.W.typeIn X.K (.ref fI) = some (.type "function"))
    (F : FnOk X.prog X.w X.K X.mg X.base (L2.CX X.prog X.w) k fI fd ps sp) (hr : Room (k + 1) X.A) (hb : KBn X.K fd ps n [] (fun us _ => us ++ []) (fun vs _ => vs ++ [])) (hg : Gl X x) (hm : X.mg x = some (.ref C)) (ha : PA X (e :: es) t)
    (hn : n = ps.length := by rfl)
    (hdb : (x == ("__debug__" : Str)) = false := by decide) (he : starEach (e :: es) X.env = (false, eval e X.env) :: starEach es X.env := by rfl) (hpl : (backTo pos (starEach es X.env)).any (·.1) = false := by rfl) :
    PS X (.Raise (some (.Call (.Name x p) (e :: es) [] pos)) none pos2) (fun _ σ H => tMkO C sp [] t σ H fun cls d H' => W cls d σ H') := by
  refine ps_raise hc tk (pmk_oex (ds := []) (dvs := []) T iC tI F hr (fun s us k hl => ?_) .nil passL hg hm ha hdb he hpl)
  exact hb.to s us [] k (by rw [List.append_nil] at hl; rw [hl, hn]) rfl
end
/-! isinstance of the caught error, with a dict of its own -/
section
open PySem.W PySem.Calls
variable {prog : Program} {w : World} {A : Around} {Ex : Value → Shared → Prop} {s : Shared} {K : Frag} {x D : Addr} {ox : Obj} {od : Option Obj}
theorem findObj_dataX {C : Addr} {name : Str} {a g : Value} {od : Option Obj} (hc : (clsIn K C).isSome = true) (ha : findIn K (.ref C) name = some (some a)) (hg : specialIn K a "__get__" = some (some g)) (ht : takesIn K a = some true) : findObj K C od name = some (.bind g a) := by
  obtain ⟨cd, hc⟩ := Option.isSome_iff_exists.mp hc
  unfold findObj
  simp [hc, ha, hg, ht]
theorem kin_classX (c : ExcC K D) {Q : Option Value → Shared → Prop} (X : K.In s.heap) (I : InstAt s.heap x ox D od) (h : Q (some (.ref D)) { s with toks := s.toks + 1 }) : wpAny (model prog w) A (getAttr? (.ref x) "__class__") Q Ex s := by
  have hf : findObj K D od "__class__" = some (.bind (.builtin "getset_descriptor.__get__") (.builtin "object.__class__")) :=
    findObj_dataX (by obtain ⟨cd, hc, _⟩ := any_some c.hd; rw [hc]; rfl) c.ha c.hn c.ht
  obtain ⟨hp, g, d, t, os⟩ := s
  have a0 := I.type (M := model prog w)
  have a1 := looks_findIn (M := model prog w) X c.hg
  have a2 := looks_findIn (M := model prog w) X c.hk
  have a3 := looks_find (M := model prog w) X I hf
  have sub : Looks (model prog w) hp (isInstance (.ref x) (.type "BaseException")) true := a0.andThen (looks_subIn X c.hs)
  have hx2 : (Value.builtin "BaseException.__getattribute__" == Value.builtin "object.__getattribute__") = false := by decide +kernel
  unfold getAttr? getAttrBy? getAttrBy
  refine wpAny_bind (wpAny_mkText (wpAny_bind (wpAny_attempt (wpAny_holding (wpAny_bind (a0.at (wpAny_bind (a1.at ?_))))))))
  have hx1 : (onTheHeap (Value.ref D) && Value.builtin "BaseException.__getattribute__" == Value.builtin "object.__getattribute__") = false := by
    rw [hx2]; rfl
  dsimp only
  rw [hx1, if_neg Bool.false_ne_true]
  unfold getAttrByItsOwn hookBefore
  refine wpAny_bind ?_
  rw [if_pos (show onTheHeap (Value.ref D) = true from rfl)]
  refine a2.at (wpAny_bind (wpAny_attempt (wpAny_holding ?_)))
  unfold callGetattribute
  have hx0 : ∀ z : Bool, (false && z) = false := fun _ => rfl
  rw [hx0, if_neg Bool.false_ne_true]
  unfold boundAndCalled
  rw [PySem.F.excAttr_ValueError.ga.bind (.ref x)]
  refine wpAny_bind (wpAny_pure ?_)
  refine wpAny_call (codeAny_call_builtin PySem.F.excAttr_ValueError.ga.plain PySem.F.entry_bexc_ga ?_)
  refine @check_slot (model prog w) _ _ ⟨hp, g, d, t + 1, os⟩ "BaseException.__getattribute__" "BaseException" "__getattribute__" (.ref x) [.str "__class__" t] [] _ (by decide +kernel) (by decide +kernel) sub (PySem.F.args_bexc_ga (.ref x) (.str "__class__" t)) ?_
  unfold Builtin.«object.__getattribute__»
  refine wpAny_bind (wpAny_of_eq (a := ((Value.ref x : Value), [Value.str "__class__" t])) (by first | rfl | (simp only [slotArgs]; rfl)) ?_)
  refine wpAny_bind (wpAny_pure (wpAny_bind (a0.at (wpAny_bind (a3.at ?_)))))
  refine wpAny_bind (wpAny_holding (wpAny_call (class_get (s := ⟨hp, g, d, t + 1, os⟩) (ox := ox) (od := od) X I c.hm ?_)))
  refine wpAny_pure ?_
  dsimp only
  rw [handedOut_of (v := .ref D) rfl]
  first
    | exact wpAny_pure (wpAny_pure h) | exact wpAny_pure h | exact wpAny_pure (wpAny_bind (wpAny_pure (wpAny_pure h)))
theorem kitx_excX (c : ExcC K D) : KitX K (.ref x) (.ref D) (fun h => InstAt h x ox D od) where
  ty := fun _ _ _ I => I.type
  it := fun _ _ X _ A' Q' E' s' k q => by
    obtain ⟨cd, hc, _⟩ := any_some c.hd
    unfold clsIn at hc
    split at hc
    · rename_i ho
      unfold isType loadHead
      exact wpAny_bind (wpAny_loadPart (k _ _ (X _ _ ho)) (wpAny_pure q))
    · cases hc
  ne := fun h tp dd its n sl X htp => (handS_kitx_exc (x := x) (ox := ox) c.hg c.hk c.hs c.hd c.ha c.hn c.ht c.hm).ne h tp dd its n sl X htp
  ca := fun X I k => kin_classX c X I k
end
/-- isinstance(e, c), e the error that the suite holds (class D, dict d) -/
def rIsX (K : Frag) (D a : Addr) (cls : Value) (d : Option Addr) : List V → Hp → VK → Prop := fun xs H Q => cls = .ref D ∧
  (d = none ∨ ∃ dd fs, d = some dd ∧ H dd = some (.xd fs)) ∧ ∃ (c : V) (cv : Value) (b : Bool), xs = [.ref a, c] ∧ ClsV c cv ∧ PySem.W.kitOne K (.ref D) cv = some b ∧ Q (.bl b) H
theorem call_isX {X : Cx} {a D : Addr} {oe : Obj} {cls : Value} {d : Option Addr} {pn : List (Addr × Obj)} (C : ExcC X.K D) (hz : Zc cls d oe) (hf : ∃ vs, oe.data = .fields vs) :
    CallR (X.suite a ((a, oe) :: pn)) (.builtin "isinstance") (rIsX X.K D a cls d) := by
  intro pins s σ H xs us Q I r h
  obtain ⟨ec, hd, c, cv, b, rfl, hcv, e, q⟩ := h
  obtain ⟨u1, u2, rfl, r1, r2⟩ := vals2 r
  cases (show u1 = Value.ref a from r1)
  cases hcv.eq r2
  obtain ⟨ha, _⟩ := I.pin (a, oe) (List.mem_append_left _ List.mem_cons_self)
  obtain ⟨vs, hv⟩ := hf
  have nc : PySem.W.notCls oe = true := by unfold PySem.W.notCls; rw [hv]
  obtain ⟨h1, h2⟩ := hz
  subst ec
  obtain ⟨od, J⟩ : ∃ od, PySem.W.InstAt s.heap a oe D od := by
    rcases hd with rfl | ⟨dd, fs, rfl, hx⟩
    · exact ⟨none, ha, h1, nc, by rw [h2]; trivial⟩
    · obtain ⟨mA, hns, _⟩ := (show ObjOk X.prog X.w H s.heap dd (.xd fs) from I.hok dd _ hx)
      obtain ⟨od, ho, _⟩ := lookIn_ns hns
      exact ⟨some od, ha, h1, nc, by rw [h2]; exact ho⟩
  exact PySem.W.kia_one (kitx_excX C) I.kIn J e (fun z => nomatch z) fun tk => ⟨.bl b, H, I.tok tk, rfl, q⟩
/-! an instance of an own class: what isinstance asks of its class -/
structure InsT (K : Frag) (C : Addr) : Prop where
  ha : PySem.W.findIn K (.ref C) "__class__" = some (some (.builtin "object.__class__"))
  hn : PySem.W.specialIn K (.builtin "object.__class__") "__get__" = some (some (.builtin "getset_descriptor.__get__"))
  ht : PySem.W.takesIn K (.builtin "object.__class__") = some true
  hm : PySem.W.mroIn K C (.type "object") = some true
def insB (K : Frag) (C : Addr) : Bool := He.eqO (PySem.W.findIn K (.ref C) "__class__") (some (some (.builtin "object.__class__"))) &&
  (He.eqO (PySem.W.specialIn K (.builtin "object.__class__") "__get__") (some (some (.builtin "getset_descriptor.__get__"))) &&
  (decide (PySem.W.takesIn K (.builtin "object.__class__") = some true) && decide (PySem.W.mroIn K C (.type "object") = some true)))
theorem insB_ok {K : Frag} {C : Addr} (q : insB K C = true) : InsT K C := by
  obtain ⟨b, q⟩ := He.ba q
  obtain ⟨c, q⟩ := He.ba q
  obtain ⟨d, e⟩ := He.ba q
  exact ⟨He.eqO_ok b, He.eqO_ok c, of_decide_eq_true d, of_decide_eq_true e⟩
theorem InsT.ty {K : Frag} {C a dx : Addr} {H : Hp} {fs : List (Str × V)} (i : InsT K C) (c : Cls K C) (h : H a = some (.ins C dx fs)) : TyX K H (.ref a) (.ref C) := .base (.ins h c i.ha i.hn i.ht i.hm)
/-! * where one factor is small, or both have less than a million bits together -/
def CMulA (i j : Int) : Prop := CMul i j ∨ CMulW i j
theorem op_mulA {X : Cx} : OpR X (binaryOp .Mult) (rI CMulA fun i j => .int (i * j)) := opI fun _ _ _ _ _ _ _ hc q =>
  hc.elim (fun h => mul_int q h.ok) (fun h => mul_int q h.ok)
/-- x is an int (no bool), or known to be none -/
inductive IsI (K : Frag) (H : Hp) : V → Bool → Prop where
  | int (i : Int) : IsI K H (.int i) true
  | bl (b : Bool) : IsI K H (.bl b) false
  | oth {x : V} {t : Value} (h : TyX K H x t) (e : PySem.W.kitOne K t (.type "int") = some false) : IsI K H x false
/-! the end of a law: a head by facts, the script's bits told -/
theorem walk_X {l : PySem.W.OpenLaw} {n k : Nat} {q : Program} {loose : List Str} {XP : (Str → Option Value) → Heap → Prop} {YP : World → Heap → Prop} {d : DefRec} {x : Str}
    (hn : l.most = some n) (hn2 : n ≤ sizeLine) (hdf : d.params.defaults = []) (hr : Room k callerA)
    (F : ∀ (w : World) (mg : Str → Option Value) (fa : Addr) (h : Heap), YP w h → h.Ns mainGlobals mg → mg d.name = some (.ref fa) →
      ∃ (K : Frag) (fd : FuncData) (sp : Sp), K.In h ∧ (∀ (s : Shared) (u : Value), BindsTo s fd ⟨[u], []⟩ [(x, u)]) ∧
        (∀ (H : Hp) (a : Addr) (ns : List Int), ns.length ≤ n → (∀ z ∈ ns, Builtin.Int.intBits z ≤ 1048576) → Only H → SqL K H a (ns.map V.int) → sp [.ref a] H (fun v _ => v = .bl true) E0) ∧
        ∀ base : Heap, K.In base → base.Ns mainGlobals mg → FnOk l.prog w K mg base (L2.CX l.prog w) k fa fd [x] sp) :
    PySem.W.WalkO q loose XP YP l.row.toRowW d [] (fun f vs => PySem.call f vs) := by
  refine Att.attach_callB hn hdf fun w s0 s1 mg mb fa o pm cd doc a vs ns G Y ho hd hcd hmg hobj hints hlen hbits hg => ?_
  obtain ⟨K, fd, sp, KX, hb, hsp, hF⟩ := F w mg fa _ Y G.T.g hmg
  refine law_call KX G.T.g G.T.b G.T.builtins G.T.nolimit hg hobj hints (Nat.le_trans hlen hn2) hr hF hb (fun H hO hS => hsp H a ns hlen hbits hO hS) fun H e s' c => ?_
  obtain ⟨_, _, _, _, _, _, _, _, _, _, _, _, z⟩ := c
  exact z
end S
namespace S
open PySem PySem.Spec PyProof.Rows L2
section
open PySem.W PySem.Calls
variable {prog : Program} {w : World} {A : Around} {Ex : Value → Shared → Prop} {s : Shared} {K : Frag} {x C f : Addr} {ox : Obj} {od : Option Obj} {b tb : Value}
/-- object.__ne__ over an own __eq__ that gives a bool -/
theorem objNe_K {Q : Fin → Shared → Prop} (hu : A.units < cLine) (X : K.In s.heap) (I : InstAt s.heap x ox C od) (hs : findIn K (.ref C) "__eq__" = some (some (.ref f))) (hf : isFn K (.ref f) = true)
    (h : wpAny (model prog w) A (call (.ref f) [.ref x, b]) (fun v s' => ∃ r, v = .bool r ∧ Q (.done (.ret (.bool (!r)))) s') Ex s) :
    wpAny (model prog w) A (Builtin.«object.__ne__» ⟨[.ref x, b], []⟩) Q Ex s := by
  unfold Builtin.«object.__ne__»
  refine wpAny_bind (wpAny_of_eq (a := ((Value.ref x : Value), [b])) (by first | rfl | (simp only [slotArgs]; rfl)) ?_)
  dsimp only
  refine wpAny_bind (wpAny_cRoomFor hu ?_)
  refine wpAny_bind (ifBound_K X I hs hf (wpAny_mono h (fun v s' hv => ?_) fun _ _ e => e))
  obtain ⟨r, rfl, q⟩ := hv
  dsimp only
  refine wpAny_bind (wpAny_truthy_bool ?_)
  first | exact wpAny_pure q | exact q
theorem ne_K {Q : Value → Shared → Prop} (hu : A.units + 1 < cLine) (X : K.In s.heap) (I : InstAt s.heap x ox C od) (hb : Looks (model prog w) s.heap (typeOf b) tb) (hn : notFirst K C tb = true)
    (hne : findIn K (.ref C) "__ne__" = some (some (.builtin "object.__ne__"))) (hm : mroIn K C (.type "object") = some true)
    (hs : findIn K (.ref C) "__eq__" = some (some (.ref f))) (hf : isFn K (.ref f) = true)
    (h : wpAny (model prog w) A.in1 (call (.ref f) [.ref x, b]) (fun v s' => ∃ r, v = .bool r ∧ Q (.bool (!r)) s') Ex s) : wpAny (model prog w) A (richCompare .NotEq (.ref x) b) Q Ex s := by
  have one : wpAny (model prog w) A (tryCompare (.ref x) "__ne__" b) (fun r s' => ∃ v, r = some v ∧ Q v s') Ex s := by
    unfold tryCompare
    refine wpAny_bind (NtL.csib (I.type.andThen (looks_findIn X hne)) (F.cmp_object.ne.bind _) ?_)
    refine wpAny_call (codeAny_call_builtin F.cmp_object.ne.plain F.cmpEntry_ne (check_slot F.cmpKind_ne F.cmpSplit_ne (I.type.andThen (looks_mroIn X hm)) (F.cmpArgs_ne _ _) ?_))
    refine objNe_K (A := A.in1) hu X I hs hf (wpAny_mono h (fun v s' hv => ?_) fun _ _ e => e)
    obtain ⟨r, rfl, q⟩ := hv
    exact ⟨r, rfl, wpAny_pure ⟨_, rfl, q⟩⟩
  unfold richCompare
  simp only [oneThing_ref]
  refine wpAny_holding (wpAny_bind (wpAny_cRoomFor (Nat.lt_of_succ_lt hu) ?_))
  rw [cmpInfo_NotEq]
  dsimp only
  refine wpAny_bind (I.type.here (wpAny_bind (hb.here ?_)))
  split
  · rename_i q
    have e : subIn K tb (.ref C) = some false := by
      rcases Bool.or_eq_true_iff.mp hn with e | e
      · rw [beq_iff_eq.mp e] at q
        simp at q
      · exact beq_iff_eq.mp e
    refine wpAny_bind ((looks_subIn X e).here ?_)
    simp only [Bool.false_eq_true, if_false]
    refine wpAny_bind (wpAny_mono one (fun r s' z => ?_) fun _ _ e => e)
    obtain ⟨v, rfl, hq⟩ := z
    exact wpAny_pure hq
  · refine wpAny_bind (wpAny_pure ?_)
    simp only [Bool.false_eq_true, if_false]
    refine wpAny_bind (wpAny_mono one (fun r s' z => ?_) fun _ _ e => e)
    obtain ⟨v, rfl, hq⟩ := z
    exact wpAny_pure hq
end
section
variable {X : Cx} {n : Nat} {C g : Addr} {sp : Sp}
/-- x op y by x's own method, both instances -/
def rOwnI (K : Frag) (C : Addr) (sp : Sp) : R2 := fun x y H Q => ∃ a dx fs b C' dy gs, x = .ref a ∧ y = .ref b ∧ H a = some (.ins C dx fs) ∧ H b = some (.ins C' dy gs) ∧ PySem.W.notFirst K C (.ref C') = true ∧ sp [x, y] H Q E0
theorem op_ownI {op : CmpOp} (hop : ∀ a b, compareOp op a b = richCompare op a b) (hs : PySem.W.findIn X.K (.ref C) (cmpInfo op).2.1 = some (some (.ref g))) (hf : PySem.W.isFn X.K (.ref g) = true)
    (F : FnR X.prog X.w X.K X.mg X.base (L2.CX X.prog X.w) n g sp) (hr : Room n X.A) : OpR X (compareOp op) (rOwnI X.K C sp) := by
  intro pins s σ H x y v u Q I rx ry h
  obtain ⟨a, dx, fs, b, C', dy, gs, rfl, rfl, ha, hb, hn, q⟩ := h
  cases (show v = Value.ref a from rx)
  cases (show u = Value.ref b from ry)
  obtain ⟨mA, O, _⟩ := ins_get I.hok ha
  obtain ⟨od, J, _⟩ := O.look
  obtain ⟨mB, O2, _⟩ := ins_get I.hok hb
  obtain ⟨od2, J2, _⟩ := O2.look
  obtain ⟨m, hF⟩ := I.fr
  rw [hop]
  refine PySem.W.cmp_K (op := op) (tb := .ref C') hr.units0 hF I.ok.mod.kin J J2.type hn hs hf ?_
  refine wpAny_mono (wpAny_call (run_fnR (us := [.ref a, .ref b]) (vs := [.ref a, .ref b]) F hr passL I (.cons rfl (.cons rfl .nil)) q)) (fun w s' z => ?_) fun _ _ x => x
  obtain ⟨z2, H2, I2, rz, qz⟩ := z
  exact SlX.cmpback rz ⟨z2, H2, I2, rz, qz⟩
/-- x != y by x's own == -/
def rNeI (K : Frag) (C : Addr) (sp : Sp) : R2 := fun x y H Q => ∃ a dx fs b C' dy gs, x = .ref a ∧ y = .ref b ∧ H a = some (.ins C dx fs) ∧ H b = some (.ins C' dy gs) ∧ PySem.W.notFirst K C (.ref C') = true ∧
  sp [x, y] H (fun z H2 => ∃ r, z = .bl r ∧ Q (.bl (!r)) H2) E0
theorem op_neI (hne : PySem.W.findIn X.K (.ref C) "__ne__" = some (some (.builtin "object.__ne__"))) (hm : PySem.W.mroIn X.K C (.type "object") = some true)
    (hs : PySem.W.findIn X.K (.ref C) "__eq__" = some (some (.ref g))) (hf : PySem.W.isFn X.K (.ref g) = true)
    (F : FnR X.prog X.w X.K X.mg X.base (L2.CX X.prog X.w) n g sp) (hr : Room (n + 1) X.A) : OpR X (compareOp .NotEq) (rNeI X.K C sp) := by
  intro pins s σ H x y v u Q I rx ry h
  obtain ⟨a, dx, fs, b, C', dy, gs, rfl, rfl, ha, hb, hn, q⟩ := h
  cases (show v = Value.ref a from rx)
  cases (show u = Value.ref b from ry)
  obtain ⟨mA, O, _⟩ := ins_get I.hok ha
  obtain ⟨od, J, _⟩ := O.look
  obtain ⟨mB, O2, _⟩ := ins_get I.hok hb
  obtain ⟨od2, J2, _⟩ := O2.look
  show wpAny _ _ (richCompare .NotEq (.ref a) (.ref b)) _ _ _
  refine ne_K (tb := .ref C') (hu_of hr) I.kIn J J2.type hn hne hm hs hf ?_
  refine wpAny_mono (wpAny_call (SlX.run_at (us := [.ref a, .ref b]) (ws := [.ref a, .ref b]) F hr.in1 I.env0.in1 passL I (.cons rfl (.cons rfl .nil)) q)) (fun w s' z => ?_) fun _ _ x => x
  obtain ⟨z2, H2, I2, rz, r, rfl, qz⟩ := z
  cases (show w = Value.bool r from rz)
  exact ⟨r, rfl, .bl (!r), H2, I2, rfl, qz⟩
theorem hop_eq : ∀ a b, compareOp .Eq a b = richCompare .Eq a b := fun _ _ => rfl
end
/-! keyword-only defaults and no others: f(e, .., k = v, ..) -/
theorem kbinds0 {K : Frag} {x qual : Str} {params : Arguments} {body : List Stmt} {scope : Scope} {kws : List (Str × V)} {f : Addr} {fd : FuncData} {ps : List Str} (F : FunD K x qual params body scope [] kws f fd) (n : Nat) (ks : List Str) (ms : List (Str × V))
    (g : {α : Type} → List α → List α → List α → List α) (hk : kws ≠ []) (hms : ∀ q ∈ ms, q ∈ kws)
    (hrel : ∀ {vs mz zs : List V} {us mv ws : List Value}, Vals vs us → Vals mz mv → Vals zs ws → Vals (g vs mz zs) (g us mv ws))
    (h : ∀ (D : Addr) (doc pm : Value) (an : Option Addr) (cdv ct : Value) (us mv ws : List Value), us.length = n → mv.length = ms.length → ws.length = ks.length →
      KwChain D ((ms.map (·.1)).zip mv) (bindArgs (PySem.W.fnOf x qual params body scope .none (.ref D) doc pm an cdv ct) ⟨us, ks.zip ws⟩) (ps.zip (g us mv ws))) :
    ∃ mv : List Value, KBn K fd ps n ks (fun us ws => g us mv ws) (fun vs zs => g vs (ms.map (·.2)) zs) := by
  obtain ⟨oc, od, dV, kV, doc, pm, an, cdv, ct, osl, rfl, lk, hcd, hD, hK⟩ := F.ex
  rcases hD with ⟨_, rfl⟩ | ⟨e, _⟩
  · rcases hK with e | ⟨D, rfl, hq⟩
    · exact absurd e hk
    · obtain ⟨mv, hl, rk, hks⟩ := kwd_vals (ms := ms) fun q hm => hq q (hms q hm)
      refine ⟨mv, ⟨fun s us ws X l1 l2 => BindsTo.of_looks fun M => KwChain.looks X hks (h D doc pm an cdv ct us mv ws l1 hl l2), fun r1 r2 => hrel r1 rk r2⟩⟩
  · exact absurd rfl e
/-! a block cut by a word: what follows is shown once -/
def tCut (t u : TS) : TS := fun D σ H => ∃ M : L2.St → Hp → Prop, t { D with nx := M } σ H ∧ ∀ τ J, M τ J → u D τ J
theorem pss_cut {X : Cx} {st : Stmt} {rest : List Stmt} {t u : TS} (h1 : PS X st t) (h2 : PSs X rest u) : PSs X (st :: rest) (tCut t u) :=
  ⟨fun pins s σ H D I ⟨M, hm, hu⟩ => wpAny_execs_cons (thn (h1.run pins s σ H { D with nx := M } I hm) fun f s1 q => by
    match f, q with
    | .next, ⟨τ, J, I2, q⟩ => exact h2.run pins s1 τ J D I2 (hu τ J q)
    | .ret v, q => exact q
    | .brk, q => exact q
    | .cont, q => exact q)⟩
/-! ways -/
theorem iteY {c A B : Prop} [Decidable c] (h : c) (a : A) : if c then A else B := by rw [if_pos h]; exact a
theorem iteN {c A B : Prop} [Decidable c] (h : ¬ c) (b : B) : if c then A else B := by rw [if_neg h]; exact b
theorem iteB {x : Bool} {A B : Prop} (h : if x then A else B) : if x = true then A else B := h
/-! small laws of heaps and fields -/
theorem putF_nil (f : Str) (v : V) : putF f v [] = [(f, v)] := rfl
theorem putF_cons_ne {f k : Str} {v u : V} {r : List (Str × V)} (h : ¬ k = f) : putF f v ((k, u) :: r) = (k, u) :: putF f v r := by
  show (if k = f then _ else _) = _
  rw [if_neg h]
theorem Same.new {H : Hp} {p : Addr} {o : HO} (h : H p = none) : Same H (upd H p o) := fun b u e => by
  rw [upd_ne (ne_of_none e h)]
  exact e
theorem Same.upd {H H' : Hp} {p : Addr} {o : HO} (e : Same H H') (h : H p = none) : Same H (L2.upd H' p o) := fun b u q => by
  rw [upd_ne (ne_of_none q h)]
  exact e b u q
/-! an own error with one field -/
/-- self.f = v in __init__ -/
def sp_err (C : Addr) (f : Str) : Sp := Sp2 fun x y H Q _ => ∃ a, x = .ref a ∧ H a = some (exo a C none) ∧ ∀ dx, H dx = none → dx ≠ a → Q .non (upd (upd H dx (exd dx [(f, y)])) a (exo a C (some dx)))
theorem raise_err {C : Addr} {f : Str} {t : TA} {σ : L2.St} {H : Hp} {Q : XK} (y : V)
    (k : ∀ d H', H d = none → Same H H' → H' d = some (.xd [(f, y)]) → Q (.ref C) (some d) H') (ht : ∀ R, R [y] H → t σ H R := by exact fun R r => r) : tMkO C (sp_err C f) [] t σ H Q := by
  refine ht _ ⟨by show 1 ≤ 1000; decide, fun a ha => ⟨_, _, rfl, a, rfl, upd_same, fun dx hdx hne => ⟨rfl, dx, [(f, y)], ?_, ?_, ?_, ?_⟩⟩⟩
  · exact upd_same
  · rw [upd_ne hne, upd_same]
  · rw [upd_ne hne] at hdx
    exact hdx
  · have h0 : H dx = none := by rw [upd_ne hne] at hdx; exact hdx
    refine k dx _ h0 (fun b o e => ?_) upd_same
    have n1 : b ≠ dx := ne_of_none e h0
    have n2 : b ≠ a := ne_of_none e ha
    rw [upd_ne n1, del_ne n2, upd_ne n2, upd_ne n1, upd_ne n2]
    exact e
/-! the law's own draws -/
/-- a cell is some integer of at least 0 -/
def spCellN (K : Frag) : Sp := Sp2 fun x y H Q _ => ∃ (a : Addr) (ns : List Int) (k : Int), x = .ref a ∧ y = .int k ∧ 0 ≤ k ∧ SqL K H a (ns.map V.int) ∧ ∀ n : Int, 0 ≤ n → Q (.int n) H
theorem int_at {ns : List Int} {k : Nat} (h : k < ns.length) : atI (ns.map V.int) ((k : Nat) : Int) = some (.int (ns.getD k 0)) := by
  refine atI_nat ?_
  rw [List.getElem?_map, List.getElem?_eq_getElem h, List.getD_eq_getElem?_getD, List.getElem?_eq_getElem h]
  rfl
theorem mul_small {i j : Int} (h : -(2 ^ 64) < j ∧ j < 2 ^ 64) : CMulA i j := .inl (.inr h)
theorem mul_smallL {i j : Int} (h : -(2 ^ 64) < i ∧ i < 2 ^ 64) : CMulA i j := .inl (.inl h)
theorem mod_small (x : Int) {m : Int} (h : 0 < m) (h2 : m < 2 ^ 64) : -(2 ^ 64) < x % m ∧ x % m < 2 ^ 64 := by
  have a := Int.emod_nonneg x (show m ≠ 0 by omega)
  have b := Int.emod_lt_of_pos x h
  omega
theorem mod_lo (x : Int) {m : Int} (h : 0 < m) : 0 ≤ x % m := Int.emod_nonneg x (by omega)
theorem mod_hi (x : Int) {m : Int} (h : 0 < m) : x % m < m := Int.emod_lt_of_pos x h
theorem div_small {i j : Int} (h : 0 < j) (h2 : j < 2 ^ 64) : CDivW i j := wide_div (b := 64) h (by omega) (by decide) (by decide)
end S
namespace S
open PySem PySem.Spec PyProof.Rows L2
/-! the rules that lean on the written part, with its own name -/
section
variable {X : Cx} {K : Frag}
theorem ixK (hK : X.K = K) : IxR X (rIx K) := hK ▸ ix_seq
theorem lenK (hK : X.K = K) : CallR X (.builtin "len") (rLen K) := hK ▸ call_len
theorem isiK (hK : X.K = K) : CallR X (.builtin "isinstance") (rIsi K) := hK ▸ call_isi
theorem isiTK (hK : X.K = K) : CallR X (.builtin "isinstance") (rIsiT K) := hK ▸ call_isiT
theorem inK (hK : X.K = K) : OpR X (compareOp .In) (rIn K false) := hK ▸ op_in_seq
theorem notInK (hK : X.K = K) : OpR X (compareOp .NotIn) (rIn K true) := hK ▸ op_notIn_seq
theorem eqDK (hK : X.K = K) (hu : X.A.units + 64 < cLine) : OpR X (compareOp .Eq) (rEqD K) := hK ▸ op_eqD hu
theorem neDK (hK : X.K = K) (hu : X.A.units + 64 < cLine) : OpR X (compareOp .NotEq) (rNeD K) := hK ▸ op_neD hu
theorem slLK (hK : X.K = K) : SlR X (rSlL K) := hK ▸ sl_list
theorem slTK (hK : X.K = K) : SlR X (rSlT K) := hK ▸ sl_tup
variable {e o l value tg a : Expr} {es : List Expr} {ta tv tl : TE} {f : Str} {pos pos' : Pos}
theorem pe_fldK (hK : X.K = K) (he : PE X e ta) (hb : attributeBase e f X.env (eval e X.env) = eval e X.env) : PE X (.Attribute e f pos) (tFld K ta f) := hK ▸ pe_fld he hb
theorem ps_fldK (hK : X.K = K) (ha : PE X o ta) (hv : PE X value tv) (hs : swapsWith value (some (.Attribute o f pos')) pos.line X.env = pure false) : PS X (.Assign [.Attribute o f pos'] value pos) (sFld K ta tv f) := hK ▸ ps_fld ha hv hs
theorem ps_ostK (hK : X.K = K) (ha : PE X o ta) (hv : PE X value tv) (hs : swapsWith value (some (.Attribute o f pos')) pos.line X.env = pure false) : PS X (.Assign [.Attribute o f pos'] value pos) (tOst K f ta tv) := hK ▸ ps_ost ha hv hs
theorem pe_slK (hK : X.K = K) (he : PE X e ta) (hb : attributeBase e f X.env (eval e X.env) = eval e X.env) : PE X (.Attribute e f pos) (SlX.tSl K ta f) := hK ▸ SlX.pe_sl he hb
theorem ps_slK (hK : X.K = K) (ha : PE X o ta) (hv : PE X value tv) (hs : swapsWith value (some (.Attribute o f pos')) pos.line X.env = pure false) : PS X (.Assign [.Attribute o f pos'] value pos) (SlX.sSl K ta tv f) := hK ▸ SlX.ps_sl ha hv hs
theorem pi_listK (hK : X.K = K) (hl : PE X l tl) : PI X tg l (iList K tl) := hK ▸ pi_list hl
theorem pi_tupK (hK : X.K = K) (hl : PE X l tl) : PI X tg l (iTup K tl) := hK ▸ pi_tup hl
def tTruK (K : Frag) (ta : TE) : TT := fun σ H Q => ta σ H fun x H' => ∃ k, TruV K x H' k ∧ Q k H'
theorem pt_truthK (hK : X.K = K) (ha : PE X a ta) (he : ∀ whole, isTrue a X.env whole = (do let v ← whole; standAt a.pos; holding [v] (truthy v))) : PT X a (tTruK K ta) := by
  subst hK
  exact pt_truth ha he
end
end S
namespace S
open PySem PySem.Spec PyProof.Rows L2
/-! flat data: None, bools, ints, texts -/
def sca : V → Bool
  | .non => true
  | .bl _ => true
  | .int _ => true
  | .str x => PyData.strOk x
  | _ => false
def dat : V → PyData
  | .bl b => .bool b
  | .int i => .int i
  | .str x => .str x
  | _ => .none
theorem dp_dat {K : Frag} {H : Hp} {v : V} (h : sca v = true) : Dp K H v (dat v) := by
  cases v with
  | non => exact .non
  | bl b => exact .bl b
  | int i => exact .int i
  | str x => exact .str x
  | _ => cases h
theorem dpAll_dat {K : Frag} {H : Hp} : ∀ {vs : List V}, vs.all sca = true → DpAll K H vs (vs.map dat)
  | [], _ => .nil
  | v :: vs, h => by
    rw [List.all_cons, Bool.and_eq_true] at h
    exact .cons (dp_dat h.1) (dpAll_dat h.2)
theorem lay_dat {v : V} (h : sca v = true) : (dat v).canLay0 = true := by
  cases v with
  | str x => simpa [dat, PyData.canLay0, sca] using h
  | _ => simp [dat, PyData.canLay0]
theorem layAll_dat : ∀ {vs : List V}, vs.all sca = true → PyData.canLayAll0 (vs.map dat) = true
  | [], _ => rfl
  | v :: vs, h => by
    rw [List.all_cons, Bool.and_eq_true] at h
    simp [PyData.canLayAll0, lay_dat h.1, layAll_dat h.2]
theorem depth_dat (v : V) : (dat v).depth = 0 := by cases v <;> simp [dat, PyData.depth]
theorem depthAll_dat : ∀ (vs : List V), PyData.depthAll (vs.map dat) = 0
  | [] => rfl
  | v :: vs => by simp [PyData.depthAll, depth_dat, depthAll_dat vs]
theorem shaped_list {vs : List V} (h : vs.all sca = true) : SeqAt.shaped (.list (vs.map dat)) = true := by
  simp [SeqAt.shaped, PyData.canLay0, layAll_dat h, PyData.depth, depthAll_dat]
theorem shaped_tup {vs : List V} (h : vs.all sca = true) : SeqAt.shaped (.tuple (vs.map dat)) = true := by
  simp [SeqAt.shaped, PyData.canLay0, layAll_dat h, PyData.depth, depthAll_dat]
theorem eqv_refl (v : V) : PyData.eqv (dat v) (dat v) = true := by cases v <;> simp [dat, PyData.eqv]
theorem eqvAll_refl : ∀ (vs : List V), PyData.eqvAll (vs.map dat) (vs.map dat) = true
  | [] => rfl
  | v :: vs => by simp [PyData.eqvAll, eqv_refl, eqvAll_refl vs]
theorem rEqL {K : Frag} {H : Hp} {a b : Addr} {xs ys : List V} {Q : VK} (ha : SqL K H a xs) (hb : SqL K H b ys) (hx : xs.all sca = true) (hy : ys.all sca = true) (q : Q (.bl (PyData.eqvAll (xs.map dat) (ys.map dat))) H) : rEqD K (.ref a) (.ref b) H Q :=
  ⟨_, _, .lst ha (dpAll_dat hx), .lst hb (dpAll_dat hy), shaped_list hx, shaped_list hy, by simpa only [PyData.eqv] using q⟩
theorem rEqT {K : Frag} {H : Hp} {a b : Addr} {xs ys : List V} {Q : VK} (ha : SqT K H a xs) (hb : SqT K H b ys) (hx : xs.all sca = true) (hy : ys.all sca = true) (q : Q (.bl (PyData.eqvAll (xs.map dat) (ys.map dat))) H) : rEqD K (.ref a) (.ref b) H Q :=
  ⟨_, _, .tup ha (dpAll_dat hx), .tup hb (dpAll_dat hy), shaped_tup hx, shaped_tup hy, by simpa only [PyData.eqv] using q⟩
theorem rEqL_true {K : Frag} {H : Hp} {a b : Addr} {xs : List V} {Q : VK} (ha : SqL K H a xs) (hb : SqL K H b xs) (hx : xs.all sca = true) (q : Q (.bl true) H) : rEqD K (.ref a) (.ref b) H Q := rEqL ha hb hx hx (by rw [eqvAll_refl]; exact q)
theorem rEqT_true {K : Frag} {H : Hp} {a b : Addr} {xs : List V} {Q : VK} (ha : SqT K H a xs) (hb : SqT K H b xs) (hx : xs.all sca = true) (q : Q (.bl true) H) : rEqD K (.ref a) (.ref b) H Q := rEqT ha hb hx hx (by rw [eqvAll_refl]; exact q)
/-- a def with all its parameters written, by positional values -/
theorem raw_of {P : Program} {w : World} {K : Frag} {mg : Str → Option Value} {base : Heap} {CX : CXT} {k n : Nat} {f : Addr} {fd : FuncData} {ps : List Str} {sp : Sp} (F : FnOk P w K mg base CX k f fd ps sp)
    (hb : KBn K fd ps n [] (fun us _ => us ++ []) (fun vs _ => vs ++ [])) (hn : n = ps.length := by rfl) : FnR P w K mg base CX k f sp := by
  refine (F.raw (ds := []) (dvs := []) (fun s us k hl => ?_) .nil).imp fun vs H Q E h => ?_
  · exact hb.to s us [] k (by rw [List.append_nil] at hl; rw [hl, hn]) rfl
  · rw [List.append_nil]
    exact h
theorem hu64 {A : Around} {k : Nat} (hr : Room k A) : A.units + 64 < cLine := by have := hr.un; omega
/-! a for over a text's signs -/
theorem for_str {x : Str} {g : TG} {tb : TS} {D : Ends} {σ : L2.St} {H : Hp} (Pv : Nat → L2.St → Hp → Prop) (h0 : Pv 0 σ H)
    (hs : ∀ i c σ H, x.cps[i]? = some c → Pv i σ H → g (.str ⟨#[c]⟩) σ H fun σ2 H2 => tb { D with nx := Pv (i + 1), ct := Pv (i + 1), bk := D.nx } σ2 H2) (hd : ∀ σ H, Pv x.cps.size σ H → D.nx σ H) :
    ∃ Z : Nat → Nat → L2.St → Hp → Prop, (∃ m, Z 0 m σ H) ∧ ∀ i m σ H, Z i m σ H →
      ((Its x).stop i H ∧ D.nx σ H) ∨ ((Its x).go i H ∧ ∃ N : L2.St → Hp → Prop, (∀ σ' H', N σ' H' → ∃ m', m' < m ∧ Z (i + 1) m' σ' H') ∧ ∀ v H', (Its x).yld i H v H' → g v σ H' fun σ2 H2 => tb { D with nx := N, ct := N, bk := D.nx } σ2 H2) := by
  refine ⟨fun i m σ H => m = x.cps.size - i ∧ i ≤ x.cps.size ∧ Pv i σ H, ⟨x.cps.size, by simp, Nat.zero_le _, h0⟩, ?_⟩
  rintro i m σ H ⟨rfl, hi, p⟩
  by_cases hlt : i < x.cps.size
  · refine .inr ⟨hlt, Pv (i + 1), fun σ' H' p' => ⟨x.cps.size - (i + 1), by omega, rfl, hlt, p'⟩, fun v H' y => ?_⟩
    obtain ⟨rfl, c, hc, rfl⟩ := y
    exact hs i c σ H' hc p
  · have e : i = x.cps.size := by omega
    subst e
    exact .inl ⟨Nat.le_refl _, hd σ H p⟩
end S
namespace S
open PySem PySem.Spec PyProof.Rows L2
/-! x in a list whose items' own == may make objects -/
section
open MeetsSeq MeetsSeq2 MeetsSeq3 SeqRoads2
variable {prog : Program} {w : World} {A : Around} {R : Result → Shared → Prop}
/-- at each turn the list is read anew: the items still to come; a hit ends the walk -/
def ContI (prog : Program) (w : World) (A : Around) (R : Result → Shared → Prop) (l : Addr) (x : Value) (N : Nat) (I : Nat → Shared → Prop) : Prop :=
  ∀ i s, I i s → ∃ (its : Array Value) (n : Nat), s.heap.get? l = some { cls := .type "list", data := .seq its n } ∧ its.size = N ∧
    ∀ h1 : i < its.size, wpAny (model prog w) A.in1 (eqBool its[i] x) (fun r s' => if r = true then R (.ok (.ret (.bool true))) s' else I (i + 1) s') (fun e s' => R (.error e) s') s
theorem cont_loop (l : Addr) (x : Value) (N : Nat) (I : Nat → Shared → Prop) (hl : ContI prog w A R l x N I) (fin : ∀ s, I N s → R (.ok (.ret (.bool false))) s) (k : Nat) :
    ∀ i : Nat, N - i = k → i ≤ N → ∀ s, I i s →
      wpAny (model prog w) A.in1 (Builtin.«list.__contains__.loop» ⟨[.ref l, x, rawInt i], []⟩) (GQ.FinOf prog w A R) (fun e s' => R (.error e) s') s := by
  induction k with
  | zero =>
    intro i hk hi s h
    obtain ⟨its, n, h1, hs, _⟩ := hl _ _ h
    have e : i = N := by omega
    have hR : R (.ok (.ret (.bool false))) s := fin s (e ▸ h)
    obtain ⟨hp, g, d, tk, os⟩ := s
    wp_walk using wpAny_loadPart' h1
    have hn : its[((i : Nat) : Int).toNat]? = none := by simp; omega
    rw [hn]
    wp_walk
    exact hR
  | succ k ih =>
    intro i hk hi s h
    obtain ⟨its, n, h1, hs, turn⟩ := hl _ _ h
    have hlt : i < its.size := by omega
    have ht := turn hlt
    obtain ⟨hp, g, d, tk, os⟩ := s
    wp_walk using wpAny_loadPart' h1
    have hn : its[((i : Nat) : Int).toNat]? = some its[i] := by simp [hlt]
    rw [hn]
    refine wpAny_bind (wpAny_mono ht (fun r s2 h2 => ?_) fun _ _ z => z)
    cases r with
    | true =>
      rw [if_pos rfl] at h2
      obtain ⟨hp2, g2, d2, tk2, os2⟩ := s2
      wp_walk
      exact h2
    | false =>
      rw [if_neg Bool.false_ne_true] at h2
      have hc : ((i : Int) + 1) = ((i + 1 : Nat) : Int) := by omega
      have hrec := ih (i + 1) (by omega) (by omega) s2 h2
      obtain ⟨hp2, g2, d2, tk2, os2⟩ := s2
      wp_walk
      rw [hc]
      exact ⟨plainId_quiet plain_contains_loop _, codeAny_builtin entry_contains_loop (by rw [Around.under_plainId plain_contains_loop _]; exact hrec)⟩
theorem cont_list (l : Addr) (x : Value) (N : Nat) (I : Nat → Shared → Prop) (hl : ContI prog w A R l x N I) (fin : ∀ s, I N s → R (.ok (.ret (.bool false))) s) {s : Shared} (h : I 0 s) :
    wpAny (model prog w) A.in1 (Builtin.«list.__contains__» ⟨[.ref l, x], []⟩) (GQ.FinOf prog w A R) (fun e s' => R (.error e) s') s := by
  obtain ⟨its, n, h1, hs, _⟩ := hl _ _ h
  have hrec := cont_loop (A := A) (R := R) l x N I hl fin _ 0 rfl (Nat.zero_le _) s h
  obtain ⟨hp, g, d, tk, os⟩ := s
  wp_walk using wpAny_loadPart' h1
  exact ⟨plainId_quiet plain_contains_loop _, codeAny_builtin entry_contains_loop (by rw [Around.under_plainId plain_contains_loop _]; exact hrec)⟩
theorem contains_G {E : Value → Shared → Prop} {s : Shared} {l : Addr} {x : Value} {N : Nat} {Q : Bool → Shared → Prop} (I : Nat → Shared → Prop)
    (hl : ContI prog w A (wants (fun v s' => ∃ b, v = .bool b ∧ Q b s') E) l x N I) (fin : ∀ s, I N s → Q false s) (h : I 0 s) : wpAny (model prog w) A (contains (.ref l) x) Q E s := by
  obtain ⟨its, n, h1, _⟩ := hl _ _ h
  refine wpAny_contains_slot (T := "list") ⟨_, h1, rfl⟩ F.slot_list_contains (wpAny_mono (GQ.call_here (Q := fun v s' => ∃ b, v = .bool b ∧ Q b s') F.slot_list_contains ⟨_, h1, rfl⟩ F.entry_list_contains (F.args_list_contains_2 _ _) ?_) (fun v s' hv => ?_) fun _ _ e => e)
  · exact cont_list l x N I hl (fun s' q => ⟨false, rfl, fin s' q⟩) h
  · obtain ⟨b, rfl, q⟩ := hv
    exact wpAny_truthy_bool q
end
section
variable {X : Cx} {n : Nat} {C g : Addr} {sp : Sp}
/-- x in y, y a list of instances of C that are compared by their own == : e b tells the answer for the item at b -/
def rInO (C : Addr) (sp : Sp) (neg : Bool) : R2 := fun x y H Q => ∃ (a l dx : Addr) (fs : List (Str × V)) (bs : List Addr) (e : Addr → Bool), x = .ref a ∧ y = .ref l ∧ H l = some (.lst (bs.map V.ref)) ∧ H a = some (.ins C dx fs) ∧
  (∀ b ∈ bs, ∃ dy gs, H b = some (.ins C dy gs)) ∧ (∀ b ∈ bs, ∀ H1, Same H H1 → ∀ Z : VK, (∀ H2, Same H1 H2 → Z (.bl (e b)) H2) → sp [.ref b, .ref a] H1 Z E0) ∧
  ∀ H', Same H H' → Q (.bl (if neg then !(bs.any fun b => decide (b = a) || e b) else bs.any fun b => decide (b = a) || e b)) H'
theorem contO (hs : PySem.W.findIn X.K (.ref C) "__eq__" = some (some (.ref g))) (hf : PySem.W.isFn X.K (.ref g) = true) (F : FnR X.prog X.w X.K X.mg X.base (L2.CX X.prog X.w) n g sp) (hr : Room (n + 1) X.A)
    {pins : List (Addr × Obj)} {s : Shared} {σ : L2.St} {H : Hp} {a l dx : Addr} {fs : List (Str × V)} {bs : List Addr} {e : Addr → Bool} (I : Inv X pins σ H s) (hl : H l = some (.lst (bs.map V.ref))) (ha : H a = some (.ins C dx fs))
    (hb : ∀ b ∈ bs, ∃ dy gs, H b = some (.ins C dy gs)) (hsp : ∀ b ∈ bs, ∀ H1, Same H H1 → ∀ Z : VK, (∀ H2, Same H1 H2 → Z (.bl (e b)) H2) → sp [.ref b, .ref a] H1 Z E0) {Q : Bool → Shared → Prop}
    (q : ∀ s' H', Inv X pins σ H' s' → Same H H' → Q (bs.any fun b => decide (b = a) || e b) s') : wpAny (model X.prog X.w) X.A (contains (.ref l) (.ref a)) Q X.xe s := by
  refine contains_G (N := bs.length) (fun i s' => ∃ H1, Inv X pins σ H1 s' ∧ Same H H1 ∧ (bs.take i).any (fun b => decide (b = a) || e b) = false) ?_ ?_ ⟨H, I, fun _ _ z => z, rfl⟩
  · rintro i s1 ⟨H1, I1, sm, no⟩
    obtain ⟨hz, its, m, rv, hg⟩ := (show ObjOk X.prog X.w H1 s1.heap l (.lst (bs.map V.ref)) from I1.hok l _ (sm _ _ hl))
    have hlen : its.length = bs.length := by rw [← rv.length, List.length_map]
    refine ⟨its.toArray, m, hg, by simp [hlen], fun h1 => ?_⟩
    have hi : i < bs.length := by simpa [hlen] using h1
    obtain ⟨u, hu, ru⟩ := rv.get (i := i) (x := .ref bs[i]) (by simp [hi])
    have eu : its.toArray[i] = Value.ref bs[i] := by
      have : its[i]? = some (Value.ref bs[i]) := by rw [hu]; exact congrArg some ru
      have h2 : i < its.length := by omega
      rw [List.getElem?_eq_getElem h2] at this
      simpa using Option.some.inj this
    rw [eu]
    have mem : bs[i] ∈ bs := List.getElem_mem hi
    have step : ∀ r : Bool, (decide (bs[i] = a) || e bs[i]) = r → ∀ s2 H2, Inv X pins σ H2 s2 → Same H H2 → (if r = true then wants (fun v s' => ∃ b, v = .bool b ∧ Q b s') X.xe (.ok (.ret (.bool true))) s2 else ∃ H1, Inv X pins σ H1 s2 ∧ Same H H1 ∧ (bs.take (i + 1)).any (fun b => decide (b = a) || e b) = false) := by
      intro r er s2 H2 I2 sm2
      have tk : bs.take (i + 1) = bs.take i ++ [bs[i]] := by rw [List.take_succ, List.getElem?_eq_getElem hi]; rfl
      cases r with
      | true =>
        rw [if_pos rfl]
        refine ⟨true, rfl, ?_⟩
        have hq := q s2 H2 I2 sm2
        rw [show (bs.any fun b => decide (b = a) || e b) = true from List.any_eq_true.mpr ⟨_, mem, er⟩] at hq
        exact hq
      | false =>
        rw [if_neg Bool.false_ne_true]
        refine ⟨H2, I2, sm2, ?_⟩
        rw [tk, List.any_append, no, List.any_cons, er]
        rfl
    by_cases hab : bs[i] = a
    · rw [hab]
      exact SeqAt.EqAt.same (A := X.A.in1) (s := s1) (.ref a) X.prog X.w _ _ (step true (by simp [hab]) s1 H1 I1 sm)
    · obtain ⟨dy, gs, hbi⟩ := hb _ mem
      refine GQ.eqBool_refG hab ?_
      obtain ⟨mA, O, _⟩ := ins_get I1.hok (sm _ _ hbi)
      obtain ⟨od, J, _⟩ := O.look
      obtain ⟨mB, O2, _⟩ := ins_get I1.hok (sm _ _ ha)
      obtain ⟨od2, J2, _⟩ := O2.look
      obtain ⟨m2, hF⟩ := I1.fr
      refine PySem.W.cmp_K (op := .Eq) (tb := .ref C) hr.in1.units0 hF I1.ok.mod.kin J J2.type (by simp [PySem.W.notFirst]) hs hf ?_
      refine wpAny_mono (wpAny_call (SlX.run_at (us := [.ref bs[i], .ref a]) (ws := [.ref bs[i], .ref a]) (Q := fun z H2 => z = .bl (e bs[i]) ∧ Same H1 H2) F hr.in1 I1.env0.in1 passL I1 (.cons rfl (.cons rfl .nil)) (hsp _ mem H1 sm _ fun H2 s2 => ⟨rfl, s2⟩))) (fun z s2 hz2 => ?_) fun _ _ x => x
      obtain ⟨z2, H2, I2, rz, rfl, sm2⟩ := hz2
      cases (show z = Value.bool (e bs[i]) from rz)
      exact ⟨e bs[i], rfl, step _ (by simp [hab]) s2 H2 I2 (sm.trans sm2)⟩
  · rintro s1 ⟨H1, I1, sm, no⟩
    have hq := q s1 H1 I1 sm
    rw [List.take_length] at no
    rw [no] at hq
    exact hq
theorem op_inO (hs : PySem.W.findIn X.K (.ref C) "__eq__" = some (some (.ref g))) (hf : PySem.W.isFn X.K (.ref g) = true) (F : FnR X.prog X.w X.K X.mg X.base (L2.CX X.prog X.w) n g sp) (hr : Room (n + 1) X.A) : OpR X (compareOp .In) (rInO C sp false) := by
  intro pins s σ H x y v u Q I rx ry h
  obtain ⟨a, l, dx, fs, bs, e, rfl, rfl, hl, ha, hb, hsp, q⟩ := h
  cases (show v = Value.ref a from rx)
  cases (show u = Value.ref l from ry)
  show wpAny _ _ (do return Value.bool (← contains (.ref l) (.ref a))) _ _ _
  exact wpAny_bind (contO hs hf F hr I hl ha hb hsp fun s' H' I' sm => wpAny_pure ⟨.bl _, H', I', rfl, q H' sm⟩)
theorem op_notInO (hs : PySem.W.findIn X.K (.ref C) "__eq__" = some (some (.ref g))) (hf : PySem.W.isFn X.K (.ref g) = true) (F : FnR X.prog X.w X.K X.mg X.base (L2.CX X.prog X.w) n g sp) (hr : Room (n + 1) X.A) : OpR X (compareOp .NotIn) (rInO C sp true) := by
  intro pins s σ H x y v u Q I rx ry h
  obtain ⟨a, l, dx, fs, bs, e, rfl, rfl, hl, ha, hb, hsp, q⟩ := h
  cases (show v = Value.ref a from rx)
  cases (show u = Value.ref l from ry)
  show wpAny _ _ (do return Value.bool (!(← contains (.ref l) (.ref a)))) _ _ _
  exact wpAny_bind (contO hs hf F hr I hl ha hb hsp fun s' H' I' sm => wpAny_pure ⟨.bl _, H', I', rfl, q H' sm⟩)
end
end S
namespace S
open PySem PySem.Spec PyProof.Rows L2
/-! ### classes with slots -/
/-- the descriptor of a slot -/
def slA (K : Frag) (C : Addr) (f : Str) : Addr := match PySem.W.findIn K (.ref C) f with | some (some (.ref p)) => p | _ => 0
def sclB (K : Frag) (C : Addr) : Bool := PySem.W.plainGet K C Str.empty && (PySem.W.isClsIn K C && (PySem.W.plainOver K C && He.eqO (PySem.W.findIn K (.ref C) "__setattr__") (some (some (.builtin "object.__setattr__")))))
theorem sclB_ok {K : Frag} {C : Addr} (q : sclB K C = true) : SlX.SCls K C := by
  obtain ⟨a, q⟩ := He.ba q
  obtain ⟨b, q⟩ := He.ba q
  obtain ⟨c, d⟩ := He.ba q
  exact ⟨a, b, c, He.eqO_ok d⟩
theorem sisB_ok {K : Frag} {C : Addr} (q : insB K C = true) : SlX.SIsi K C := let i := insB_ok q; ⟨i.ha, i.hn, i.ht, i.hm⟩
def sltB (K : Frag) (C : Addr) (f : Str) (i : Nat) : Bool := He.eqO (PySem.W.findIn K (.ref C) f) (some (some (.ref (slA K C f)))) && (He.eqO (PySem.W.specialIn K (.ref (slA K C f)) "__get__") (some (some (.builtin "member_descriptor.__get__"))) &&
  (decide (PySem.W.takesIn K (.ref (slA K C f)) = some true) && (decide (PySem.W.typeIn K (.ref (slA K C f)) = some (.type "member_descriptor")) && decide (PySem.W.slotIn K (slA K C f) C = some i))))
theorem sltB_ok {K : Frag} {C : Addr} {f : Str} {i : Nat} (hi : i < 1000) (q : sltB K C f i = true) : SlX.Slot1 K C f (slA K C f) i := by
  obtain ⟨a, q⟩ := He.ba q
  obtain ⟨b, q⟩ := He.ba q
  obtain ⟨c, q⟩ := He.ba q
  obtain ⟨d, e⟩ := He.ba q
  exact ⟨He.eqO_ok a, He.eqO_ok b, of_decide_eq_true c, of_decide_eq_true d, of_decide_eq_true e, hi⟩
section
variable {X : Cx} {CX : CXT} {k n : Nat} {f C : Addr} {fd : FuncData} {ps ks : List Str} {sp : Sp} {E : L2.St → XK} {m : Str} {pos apos : Pos} {o e : Expr} {es : List Expr} {kws : List Keyword} {ta : TE} {t tk : TA} {g : List Value → List Value → List Value} {gV : List V → List V → List V}
def tMtL (C : Addr) (n l : Nat) (sp : Sp) (gV : List V → List V → List V) (E : L2.St → XK) (ta : TE) (t tk : TA) : TE := fun σ H Q =>
  ta σ H fun x H1 => ∃ a dx fs, x = .ref a ∧ SlX.Slt H1 a C dx fs ∧
    t σ H1 fun vs H2 => tk σ H2 fun zs H3 => vs.length = n ∧ zs.length = l ∧ sp (gV (x :: vs) zs) H3 Q (E σ)
theorem pe_mtL {pl : Sem Bool} (he : PE X o ta) (c : SlX.SCls X.K C) (hm : Meth X.K C m f) (F : FnOk X.prog X.w X.K X.mg X.base CX k f fd ps sp) (hr : Room k X.A) (hb : KBn X.K fd ps (n + 1) ks g gV) (hx : ∀ σ, PassesAt CX X σ (E σ))
    (ha : PA X (e :: es) t) (hkw : PK X kws tk) (hall : (backToKw pos (keywordEach kws X.env)).all (·.1.isSome) = true) (hks : (backToKw pos (keywordEach kws X.env)).filterMap (·.1) = ks)
    (hst : starEach (e :: es) X.env = (false, eval e X.env) :: starEach es X.env := by rfl)
    (hpl : ((backTo pos (starEach (e :: es) X.env)).any (·.1) || (backToKw pos (keywordEach kws X.env)).any (·.1.isNone)) = false := by rfl)
    (ht : eval (.Call (.Attribute o m apos) (e :: es) kws pos) X.env = (do
      let ov ← eval o X.env
      standAt apos.atName
      let (f, first) ← holding [ov] (getMethod ov m pl)
      callWith pos f first (backTo pos (starEach (e :: es) X.env)) (backToKw pos (keywordEach kws X.env))) := by rfl) :
    PE X (.Call (.Attribute o m apos) (e :: es) kws pos) (tMtL C n ks.length sp gV E ta t tk) := by
  refine ⟨fun pins s σ H Q I h => PySem.W.methodCall_KW (pl := pl) (thn (he.run pins s σ H _ I h) fun u s1 ⟨x, H1, I1, rx, a, dx, fs, ex, ea, q⟩ => ?_) ht⟩
  subst ex
  cases (show u = Value.ref a from rx)
  refine SlX.getmethsl_ok I1 ea c hm (PySem.W.callWith_KW (first := [.ref a]) (h₀ := X.base) I.ok.mod.kin hm.kp hall (thn (ha.run pos pins s1 σ H1 _ I1 q) fun us s2 ⟨vs, H2, I2, r, q2⟩ =>
    thn (hkw.run pos pins s2 σ H2 _ I2 q2) fun ws s3 ⟨zs, H3, I3, rz, l1, l2, q3⟩ => ⟨I3.kIn, ?_⟩) hpl hst)
  rw [hks]
  exact run_S (us := .ref a :: us) (vs := .ref a :: vs) F hr hb (hx σ) I3 (.cons rfl r) rz (congrArg Nat.succ l1) l2 q3
theorem pe_mtL0 {pl : Sem Bool} (he : PE X o ta) (c : SlX.SCls X.K C) (hm : Meth X.K C m f) (F : FnOk X.prog X.w X.K X.mg X.base CX k f fd ps sp) (hr : Room k X.A) (hb : KBn X.K fd ps (0 + 1) ks g gV) (hx : ∀ σ, PassesAt CX X σ (E σ))
    (hkw : PK X kws tk) (hall : (backToKw pos (keywordEach kws X.env)).all (·.1.isSome) = true) (hks : (backToKw pos (keywordEach kws X.env)).filterMap (·.1) = ks)
    (hpl : ((backTo pos (starEach [] X.env)).any (·.1) || (backToKw pos (keywordEach kws X.env)).any (·.1.isNone)) = false := by rfl)
    (ht : eval (.Call (.Attribute o m apos) [] kws pos) X.env = (do
      let ov ← eval o X.env
      standAt apos.atName
      let (f, first) ← holding [ov] (getMethod ov m pl)
      callWith pos f first (backTo pos (starEach [] X.env)) (backToKw pos (keywordEach kws X.env))) := by rfl) :
    PE X (.Call (.Attribute o m apos) [] kws pos) (tMtL C 0 ks.length sp gV E ta tNil tk) := by
  refine ⟨fun pins s σ H Q I h => PySem.W.methodCall_KW (pl := pl) (thn (he.run pins s σ H _ I h) fun u s1 ⟨x, H1, I1, rx, a, dx, fs, ex, ea, q⟩ => ?_) ht⟩
  subst ex
  cases (show u = Value.ref a from rx)
  refine SlX.getmethsl_ok I1 ea c hm (PySem.W.callWith_KW0 (first := [.ref a]) (h₀ := X.base) I.ok.mod.kin hm.kp hall
    (thn (hkw.run pos pins s1 σ H1 _ I1 q) fun ws s3 ⟨zs, H3, I3, rz, l1, l2, q3⟩ => ⟨I3.kIn, ?_⟩) hpl)
  rw [hks]
  exact run_S (us := [.ref a]) (vs := [.ref a]) F hr hb (hx σ) I3 (.cons rfl .nil) rz rfl l2 q3
end
/-! str(x) by the class's own def -/
section
variable {X : Cx} {C g : Addr} {n : Nat} {sp : Sp}
def rStrL (C : Addr) (sp : Sp) : List V → Hp → VK → Prop := fun xs H Q => ∃ a dx vs, xs = [V.ref a] ∧ SlX.Slt H a C dx vs ∧ sp [.ref a] H (fun z H' => ∃ y, z = .str y ∧ Q z H') E0
theorem call_strL (hs : PySem.W.findIn X.K (.ref C) "__str__" = some (some (.ref g))) (hf : PySem.W.isFn X.K (.ref g) = true) (F : FnR X.prog X.w X.K X.mg X.base (L2.CX X.prog X.w) n g sp) (hr : Room (n + 2) X.A) : CallR X (.type "str") (rStrL C sp) := by
  intro pins s σ H xs us Q I r h
  obtain ⟨a, dx, vs, rfl, hsl, q⟩ := h
  obtain ⟨u, rfl, ru⟩ := r.one
  cases (show u = Value.ref a from ru)
  obtain ⟨sl, od, _, J, _⟩ := SlX.slt_inst I hsl
  have hr2 : Room n X.A.in1.in1 := (show Room (n + 1) X.A.in1 from Room.in1 hr).in1
  refine PySem.W.kso_call hr2.units0 I.kIn J hs hf (wpAny_mono (wpAny_call (SlX.run_at (us := [.ref a]) (ws := [.ref a]) F hr2 I.env0.in1.in1 passL I (.cons rfl .nil) q)) (fun w s' z => ?_) fun _ _ x => x)
  obtain ⟨z', H', I', rz, y, ey, qz⟩ := z
  subst ey
  obtain ⟨t, e⟩ := (show ∃ t, w = Value.str y t from rz)
  cases e
  exact ⟨.str y, H', I', ⟨t, rfl⟩, qz⟩
end
/-! isinstance of an instance with slots, or of another thing -/
section
variable {X : Cx} {K : Frag}
theorem call_or {v : Value} {r1 r2 : List V → Hp → VK → Prop} (h1 : CallR X v r1) (h2 : CallR X v r2) : CallR X v (fun xs H Q => r1 xs H Q ∨ r2 xs H Q) := by
  intro pins s σ H xs us Q I r h
  rcases h with h | h
  · exact h1 pins s σ H xs us Q I r h
  · exact h2 pins s σ H xs us Q I r h
theorem isiLK (hK : X.K = K) (C : Addr) : CallR X (.builtin "isinstance") (SlX.rIsiSl K (.ref C)) := hK ▸ SlX.call_isiSl (.ref C)
theorem isi2K (hK : X.K = K) (C : Addr) : CallR X (.builtin "isinstance") (fun xs H Q => SlX.rIsiSl K (.ref C) xs H Q ∨ rIsi K xs H Q) := call_or (isiLK hK C) (isiK hK)
end
end S
namespace S
open PySem PySem.Spec PyProof.Rows L2
/-! ### + - * // of own instances with slots, among themselves and with ints -/
theorem ps_never {X : Cx} {st : Stmt} : PS X st (fun _ _ _ => False) := ⟨fun _ _ _ _ _ _ h => h.elim⟩
section
open PySem.W PySem.Calls
variable {prog : Program} {w : World} {A : Around} {E : Value → Shared → Prop} {s : Shared} {K : Frag} {x C f f0 : Addr} {ox : Obj} {od : Option Obj}
/-- at x stands no int -/
def NoInt (x : Addr) (s : Shared) : Prop := ∃ o : Obj, s.heap.get? x = some o ∧ ∀ i t, o.data ≠ .prim (.int i t)
theorem asInt_no {M : Model} {A : Around} {E : Value → Shared → Prop} {s : Shared} {x : Addr} {Q : Option Int → Shared → Prop} (h : NoInt x s) (q : Q none s) : wpAny M A (asInt? (.ref x)) Q E s := by
  obtain ⟨o, ho, hn⟩ := h
  show wpAny M A (load x >>= _) Q E s
  refine wpAny_bind (wpAny_load ho ?_)
  split
  · rename_i i t e
    exact absurd e (hn i t)
  · exact wpAny_pure q
theorem decl_bin {prog : Program} {w : World} {A : Around} {R : Result → Shared → Prop} {s : Shared} {name : String} {f : Int → Int → Sem Fin} {a : Int} {t : Tok} {x : Addr} (h : NoInt x s) (q : R (.ok (.ret .notImplemented)) s) :
    wpAny (model prog w) A.in1 (Builtin.Int.intBinary name f false ⟨[.int a t, .ref x], []⟩) (fun fin s' => match fin with | .done f => R (.ok f) s' | .again c' => c'.quiet = true ∧ codeAny (model prog w) A c' R s') (fun e s' => R (.error e) s') s := by
  unfold Builtin.Int.intBinary
  refine wpAny_bind (wpAny_of_eq (a := (.int a t, [.ref x])) rfl ?_)
  refine wpAny_bind (wpAny_of_eq (a := a) rfl ?_)
  refine wpAny_bind (asInt_no h ?_)
  exact wpAny_bind (wpAny_rule (wpAny_pure q))
theorem decl_add (a : Int) (t : Tok) (x : Addr) : GivesAt (NoInt x) (Builtin.«int.__add__» ⟨[.int a t, .ref x], []⟩) (.val (Value.notImplemented)) := fun prog w A R s h q => decl_bin h q
theorem decl_sub (a : Int) (t : Tok) (x : Addr) : GivesAt (NoInt x) (Builtin.«int.__sub__» ⟨[.int a t, .ref x], []⟩) (.val (Value.notImplemented)) := fun prog w A R s h q => decl_bin h q
theorem decl_mul (a : Int) (t : Tok) (x : Addr) : GivesAt (NoInt x) (Builtin.«int.__mul__» ⟨[.int a t, .ref x], []⟩) (.val (Value.notImplemented)) := fun prog w A R s h q => decl_bin h q
theorem decl_floordiv (a : Int) (t : Tok) (x : Addr) : GivesAt (NoInt x) (Builtin.«int.__floordiv__» ⟨[.int a t, .ref x], []⟩) (.val (Value.notImplemented)) := fun prog w A R s h q => by
  unfold Builtin.«int.__floordiv__»
  refine wpAny_bind ?_
  refine wpAny_bind (m := asInt? (.int a t)) (wpAny_of_eq (a := some a) rfl ?_)
  refine wpAny_bind (m := asInt? (.ref x)) (asInt_no h ?_)
  exact wpAny_pure (decl_bin h q)
/-- what is known of int's own slot for an operator -/
structure IntOp (op : Operator) (idl : String) (B : Builtin) : Prop where
  fl : fillsNumberSlot (.type "int") op.info.2 = pure true
  sl : Slot "int" (PySem.dunder op.info.2) idl
  en : entryFor table idl = some B
  ar : ∀ a b : Value, argsOk idl ⟨[a, b], []⟩
  de : ∀ (a : Int) (t : Tok) (x : Addr), GivesAt (NoInt x) (B ⟨[.int a t, .ref x], []⟩) (.val (Value.notImplemented))
theorem io_add : IntOp .Add "int.__add__" Builtin.«int.__add__» := ⟨PySem.F.fills_int_add, PySem.F.slot_int_add, PySem.F.entry_int_add, PySem.F.args_int_add_2, decl_add⟩
theorem io_sub : IntOp .Sub "int.__sub__" Builtin.«int.__sub__» := ⟨PySem.F.fills_int_sub, PySem.F.slot_int_sub, PySem.F.entry_int_sub, PySem.F.args_int_sub_2, decl_sub⟩
theorem io_mul : IntOp .Mult "int.__mul__" Builtin.«int.__mul__» := ⟨PySem.F.fills_int_mul, PySem.F.slot_int_mul, PySem.F.entry_int_mul, PySem.F.args_int_mul_2, decl_mul⟩
theorem io_fdiv : IntOp .FloorDiv "int.__floordiv__" Builtin.«int.__floordiv__» := ⟨PySem.F.fills_int_floordiv, PySem.F.slot_int_floordiv, PySem.F.entry_int_floordiv, PySem.F.args_int_floordiv_2, decl_floordiv⟩
theorem bin_refl {op : Operator} {idl : String} {B : Builtin} {i : Int} {t : Tok} {Q : Value → Shared → Prop} (io : IntOp op idl B) (X : K.In s.heap) (I : InstAt s.heap x ox C od) (hno : NoInt x s) (hc : selfFirst K C = true)
    (hs : findIn K (.ref C) (PySem.dunder op.info.2) = some (some (.ref f0))) (hsR : findIn K (.ref C) (dunderR op.info.2) = some (some (.ref f))) (hf : isFn K (.ref f) = true) (hsub : subIn K (.ref C) (.type "int") = some false)
    (h : wpAny (model prog w) A (call (.ref f) [.ref x, .int i t]) (PySem.W.CmpBack Q) E s) : wpAny (model prog w) A (binaryOp op (.int i t) (.ref x)) Q E s := by
  obtain ⟨fl, sl, en, ar, de⟩ := io
  obtain ⟨cd, rest, hcd, hm⟩ := ksp_first hc
  rcases hi : op.info with ⟨sym, nm⟩
  rw [hi] at fl sl hs hsR
  simp only [binaryOp, hi]
  refine wpAny_holding (wpAny_bind ?_)
  simp only [binaryOp1]
  have ha := typeIs_int s i t
  refine wpAny_bind (wpAny_typeOf ha (wpAny_bind (I.type.here (wpAny_bind (wpAny_of_eq fl ?_)))))
  have hne : (Value.type "int" == Value.ref C) = false := Bool.eq_false_iff.mpr fun q => by cases beq_iff_eq.mp q
  simp only [hne, Bool.false_eq_true, if_false]
  refine wpAny_bind ((fills_K X hcd hm hs).here ?_)
  simp only [Bool.and_self, if_true]
  refine wpAny_bind ((looks_subIn X hsub).here ?_)
  have hpy : numberSlotInPython (.type "int") nm = pure false := rfl
  simp only [Bool.false_eq_true, if_false, pure_bind, Bool.not_false, Bool.and_self, if_true, hpy]
  simp only [tryMethod]
  refine wpAny_bind (wpAny_bind (wpAny_callSpecial?_slot ha sl (wpAny_mono (call_givesAt (Q := fun v s1 => v = .notImplemented ∧ s1 = s) sl ha en (ar _ _) (de i t x) hno ⟨rfl, rfl⟩) (fun v s1 h1 => ?_) fun _ _ x => x)))
  obtain ⟨rfl, rfl⟩ := h1
  refine wpAny_pure (wpAny_bind (wpAny_bind (special_fn X I hsR (beq_iff_eq.mp hf) (wpAny_mono h (fun v s' hv => ?_) fun _ _ e => e))))
  cases v <;> first | exact hv.elim | exact wpAny_pure (wpAny_bind (wpAny_rule (wpAny_pure (wpAny_pure hv))))
end
/-- what of the text a class must have for an operator -/
structure BinC (K : Frag) (C : Addr) (nm : String) (f g : Addr) : Prop where
  sf : PySem.W.selfFirst K C = true
  at_ : PySem.W.findIn K (.ref C) (PySem.dunder nm) = some (some (.ref f))
  fn : PySem.W.isFn K (.ref f) = true
  atR : PySem.W.findIn K (.ref C) (dunderR nm) = some (some (.ref g))
  fnR : PySem.W.isFn K (.ref g) = true
  su : PySem.W.subIn K (.ref C) (.type "int") = some false
  us : PySem.W.subIn K (.type "int") (.ref C) = some false
  i1 : ∃ fo, PySem.W.findIn K (.type "int") (PySem.dunder nm) = some fo
  i2 : ∃ ro, PySem.W.findIn K (.type "int") (dunderR nm) = some ro
def binB (K : Frag) (C : Addr) (nm : String) (f g : Addr) : Bool := PySem.W.selfFirst K C && (He.eqO (PySem.W.findIn K (.ref C) (PySem.dunder nm)) (some (some (.ref f))) && (PySem.W.isFn K (.ref f) &&
  (He.eqO (PySem.W.findIn K (.ref C) (dunderR nm)) (some (some (.ref g))) && (PySem.W.isFn K (.ref g) && (decide (PySem.W.subIn K (.ref C) (.type "int") = some false) && (decide (PySem.W.subIn K (.type "int") (.ref C) = some false) &&
  ((PySem.W.findIn K (.type "int") (PySem.dunder nm)).isSome && (PySem.W.findIn K (.type "int") (dunderR nm)).isSome)))))))
theorem binB_ok {K : Frag} {C : Addr} {nm : String} {f g : Addr} (q : binB K C nm f g = true) : BinC K C nm f g := by
  obtain ⟨a, q⟩ := He.ba q
  obtain ⟨b, q⟩ := He.ba q
  obtain ⟨c, q⟩ := He.ba q
  obtain ⟨d, q⟩ := He.ba q
  obtain ⟨e, q⟩ := He.ba q
  obtain ⟨f, q⟩ := He.ba q
  obtain ⟨g, q⟩ := He.ba q
  obtain ⟨h, i⟩ := He.ba q
  exact ⟨a, He.eqO_ok b, c, He.eqO_ok d, e, of_decide_eq_true f, of_decide_eq_true g, Option.isSome_iff_exists.mp h, Option.isSome_iff_exists.mp i⟩
/-- x op y, one of them an instance of C, the other too, or an int -/
def rBinL (C : Addr) (sp spR : Sp) (E : XK) : R2 := fun x y H Q =>
  (∃ a dx vs b dy ws, x = .ref a ∧ y = .ref b ∧ SlX.Slt H a C dx vs ∧ SlX.Slt H b C dy ws ∧ sp [x, y] H Q E) ∨
  (∃ a dx vs i, x = .ref a ∧ y = .int i ∧ SlX.Slt H a C dx vs ∧ sp [x, y] H Q E) ∨
  (∃ b dy ws i, x = .int i ∧ y = .ref b ∧ SlX.Slt H b C dy ws ∧ spR [y, x] H Q E)
def tBinL (C : Addr) (sp spR : Sp) (E : L2.St → XK) (ta tb : TE) : TE := fun σ H Q => ta σ H fun x H1 => tb σ H1 fun y H2 => rBinL C sp spR (E σ) x y H2 Q
section
variable {X : Cx} {C f g : Addr} {n k : Nat} {sp spR : Sp} {E : L2.St → XK} {op : Operator} {idl : String} {B : Builtin} {a b : Expr} {ta tb : TE} {pos : Pos}
/-- the callee runs below the running body, what is raised wished for at the slots -/
theorem run_fnAt {CX : CXT} {E : XK} {pins : List (Addr × Obj)} {σ : L2.St} {H : Hp} {s : Shared} {Q : VK} {us : List Value} {ws : List V} (F : FnR X.prog X.w X.K X.mg X.base CX n f sp) (hr : Room n X.A) (hx : PassesAt CX X σ E) (I : Inv X pins σ H s) (r : Vals ws us) (h : sp ws H Q E) :
    codeAny (model X.prog X.w) X.A (.call (.ref f) ⟨us, []⟩) (fun r s' => match r with | .ok (.ret v) => EP X pins σ Q v s' | .ok _ => False | .error e => X.xe e s') s := by
  refine codeAny_mono (F X.A X.stack s H us ws Q E hr I.env0 r h) fun r s' hq => ?_
  match r, hq with
  | .error e, hq => exact hx pins H s e s' I hq
  | .ok (.ret u), hq => exact I.after hq
  | .ok .next, hq => exact hq.elim
  | .ok .brk, hq => exact hq.elim
  | .ok .cont, hq => exact hq.elim
theorem cb_of {pins : List (Addr × Obj)} {σ : L2.St} {Q : VK} {w : Value} {s' : Shared} (z : EP X pins σ Q w s') : PySem.W.CmpBack (EP X pins σ Q) w s' := by
  obtain ⟨v, H', I', rz, qz⟩ := z
  exact SlX.cmpback rz ⟨v, H', I', rz, qz⟩
theorem pe_binL (io : IntOp op idl B) (c : BinC X.K C op.info.2 f g) (F : FnR X.prog X.w X.K X.mg X.base (L2.CX X.prog X.w) n f sp) (hr : Room n X.A) (G : FnR X.prog X.w X.K X.mg X.base (L2.CX X.prog X.w) k g spR) (hr2 : Room k X.A)
    (hx : ∀ σ, PassesAt (L2.CX X.prog X.w) X σ (E σ)) (ha : PE X a ta) (hb : PE X b tb) : PE X (.BinOp a op b pos) (tBinL C sp spR E ta tb) := by
  refine ⟨fun pins s σ H Q I h => wpAny_BinOp (binT ha hb I (R := fun x y H2 => rBinL C sp spR (E σ) x y H2 Q) h fun v u s2 x y H2 I2 rx ry q => ?_)⟩
  obtain ⟨m, hF⟩ := I2.fr
  rcases q with ⟨a, dx, vs, b, dy, ws, rfl, rfl, h1, h2, q⟩ | ⟨a, dx, vs, i, rfl, rfl, h1, q⟩ | ⟨b, dy, ws, i, rfl, rfl, h1, q⟩
  · cases (show v = Value.ref a from rx)
    cases (show u = Value.ref b from ry)
    obtain ⟨sl, od, _, J, _⟩ := SlX.slt_inst I2 h1
    obtain ⟨sl', od', _, J', _⟩ := SlX.slt_inst I2 h2
    exact PySem.W.binop_K hF I2.ok.mod.kin J J'.type c.sf c.at_ c.fn (wpAny_mono (wpAny_call (run_fnAt (us := [.ref a, .ref b]) (ws := [.ref a, .ref b]) F hr (hx σ) I2 (.cons rfl (.cons rfl .nil)) q)) (fun w s' z => cb_of z) fun _ _ x => x)
  · cases (show v = Value.ref a from rx)
    obtain ⟨t, rfl⟩ := (show ∃ t, u = Value.int i t from ry)
    obtain ⟨sl, od, _, J, _⟩ := SlX.slt_inst I2 h1
    obtain ⟨fo, e1⟩ := c.i1
    obtain ⟨ro, e2⟩ := c.i2
    exact PySem.W.ksp_binT (T := "int") hF I2.ok.mod.kin J rfl c.sf c.at_ c.fn c.atR (.inr ⟨_, rfl⟩) e1 e2 c.us (wpAny_mono (wpAny_call (run_fnAt (us := [.ref a, .int i t]) (ws := [.ref a, .int i]) F hr (hx σ) I2 (.cons rfl (.cons ⟨t, rfl⟩ .nil)) q)) (fun w s' z => cb_of z) fun _ _ x => x)
  · obtain ⟨t, rfl⟩ := (show ∃ t, v = Value.int i t from rx)
    cases (show u = Value.ref b from ry)
    obtain ⟨sl, od, _, J, _⟩ := SlX.slt_inst I2 h1
    exact bin_refl io I2.kIn J ⟨_, J.at_, fun _ _ => by intro z; cases z⟩ c.sf c.at_ c.atR c.fnR c.su (wpAny_mono (wpAny_call (run_fnAt (us := [.ref b, .int i t]) (ws := [.ref b, .int i]) G hr2 (hx σ) I2 (.cons rfl (.cons ⟨t, rfl⟩ .nil)) q)) (fun w s' z => cb_of z) fun _ _ x => x)
/-- - x -/
def rNegL (C : Addr) (sp : Sp) : V → Hp → VK → Prop := fun x H Q => ∃ a dx vs, x = .ref a ∧ SlX.Slt H a C dx vs ∧ sp [x] H Q E0
theorem un_negL (hs : PySem.W.findIn X.K (.ref C) "__neg__" = some (some (.ref f))) (hf : PySem.W.isFn X.K (.ref f) = true) (F : FnR X.prog X.w X.K X.mg X.base (L2.CX X.prog X.w) n f sp) (hr : Room n X.A) : UnR X (unaryOp .USub) (rNegL C sp) := by
  intro pins s σ H x v Q I rx h
  obtain ⟨a, dx, vs, rfl, h1, q⟩ := h
  cases (show v = Value.ref a from rx)
  obtain ⟨sl, od, _, J, _⟩ := SlX.slt_inst I h1
  obtain ⟨m, hF⟩ := I.fr
  exact PySem.W.ksp_neg hF I.ok.mod.kin J hs hf (wpAny_call (run_fnR (us := [.ref a]) (vs := [.ref a]) F hr passL I (.cons rfl .nil) q))
/-! raise C(), C a class of the text with no __init__ -/
theorem pmk_own0 {bmB : List Value} {BB newId initId : String} {x : Str} {p : Pos} (F : ExcBaseFacts BB newId initId bmB) (q : PySem.W.excIn X.K C bmB newId = true) (gC : X.mg x = some (.ref C))
    (kC : PySem.W.keepIn X.K (.ref C) = true) (r : Raises X (.ref C)) (hg : Gl X x) (hdb : (x == ("__debug__" : Str)) = false := by decide) :
    PMk X (.Call (.Name x p) [] [] pos) (fun _ H Q => Q (.ref C) none H) := by
  intro pins s σ H Q I h
  refine wpAny_Call_Name_kw (ld_glob I hg gC ?_ hdb)
  refine PySem.W.callWith_K0 (first := []) I.kIn kC ?_
  show wpAny _ _ (call (.ref C) []) _ _ _
  obtain ⟨bm, N, nm, qn, bs, hdct, sn, sub, ab, col, dd, k0, k1, k2, k3, k5, mN, hC, hN, hni, T⟩ := exc_obj I.kIn q
  refine wpAny_call_exc_subT F T hC hN hni (fun h' e hm => ?_) (Nat.zero_le _)
  exact mk_of I hm r h (I.hok.gone hm.new)
end
structure Ex0 (K : Frag) (C : Addr) : Prop where
  ex : PySem.W.excIn K C [.type "ValueError", .type "Exception", .type "BaseException", .type "object"] "ValueError.__new__" = true
  kp : PySem.W.keepIn K (.ref C) = true
  sb : PySem.W.subIn K (.ref C) (.type "BaseException") = some true
  ty : PySem.W.typeIn K (.ref C) = some (.type "type")
def ex0B (K : Frag) (C : Addr) : Bool := PySem.W.excIn K C [.type "ValueError", .type "Exception", .type "BaseException", .type "object"] "ValueError.__new__" && (PySem.W.keepIn K (.ref C) &&
  (decide (PySem.W.subIn K (.ref C) (.type "BaseException") = some true) && decide (PySem.W.typeIn K (.ref C) = some (.type "type"))))
theorem ex0B_ok {K : Frag} {C : Addr} (q : ex0B K C = true) : Ex0 K C := by
  obtain ⟨a, q⟩ := He.ba q
  obtain ⟨b, q⟩ := He.ba q
  obtain ⟨c, d⟩ := He.ba q
  exact ⟨a, b, of_decide_eq_true c, of_decide_eq_true d⟩
theorem ps_raiseP {X : Cx} {C : Addr} {W : WX} {x : Str} {p pos pos2 : Pos} (hc : X.calm = true) (tk : Takes X W) (c : Ex0 X.K C) (hg : Gl X x) (gC : X.mg x = some (.ref C)) (hdb : (x == ("__debug__" : Str)) = false := by decide) :
    PS X (.Raise (some (.Call (.Name x p) [] [] pos)) none pos2) (fun _ σ H => W (.ref C) none σ H) :=
  ps_raise hc tk (pmk_own0 PySem.F.excBase_ValueError c.ex gC c.kp (raises_own c.sb c.ty) hg hdb)
end S
namespace S
open PySem PySem.Spec PyProof.Rows L2
/-! abs(x) by the class's own def -/
section
variable {X : Cx} {C g : Addr} {n : Nat} {sp : Sp}
def rAbsL (C : Addr) (sp : Sp) : List V → Hp → VK → Prop := fun xs H Q => ∃ a dx vs, xs = [V.ref a] ∧ SlX.Slt H a C dx vs ∧ sp [.ref a] H Q E0
theorem call_absL (hs : PySem.W.findIn X.K (.ref C) "__abs__" = some (some (.ref g))) (hf : PySem.W.isFn X.K (.ref g) = true) (F : FnR X.prog X.w X.K X.mg X.base (L2.CX X.prog X.w) n g sp) (hr : Room (n + 1) X.A) : CallR X (.builtin "abs") (rAbsL C sp) := by
  intro pins s σ H xs us Q I r h
  obtain ⟨a, dx, vs, rfl, hsl, q⟩ := h
  obtain ⟨u, rfl, ru⟩ := r.one
  cases (show u = Value.ref a from ru)
  obtain ⟨sl, od, _, J, _⟩ := SlX.slt_inst I hsl
  refine PySem.Calls.call_function_entry kind_abs plain_abs entry_abs (args_abs _) ?_
  unfold Builtin.«abs»
  refine wpAny_bind (wpAny_of_eq (a := .ref a) rfl ?_)
  refine wpAny_bind (PySem.W.special_fn I.kIn J hs (beq_iff_eq.mp hf) (wpAny_mono (wpAny_call (SlX.run_at (us := [.ref a]) (ws := [.ref a]) F hr.in1 I.env0.in1 passL I (.cons rfl .nil) q)) (fun w s' z => ?_) fun _ _ x => x))
  exact wpAny_pure ⟨_, rfl, z⟩
end
end S
namespace S
open PySem PySem.Spec PyProof.Rows L2
/-! // by any divisor but 0 -/
def CDivN (_ j : Int) : Prop := j ≠ 0 ∧ j.natAbs.log2 < 9000
theorem op_fdivN {X : Cx} : OpR X (binaryOp .FloorDiv) (rI CDivN fun i j => .int (i.fdiv j)) := opI fun i j _ _ _ _ _ hc q => floordiv_int hc.1 q (.inl (PyProof.noPylong_of_log2 hc.2))
end S
namespace S
open PySem PySem.Spec PyProof.Rows L2
/-! ### == < .. of slotted instances by their own defs, the right side an instance of the class or an int -/
section
variable {X : Cx} {n : Nat} {C g : Addr} {sp : Sp}
def rCmpL (K : Frag) (C : Addr) (sp : Sp) : R2 := fun x y H Q => ∃ a dx vs, x = .ref a ∧ SlX.Slt H a C dx vs ∧ ((∃ b dy ws, y = .ref b ∧ SlX.Slt H b C dy ws) ∨ ((∃ i, y = .int i) ∧ PySem.W.notFirst K C (.type "int") = true)) ∧ sp [x, y] H Q E0
theorem op_cmpL {op : CmpOp} (hop : ∀ a b, compareOp op a b = richCompare op a b) (hs : PySem.W.findIn X.K (.ref C) (cmpInfo op).2.1 = some (some (.ref g))) (hf : PySem.W.isFn X.K (.ref g) = true)
    (F : FnR X.prog X.w X.K X.mg X.base (L2.CX X.prog X.w) n g sp) (hr : Room n X.A) : OpR X (compareOp op) (rCmpL X.K C sp) := by
  intro pins s σ H x y v u Q I rx ry h
  obtain ⟨a, dx, vs, rfl, h1, hy, q⟩ := h
  cases (show v = Value.ref a from rx)
  obtain ⟨sl, od, _, J, _⟩ := SlX.slt_inst I h1
  obtain ⟨m, hF⟩ := I.fr
  rw [hop]
  rcases hy with ⟨b, dy, ws, rfl, h2⟩ | ⟨⟨i, rfl⟩, hn⟩
  · cases (show u = Value.ref b from ry)
    obtain ⟨sl', od', _, J', _⟩ := SlX.slt_inst I h2
    refine PySem.W.cmp_K (op := op) (tb := .ref C) hr.units0 hF I.ok.mod.kin J J'.type (by simp [PySem.W.notFirst]) hs hf ?_
    refine wpAny_mono (wpAny_call (run_fnR (us := [.ref a, .ref b]) (vs := [.ref a, .ref b]) F hr passL I (.cons rfl (.cons rfl .nil)) q)) (fun w s' z => ?_) fun _ _ x => x
    obtain ⟨z2, H2, I2, rz, qz⟩ := z
    exact SlX.cmpback rz ⟨z2, H2, I2, rz, qz⟩
  · obtain ⟨t, rfl⟩ := (show ∃ t, u = Value.int i t from ry)
    refine PySem.W.cmp_K (op := op) (tb := .type "int") hr.units0 hF I.ok.mod.kin J (PySem.W.Looks.of_pure rfl) hn hs hf ?_
    refine wpAny_mono (wpAny_call (run_fnR (us := [.ref a, .int i t]) (vs := [.ref a, .int i]) F hr passL I (.cons rfl (.cons ⟨t, rfl⟩ .nil)) q)) (fun w s' z => ?_) fun _ _ x => x
    obtain ⟨z2, H2, I2, rz, qz⟩ := z
    exact SlX.cmpback rz ⟨z2, H2, I2, rz, qz⟩
/-- x != y by x's own ==, both of the class -/
def rNeL (C : Addr) (sp : Sp) : R2 := fun x y H Q => ∃ a dx vs b dy ws, x = .ref a ∧ y = .ref b ∧ SlX.Slt H a C dx vs ∧ SlX.Slt H b C dy ws ∧ sp [x, y] H (fun z H2 => ∃ r, z = .bl r ∧ Q (.bl (!r)) H2) E0
theorem op_neL (hne : PySem.W.findIn X.K (.ref C) "__ne__" = some (some (.builtin "object.__ne__"))) (hm : PySem.W.mroIn X.K C (.type "object") = some true)
    (hs : PySem.W.findIn X.K (.ref C) "__eq__" = some (some (.ref g))) (hf : PySem.W.isFn X.K (.ref g) = true)
    (F : FnR X.prog X.w X.K X.mg X.base (L2.CX X.prog X.w) n g sp) (hr : Room (n + 1) X.A) : OpR X (compareOp .NotEq) (rNeL C sp) := by
  intro pins s σ H x y v u Q I rx ry h
  obtain ⟨a, dx, fs, b, dy, gs, rfl, rfl, ha, hb, q⟩ := h
  cases (show v = Value.ref a from rx)
  cases (show u = Value.ref b from ry)
  obtain ⟨sl, od, _, J, _⟩ := SlX.slt_inst I ha
  obtain ⟨sl', od', _, J2, _⟩ := SlX.slt_inst I hb
  show wpAny _ _ (richCompare .NotEq (.ref a) (.ref b)) _ _ _
  refine ne_K (tb := .ref C) (hu_of hr) I.kIn J J2.type (by simp [PySem.W.notFirst]) hne hm hs hf ?_
  refine wpAny_mono (wpAny_call (SlX.run_at (us := [.ref a, .ref b]) (ws := [.ref a, .ref b]) F hr.in1 I.env0.in1 passL I (.cons rfl (.cons rfl .nil)) q)) (fun w s' z => ?_) fun _ _ x => x
  obtain ⟨z2, H2, I2, rz, r, rfl, qz⟩ := z
  cases (show w = Value.bool r from rz)
  exact ⟨r, rfl, .bl (!r), H2, I2, rfl, qz⟩
end
end S
namespace S
open PySem PySem.Spec PyProof.Rows L2
/-! ### [e for x in ..] by an invariant over the turn and the heap -/
section
variable {K : Frag} {a D : Addr} {xs : List V} {g : TG} {te : TE} {σ : L2.St} {H : Hp} {vs : List Nat} {R0 : Hp → Prop}
theorem lc_list (Pv : Nat → Hp → Prop) (h0 : Pv 0 (upd H D (.lst []))) (hl : ∀ i H, i ≤ xs.length → Pv i H → SqL K H a xs)
    (hs : ∀ i x H, xs[i]? = some x → Pv i H → g x (wipe σ vs) H fun σ2 H2 => wipe σ2 vs = wipe σ vs ∧ te σ2 H2 fun y H4 => ∃ acc, H4 D = some (.lst acc) ∧ acc.length < sizeLine ∧ Pv (i + 1) (upd H4 D (.lst (acc ++ [y]))))
    (hd : ∀ H, Pv xs.length H → R0 H)
    (mono : ∀ x H R R', (∀ σ2 H2, R σ2 H2 → R' σ2 H2) → g x (wipe σ vs) H R → g x (wipe σ vs) H R') :
    ∃ W : Nat → Nat → Hp → Prop, (∃ m, W 0 m (upd H D (.lst []))) ∧ ∀ i m H, W i m H →
      ((Itl K a).stop i H ∧ R0 H) ∨ ((Itl K a).go i H ∧ ∃ Nx : Hp → Prop, (∀ H', Nx H' → ∃ m', m' < m ∧ W (i + 1) m' H') ∧ ∀ x H', (Itl K a).yld i H x H' → g x (wipe σ vs) H' fun σ2 H2 => wipe σ2 vs = wipe σ vs ∧ tYes σ2 H2 fun b H3 =>
        if b = true then te σ2 H3 fun y H4 => ∃ acc, H4 D = some (.lst acc) ∧ acc.length < sizeLine ∧ Nx (upd H4 D (.lst (acc ++ [y]))) else Nx H3) := by
  refine ⟨fun i m H => m = xs.length - i ∧ i ≤ xs.length ∧ Pv i H, ⟨xs.length, by simp, Nat.zero_le _, h0⟩, ?_⟩
  rintro i m H ⟨rfl, hi, p⟩
  have q := hl i H hi p
  by_cases hlt : i < xs.length
  · refine .inr ⟨⟨xs, xs[i], q, by simp [hlt]⟩, Pv (i + 1), fun H' p' => ⟨xs.length - (i + 1), by omega, rfl, hlt, p'⟩, fun x H' y => ?_⟩
    obtain ⟨e, y⟩ := y
    subst e
    exact mono _ _ _ _ (fun σ2 H2 z => ⟨z.1, by unfold tYes; exact iteT z.2⟩) (hs i x _ (y xs q) p)
  · have e : i = xs.length := by omega
    subst e
    exact .inl ⟨⟨xs, q, Nat.le_refl _⟩, hd H p⟩
theorem lc_range {lo : Int} {n : Nat} (Pv : Nat → Hp → Prop) (h0 : Pv 0 (upd H D (.lst [])))
    (hs : ∀ i H, i < n → Pv i H → g (.int (lo + i)) (wipe σ vs) H fun σ2 H2 => wipe σ2 vs = wipe σ vs ∧ te σ2 H2 fun y H4 => ∃ acc, H4 D = some (.lst acc) ∧ acc.length < sizeLine ∧ Pv (i + 1) (upd H4 D (.lst (acc ++ [y]))))
    (hd : ∀ H, Pv n H → R0 H)
    (mono : ∀ x H R R', (∀ σ2 H2, R σ2 H2 → R' σ2 H2) → g x (wipe σ vs) H R → g x (wipe σ vs) H R') :
    ∃ W : Nat → Nat → Hp → Prop, (∃ m, W 0 m (upd H D (.lst []))) ∧ ∀ i m H, W i m H →
      ((Itr lo n).stop i H ∧ R0 H) ∨ ((Itr lo n).go i H ∧ ∃ Nx : Hp → Prop, (∀ H', Nx H' → ∃ m', m' < m ∧ W (i + 1) m' H') ∧ ∀ x H', (Itr lo n).yld i H x H' → g x (wipe σ vs) H' fun σ2 H2 => wipe σ2 vs = wipe σ vs ∧ tYes σ2 H2 fun b H3 =>
        if b = true then te σ2 H3 fun y H4 => ∃ acc, H4 D = some (.lst acc) ∧ acc.length < sizeLine ∧ Nx (upd H4 D (.lst (acc ++ [y]))) else Nx H3) := by
  refine ⟨fun i m H => m = n - i ∧ i ≤ n ∧ Pv i H, ⟨n, by simp, Nat.zero_le _, h0⟩, ?_⟩
  rintro i m H ⟨rfl, hi, p⟩
  by_cases hlt : i < n
  · refine .inr ⟨hlt, Pv (i + 1), fun H' p' => ⟨n - (i + 1), by omega, rfl, hlt, p'⟩, fun x H' y => ?_⟩
    obtain ⟨e, y⟩ := y
    subst e y
    exact mono _ _ _ _ (fun σ2 H2 z => ⟨z.1, by unfold tYes; exact iteT z.2⟩) (hs i _ hlt p)
  · have e : i = n := by omega
    subst e
    exact .inl ⟨Nat.le_refl _, hd H p⟩
theorem gName_mono {i : Nat} {σ : L2.St} : ∀ (x : V) (H : Hp) (R R' : L2.St → Hp → Prop), (∀ σ2 H2, R σ2 H2 → R' σ2 H2) → gName i x σ H R → gName i x σ H R' := fun _ _ _ _ k h => k _ _ h
theorem sumK {X : Cx} (hK : X.K = K) (hc : X.calm = true) : CallR X (.builtin "sum") (rSum K) := hK ▸ cr_sum hc
theorem boot_sum : bootBuiltins "sum" = some (.builtin "sum") := by decide +kernel
end
end S
namespace S
open PySem PySem.Spec PyProof.Rows L2
/-! ### == of any data, by what the parts answer -/
section
variable {K : Frag} {H : Hp} {n m : Nat} {x y : V} {b : Bool}
def EqOk (K : Frag) (H : Hp) (n : Nat) (x y : V) (b : Bool) : Prop := ∀ (X : Cx) (pins : List (Addr × Obj)) (σ : L2.St) (s : Shared) (A : Around) (v u : Value), X.K = K → Inv X pins σ H s → A.units + n < cLine → RelV x v → RelV y u → SeqAt.EqAt A s v u b
def RcOk (K : Frag) (H : Hp) (n : Nat) (x y : V) (b : Bool) : Prop := ∀ (X : Cx) (pins : List (Addr × Obj)) (σ : L2.St) (s : Shared) (A : Around) (v u : Value), X.K = K → Inv X pins σ H s → A.units + n < cLine → RelV x v → RelV y u → ∀ (E Q : Value → Shared → Prop), Q (.bool b) s → wpAny (model X.prog X.w) A (richCompare .Eq v u) Q E s
def NeOk (K : Frag) (H : Hp) (n : Nat) (x y : V) (b : Bool) : Prop := ∀ (X : Cx) (pins : List (Addr × Obj)) (σ : L2.St) (s : Shared) (A : Around) (v u : Value), X.K = K → Inv X pins σ H s → A.units + n < cLine → RelV x v → RelV y u → ∀ (E Q : Value → Shared → Prop), Q (.bool (!b)) s → wpAny (model X.prog X.w) A (richCompare .NotEq v u) Q E s
structure EqG (K : Frag) (H : Hp) (n : Nat) (x y : V) (b : Bool) : Prop where
  eq : RcOk K H n x y b
  ne : NeOk K H n x y b
  at_ : EqOk K H n x y b
theorem EqOk.up (h : EqOk K H n x y b) (l : n ≤ m) : EqOk K H m x y b := fun X pins σ s A v u k I hu => h X pins σ s A v u k I (Nat.lt_of_le_of_lt (Nat.add_le_add_left l _) hu)
theorem EqOk.to {c : Bool} (h : EqOk K H n x y b) (e : b = c) : EqOk K H n x y c := e ▸ h
theorem EqG.to {c : Bool} (h : EqG K H n x y b) (e : b = c) : EqG K H n x y c := e ▸ h
theorem EqG.up (h : EqG K H n x y b) (l : n ≤ m) : EqG K H m x y b :=
  ⟨fun X pins σ s A v u k I hu => h.eq X pins σ s A v u k I (Nat.lt_of_le_of_lt (Nat.add_le_add_left l _) hu), fun X pins σ s A v u k I hu => h.ne X pins σ s A v u k I (Nat.lt_of_le_of_lt (Nat.add_le_add_left l _) hu), h.at_.up l⟩
theorem eg_same {a : Addr} : EqOk K H n (.ref a) (.ref a) true := fun X pins σ s A v u k I hu rv ru => by
  cases rv
  cases ru
  exact SeqAt.EqAt.same _
theorem eg_dat {d e : PyData} (hd : Dp K H x d) (he : Dp K H y e) (pd : d.plain = true) (pe : e.plain = true) : EqG K H (min d.depth e.depth) x y (PyData.eqv d e) where
  eq := fun X pins σ s A v u k I hu rv ru => by
    subst k
    obtain ⟨as, r1⟩ := Dp.reads I d x v hd rv
    obtain ⟨bs, r2⟩ := Dp.reads I e y u he ru
    exact SeqAt.rcAt_plain r1 r2 pd pe hu X.prog X.w
  ne := fun X pins σ s A v u k I hu rv ru => by
    subst k
    obtain ⟨as, r1⟩ := Dp.reads I d x v hd rv
    obtain ⟨bs, r2⟩ := Dp.reads I e y u he ru
    exact SeqAt.rcNe_plain r1 r2 pd pe hu X.prog X.w
  at_ := fun X pins σ s A v u k I hu rv ru => by
    subst k
    obtain ⟨as, r1⟩ := Dp.reads I d x v hd rv
    obtain ⟨bs, r2⟩ := Dp.reads I e y u he ru
    exact SeqAt.eqAt_plain _ _ _ _ _ _ _ _ r1 r2 pd pe hu
theorem vals_at {xs : List V} {us : List Value} (r : Vals xs us) {j : Nat} (h : j < us.length) : ∃ x, xs[j]? = some x ∧ RelV x us[j] := by
  have hx : j < xs.length := by rw [r.length]; exact h
  obtain ⟨u, e, q⟩ := r.get (List.getElem?_eq_getElem hx)
  rw [List.getElem?_eq_getElem h] at e
  cases e
  exact ⟨_, List.getElem?_eq_getElem hx, q⟩
/-- pair by pair -/
def pairs (e : Nat → Bool) (xs ys : List V) : Bool := decide (xs.length = ys.length) && (List.range xs.length).all e
theorem eg_list {a c : Addr} {xs ys : List V} {e : Nat → Bool} (ha : SqL K H a xs) (hc : SqL K H c ys) (he : ∀ i p q, xs[i]? = some p → ys[i]? = some q → EqOk K H n p q (e i)) (hab : a = c → pairs e xs ys = true) : EqG K H (n + 1) (.ref a) (.ref c) (pairs e xs ys) := by
  have rc : ∀ (X : Cx) (pins : List (Addr × Obj)) (σ : L2.St) (s : Shared) (A : Around) (v u : Value), X.K = K → Inv X pins σ H s → A.units + (n + 1) < cLine → RelV (.ref a) v → RelV (.ref c) u → SeqAt.RcAt A s v u (pairs e xs ys) := fun X pins σ s A v u k I hu rv ru => by
    subst k
    cases rv
    cases ru
    obtain ⟨its, r, pl, _⟩ := I.list ha
    obtain ⟨its2, r2, pl2, _⟩ := I.list hc
    unfold pairs
    by_cases hl : xs.length = ys.length
    · rw [decide_eq_true hl, Bool.true_and]
      have := SeqAt.RcAt.lists (A := A) (e := e) pl.isList pl2.isList (by simp only [List.size_toArray]; rw [← r.length, ← r2.length, hl]) (by omega) (fun j h1 h2 => by
        obtain ⟨p, hp, rp⟩ := vals_at r (j := j) (by simpa using h1)
        obtain ⟨q, hq, rq⟩ := vals_at r2 (j := j) (by simpa using h2)
        simpa using he j p q hp hq X pins σ s A.in1 _ _ rfl I (by show A.units + 1 + n < cLine; omega) rp rq)
      rw [List.size_toArray, ← r.length] at this
      exact this
    · rw [decide_eq_false hl, Bool.false_and]
      exact SeqAt.RcAt.lists_lengths pl.isList pl2.isList (by simp only [List.size_toArray]; rw [← r.length, ← r2.length]; simpa using hl) (by omega)
  refine ⟨fun X pins σ s A v u k I hu rv ru => rc X pins σ s A v u k I hu rv ru X.prog X.w, fun X pins σ s A v u k I hu rv ru => ?_, fun X pins σ s A v u k I hu rv ru => ?_⟩
  · subst k
    cases rv
    cases ru
    obtain ⟨its, r, pl, _⟩ := I.list ha
    obtain ⟨its2, r2, pl2, _⟩ := I.list hc
    unfold pairs
    by_cases hl : xs.length = ys.length
    · rw [decide_eq_true hl, Bool.true_and]
      have := SeqAt.RcNeAt.lists (A := A) (e := e) pl.isList pl2.isList (by simp only [List.size_toArray]; rw [← r.length, ← r2.length, hl]) (by omega) (fun j h1 h2 => by
        obtain ⟨p, hp, rp⟩ := vals_at r (j := j) (by simpa using h1)
        obtain ⟨q, hq, rq⟩ := vals_at r2 (j := j) (by simpa using h2)
        simpa using he j p q hp hq X pins σ s A.in1 _ _ rfl I (by show A.units + 1 + n < cLine; omega) rp rq)
      rw [List.size_toArray, ← r.length] at this
      exact this X.prog X.w
    · rw [decide_eq_false hl, Bool.false_and]
      exact SeqAt.RcNeAt.lists_lengths pl.isList pl2.isList (by simp only [List.size_toArray]; rw [← r.length, ← r2.length]; simpa using hl) (by omega) X.prog X.w
  · have z := rc X pins σ s A v u k I hu rv ru
    cases rv
    cases ru
    by_cases e0 : a = c
    · subst e0
      rw [hab rfl]
      exact SeqAt.EqAt.same _
    · exact SeqAt.EqAt.of_refs e0 z
theorem eg_tup {a c : Addr} {xs ys : List V} {e : Nat → Bool} (ha : SqT K H a xs) (hc : SqT K H c ys) (he : ∀ i p q, xs[i]? = some p → ys[i]? = some q → EqOk K H n p q (e i)) (hab : a = c → pairs e xs ys = true) : EqG K H (n + 1) (.ref a) (.ref c) (pairs e xs ys) := by
  have flag : ∀ {p q : Nat}, p = xs.length → q = ys.length → ((List.range (min p q)).all e && p == q) = pairs e xs ys := fun {p q} h1 h2 => by
    subst h1 h2
    unfold pairs
    by_cases hl : xs.length = ys.length
    · rw [← hl]; simp
    · simp [hl]
  have rc : ∀ (X : Cx) (pins : List (Addr × Obj)) (σ : L2.St) (s : Shared) (A : Around) (v u : Value), X.K = K → Inv X pins σ H s → A.units + (n + 1) < cLine → RelV (.ref a) v → RelV (.ref c) u → SeqAt.RcAt A s v u (pairs e xs ys) := fun X pins σ s A v u k I hu rv ru => by
    subst k
    cases rv
    cases ru
    obtain ⟨its, r, pl, _⟩ := I.tuple ha
    obtain ⟨its2, r2, pl2, _⟩ := I.tuple hc
    have := SeqAt.RcAt.tuples (A := A) (e := e) pl pl2 (by omega) (fun j h1 h2 => by
      obtain ⟨p, hp, rp⟩ := vals_at r (j := j) (by simpa using h1)
      obtain ⟨q, hq, rq⟩ := vals_at r2 (j := j) (by simpa using h2)
      simpa using he j p q hp hq X pins σ s A.in1 _ _ rfl I (by show A.units + 1 + n < cLine; omega) rp rq)
    rw [flag (by simp [r.length]) (by simp [r2.length])] at this
    exact this
  refine ⟨fun X pins σ s A v u k I hu rv ru => rc X pins σ s A v u k I hu rv ru X.prog X.w, fun X pins σ s A v u k I hu rv ru => ?_, fun X pins σ s A v u k I hu rv ru => ?_⟩
  · subst k
    cases rv
    cases ru
    obtain ⟨its, r, pl, _⟩ := I.tuple ha
    obtain ⟨its2, r2, pl2, _⟩ := I.tuple hc
    have := SeqAt.RcNeAt.tuples (A := A) (e := e) pl pl2 (by omega) (fun j h1 h2 => by
      obtain ⟨p, hp, rp⟩ := vals_at r (j := j) (by simpa using h1)
      obtain ⟨q, hq, rq⟩ := vals_at r2 (j := j) (by simpa using h2)
      simpa using he j p q hp hq X pins σ s A.in1 _ _ rfl I (by show A.units + 1 + n < cLine; omega) rp rq)
    rw [flag (by simp [r.length]) (by simp [r2.length])] at this
    exact this X.prog X.w
  · have z := rc X pins σ s A v u k I hu rv ru
    cases rv
    cases ru
    by_cases e0 : a = c
    · subst e0
      rw [hab rfl]
      exact SeqAt.EqAt.same _
    · exact SeqAt.EqAt.of_refs e0 z
/-- two dicts: as many keys, and each of the first at the second -/
def hitsV (f : V → V → Bool) (ks ls : List (Key × V)) : Bool := ks.all fun p => match valV ls p.1 with | some y => f p.2 y | none => false
theorem hits_G {A : Around} {s : Shared} {f : V → V → Bool} {ls : List (Key × V)} {vb : List (Key × Value)} (rb : KV ls vb) {ks : List (Key × V)} {va : List (Key × Value)} (ra : KV ks va) :
    (∀ p ∈ ks, ∀ z, valV ls p.1 = some z → ∀ v u, RelV p.2 v → RelV z u → SeqAt.EqAt A s v u (f p.2 z)) → PySem.W.KeqHits A s vb va (hitsV f ks ls) := by
  unfold KV at ra
  induction ra with
  | nil => intro _; exact .nil
  | @cons p q ps qs h t ih =>
    intro hp
    obtain ⟨h1, h2⟩ := h
    obtain ⟨k, v⟩ := q
    have h1' : p.1 = k := h1
    have ih := ih fun p' hm => hp p' (List.mem_cons_of_mem _ hm)
    unfold hitsV
    rw [List.all_cons]
    cases e : valV ls p.1 with
    | none =>
      have rr : RelO none (valueAt vb p.1) := by rw [← e]; exact rb.val p.1
      have hn : valueAt vb p.1 = none := by
        cases hv : valueAt vb p.1 with
        | none => rfl
        | some w => rw [hv] at rr; cases rr
      rw [h1'] at hn
      simp only [Bool.false_and]
      exact .miss hn
    | some z =>
      have rr : RelO (some z) (valueAt vb p.1) := by rw [← e]; exact rb.val p.1
      obtain ⟨y, hy, ry⟩ := rr.some_of
      rw [h1'] at hy
      exact .hit hy (hp p List.mem_cons_self z e v y h2 ry) ih
theorem eg_dict {a c : Addr} {ks ls : List (Key × V)} {f : V → V → Bool} (ha : H a = some (.dK ks)) (hc : H c = some (.dK ls)) (he : ∀ p ∈ ks, ∀ z, valV ls p.1 = some z → EqOk K H n p.2 z (f p.2 z)) :
    RcOk K H (n + 1) (.ref a) (.ref c) (decide (ks.length = ls.length) && hitsV f ks ls) ∧ NeOk K H (n + 1) (.ref a) (.ref c) (decide (ks.length = ls.length) && hitsV f ks ls) := by
  refine ⟨fun X pins σ s A v u k I hu rv ru E Q q => ?_, fun X pins σ s A v u k I hu rv ru E Q q => ?_⟩
  · cases rv
    cases ru
    obtain ⟨_, ya, va, ra, da⟩ := (show ObjOk X.prog X.w H s.heap a (.dK ks) from I.hok a _ ha)
    obtain ⟨_, yb, vb, rb, db⟩ := (show ObjOk X.prog X.w H s.heap c (.dK ls) from I.hok c _ hc)
    refine PySem.W.keq_eq (knd := mixKind X.prog X.w) (r := hitsV f ks ls) ya yb da db (by omega) (fun _ => hits_G rb ra fun p hp z hz v u rv ru => he p hp z hz X pins σ s A.in1 v u k I (by show A.units + 1 + n < cLine; omega) rv ru) ?_
    rw [← ra.length, ← rb.length]
    exact q
  · cases rv
    cases ru
    obtain ⟨_, ya, va, ra, da⟩ := (show ObjOk X.prog X.w H s.heap a (.dK ks) from I.hok a _ ha)
    obtain ⟨_, yb, vb, rb, db⟩ := (show ObjOk X.prog X.w H s.heap c (.dK ls) from I.hok c _ hc)
    refine PySem.W.keq_ne (knd := mixKind X.prog X.w) (r := hitsV f ks ls) ya yb da db (by omega) (fun _ => hits_G rb ra fun p hp z hz v u rv ru => he p hp z hz X pins σ s A.in1 v u k I (by show A.units + 1 + n < cLine; omega) rv ru) ?_
    rw [← ra.length, ← rb.length]
    exact q
def toV : Value → V
  | .none => .non
  | .bool b => .bl b
  | .int i _ => .int i
  | .str z _ => .str z
  | .bytes b _ => .byt b
  | .float b _ => .flt b
  | .ref a => .ref a
  | .type n => .ty n
  | _ => .non
theorem toV_of {x : V} {u : Value} (h : L2.RelV x u) : toV u = x := by cases x <;> first | (cases h; rfl) | (obtain ⟨t, rfl⟩ := h; rfl)
theorem relV_one {x y : V} {u : Value} (h : L2.RelV x u) (k : L2.RelV y u) : x = y := (toV_of h).symm.trans (toV_of k)
/-- x == y, x != y, by their parts -/
def rEqG (K : Frag) : R2 := fun x y H Q => ∃ n b, n ≤ 60 ∧ RcOk K H n x y b ∧ Q (.bl b) H
def rNeG (K : Frag) : R2 := fun x y H Q => ∃ n b, n ≤ 60 ∧ NeOk K H n x y b ∧ Q (.bl (!b)) H
theorem eqGK {X : Cx} (hK : X.K = K) (hu : X.A.units + 64 < cLine) : OpR X (compareOp .Eq) (rEqG K) := by
  intro pins s σ H x y v u Q I rx ry h
  obtain ⟨n, b, hn, h, q⟩ := h
  exact h X pins σ s X.A v u hK I (by omega) rx ry _ _ ⟨.bl b, H, I, rfl, q⟩
theorem neGK {X : Cx} (hK : X.K = K) (hu : X.A.units + 64 < cLine) : OpR X (compareOp .NotEq) (rNeG K) := by
  intro pins s σ H x y v u Q I rx ry h
  obtain ⟨n, b, hn, h, q⟩ := h
  exact h X pins σ s X.A v u hK I (by omega) rx ry _ _ ⟨.bl (!b), H, I, rfl, q⟩
/-- x in ys, a list or a tuple: f tells which item equals x -/
def rInG (K : Frag) (neg : Bool) : R2 := fun x y H Q => ∃ p ys n f, y = .ref p ∧ (SqL K H p ys ∨ SqT K H p ys) ∧ n ≤ 60 ∧ (∀ z ∈ ys, EqOk K H n z x (f z)) ∧ Q (.bl (if neg then !ys.any f else ys.any f)) H
def eU (_ : List V) (f : V → Bool) (u : Value) : Bool := f (toV u)
theorem eU_of {ys : List V} {f : V → Bool} {z : V} {u : Value} (hz : z ∈ ys) (r : L2.RelV z u) : eU ys f u = f z := by
  unfold eU
  rw [toV_of r]
theorem any_eU {f : V → Bool} {ys0 : List V} : ∀ {ys : List V} {us : List Value}, Vals ys us → (∀ z ∈ ys, z ∈ ys0) → us.any (eU ys0 f) = ys.any f
  | _, _, .nil, _ => rfl
  | y :: ys, u :: us, .cons r t, h => by
    rw [List.any_cons, List.any_cons, eU_of (h y List.mem_cons_self) r, any_eU t fun z hz => h z (List.mem_cons_of_mem _ hz)]
theorem vals_mem : ∀ {ys : List V} {us : List Value}, Vals ys us → ∀ u ∈ us, ∃ z ∈ ys, RelV z u
  | _, _, .nil, u, h => by cases h
  | y :: ys, u :: us, .cons r t, u', h => by
    rcases List.mem_cons.mp h with rfl | h
    · exact ⟨y, List.mem_cons_self, r⟩
    · obtain ⟨z, hz, q⟩ := vals_mem t u' h
      exact ⟨z, List.mem_cons_of_mem _ hz, q⟩
theorem inGK {X : Cx} (hK : X.K = K) (hu : X.A.units + 64 < cLine) : OpR X (compareOp .In) (rInG K false) := by
  intro pins s σ H x y v u Q I rx ry h
  subst hK
  obtain ⟨p, ys, n, f, rfl, hq, hn, he, q⟩ := h
  cases ry
  rcases hq with hq | hq
  · obtain ⟨its, r, pl, hz⟩ := I.list hq
    refine SeqAt.in_listAt (eU ys f) pl.isList (fun w hw => ?_) ⟨.bl _, H, I, rfl, ?_⟩
    · obtain ⟨z, hz, rz⟩ := vals_mem r w (by simpa using hw)
      rw [eU_of hz rz]
      exact he z hz X pins σ s X.A.in1 _ _ rfl I (by show X.A.units + 1 + n < cLine; omega) rz rx
    · rw [show its.toArray.any (eU ys f) = its.any (eU ys f) by simp, any_eU r fun _ h => h]
      exact q
  · obtain ⟨its, r, pl, hz⟩ := I.tuple hq
    refine SeqAt.in_tupleAt (eU ys f) pl (fun w hw => ?_) ⟨.bl _, H, I, rfl, ?_⟩
    · obtain ⟨z, hz, rz⟩ := vals_mem r w (by simpa using hw)
      rw [eU_of hz rz]
      exact he z hz X pins σ s X.A.in1 _ _ rfl I (by show X.A.units + 1 + n < cLine; omega) rz rx
    · rw [show its.toArray.any (eU ys f) = its.any (eU ys f) by simp, any_eU r fun _ h => h]
      exact q
theorem notInGK {X : Cx} (hK : X.K = K) (hu : X.A.units + 64 < cLine) : OpR X (compareOp .NotIn) (rInG K true) := by
  intro pins s σ H x y v u Q I rx ry h
  subst hK
  obtain ⟨p, ys, n, f, rfl, hq, hn, he, q⟩ := h
  cases ry
  rcases hq with hq | hq
  · obtain ⟨its, r, pl, hz⟩ := I.list hq
    refine SeqAt.notIn_listAt (eU ys f) pl.isList (fun w hw => ?_) ⟨.bl _, H, I, rfl, ?_⟩
    · obtain ⟨z, hz, rz⟩ := vals_mem r w (by simpa using hw)
      rw [eU_of hz rz]
      exact he z hz X pins σ s X.A.in1 _ _ rfl I (by show X.A.units + 1 + n < cLine; omega) rz rx
    · rw [show its.toArray.any (eU ys f) = its.any (eU ys f) by simp, any_eU r fun _ h => h]
      exact q
  · obtain ⟨its, r, pl, hz⟩ := I.tuple hq
    refine SeqAt.notIn_tupleAt (eU ys f) pl (fun w hw => ?_) ⟨.bl _, H, I, rfl, ?_⟩
    · obtain ⟨z, hz, rz⟩ := vals_mem r w (by simpa using hw)
      rw [eU_of hz rz]
      exact he z hz X pins σ s X.A.in1 _ _ rfl I (by show X.A.units + 1 + n < cLine; omega) rz rx
    · rw [show its.toArray.any (eU ys f) = its.any (eU ys f) by simp, any_eU r fun _ h => h]
      exact q
end
end S
namespace S
open PySem PySem.Spec PyProof.Rows L2
/-! ### a list or a tuple that stands still, walked -/
section
variable {X : Cx} {K : Frag}
abbrev SqX (K : Frag) (H : Hp) (a : Addr) (xs : List V) : Prop := SqL K H a xs ∨ SqT K H a xs
theorem SqX.same {H H' : Hp} {a : Addr} {xs : List V} (h : SqX K H a xs) (s : Same H H') : SqX K H' a xs := by
  rcases h with (h | h) | (h | h)
  · rcases h with h | ⟨o, h⟩
    · exact .inl (.inl (.inl (s _ _ h)))
    · exact .inl (.inl (.inr ⟨o, s _ _ h⟩))
  · exact .inl (.inr h)
  · rcases h with h | ⟨o, h⟩
    · exact .inr (.inl (.inl (s _ _ h)))
    · exact .inr (.inl (.inr ⟨o, s _ _ h⟩))
  · exact .inr (.inr h)
theorem sqL_same {H H' : Hp} {a : Addr} {xs : List V} (h : SqL K H a xs) (s : Same H H') : SqL K H' a xs := by
  rcases h with (h | ⟨o, h⟩) | h
  · exact .inl (.inl (s _ _ h))
  · exact .inl (.inr ⟨o, s _ _ h⟩)
  · exact .inr h
theorem sqT_same {H H' : Hp} {a : Addr} {xs : List V} (h : SqT K H a xs) (s : Same H H') : SqT K H' a xs := by
  rcases h with (h | ⟨o, h⟩) | h
  · exact .inl (.inl (s _ _ h))
  · exact .inl (.inr ⟨o, s _ _ h⟩)
  · exact .inr h
def iSeq (K : Frag) (tl : TE) : TI := fun σ H R => tl σ H fun x H1 => ∃ a xs, x = .ref a ∧ SqX K H1 a xs ∧ ∀ J, Walk J xs.length (fun H => Same H1 H) (YAt xs) → R J H1
theorem pi_seqK {tg l : Expr} {tl : TE} (hK : X.K = K) (hl : PE X l tl) : PI X tg l (iSeq K tl) := by
  subst hK
  refine ⟨fun pins s σ H R I h => ?_⟩
  refine thn (hl.run pins s σ H _ I h) fun v s1 ⟨x, H1, I1, r1, q1⟩ => ?_
  obtain ⟨a, xs, e, hq, q⟩ := q1
  subst e
  cases r1
  have fp : ∀ b ∈ [s1.heap.objs.size], FpOk X pins H1 b := fun b hb => by
    have e : b = s1.heap.objs.size := by simpa using hb
    subst e
    exact I1.fpOk (Nat.le_refl _) (I1.hok.fresh (Nat.le_refl _))
  rcases hq with hq | hq
  · obtain ⟨its, rv, p, hz⟩ := I1.list hq
    refine wpAny_pyIter_list p.isList ?_
    exact ⟨s1.heap.objs.size, [s1.heap.objs.size], _, Itl X.K a, H1, rfl, I1.kept (t' := s1.toks) fun b o e => Heap.get?_push_of_some _ e, turn_list a _, ⟨_, Heap.get?_push_size _ rfl, rfl, rfl⟩, fp, q _ (walk_list.mono (fun H s => sqL_same hq s) fun _ _ _ _ _ _ y => y)⟩
  · obtain ⟨its, rv, p, hz⟩ := I1.tuple hq
    refine wpAny_pyIter_tuple (show s1.heap.IsTuple a its.toArray from p) ?_
    exact ⟨s1.heap.objs.size, [s1.heap.objs.size], _, Itt X.K a, H1, rfl, I1.kept (t' := s1.toks) fun b o e => Heap.get?_push_of_some _ e, turn_tuple a _, ⟨_, Heap.get?_push_size _ rfl, rfl, rfl⟩, fp, q _ (walk_tup.mono (fun H s => sqT_same hq s) fun _ _ _ _ _ _ y => y)⟩
theorem slSeqK (hK : X.K = K) : SlR X (fun x lo hi H Q => rSlL K x lo hi H Q ∨ rSlT K x lo hi H Q) := hK ▸ sl_list.or sl_tup
/-- a for over what stands still: one turn reads the item at its place -/
theorem for_seq {J : It} {xs : List V} {H0 : Hp} (w : Walk J xs.length (fun H => Same H0 H) (YAt xs)) {g : TG} {tb : TS} {D : Ends} {σ : L2.St} {H : Hp} (Pv : Nat → L2.St → Hp → Prop) (h0 : Pv 0 σ H) (hG : ∀ i σ H, i ≤ xs.length → Pv i σ H → Same H0 H)
    (hs : ∀ i x σ H, xs[i]? = some x → Pv i σ H → g x σ H fun σ2 H2 => tb { D with nx := Pv (i + 1), ct := Pv (i + 1), bk := D.nx } σ2 H2) (hd : ∀ σ H, Pv xs.length σ H → D.nx σ H) :
    ∃ W : Nat → Nat → L2.St → Hp → Prop, (∃ m, W 0 m σ H) ∧ ∀ i m σ H, W i m σ H →
      (J.stop i H ∧ D.nx σ H) ∨ (J.go i H ∧ ∃ N : L2.St → Hp → Prop, (∀ σ' H', N σ' H' → ∃ m', m' < m ∧ W (i + 1) m' σ' H') ∧ ∀ x H', J.yld i H x H' → g x σ H' fun σ2 H2 => tb { D with nx := N, ct := N, bk := D.nx } σ2 H2) :=
  for_it w Pv h0 hG (fun i x σ H H' _ p y => by obtain ⟨rfl, e⟩ := y; exact hs i x σ _ e p) hd
theorem lc_seq {J : It} {xs : List V} {H0 : Hp} (w : Walk J xs.length (fun H => Same H0 H) (YAt xs)) {g : TG} {tt : TT} {te : TE} {vs : List Nat} {σ : L2.St} {H1 : Hp} {D : Addr} {Qd : Hp → Prop} (Pv : Nat → Hp → Prop) (h0 : Pv 0 (upd H1 D (.lst []))) (hG : ∀ i H, i ≤ xs.length → Pv i H → Same H0 H)
    (hs : ∀ i x H, xs[i]? = some x → Pv i H → g x (wipe σ vs) H fun σ2 H2 => wipe σ2 vs = wipe σ vs ∧ tt σ2 H2 fun b H3 =>
      if b = true then te σ2 H3 fun y H4 => ∃ acc, H4 D = some (.lst acc) ∧ acc.length < sizeLine ∧ Pv (i + 1) (upd H4 D (.lst (acc ++ [y]))) else Pv (i + 1) H3) (hd : ∀ H, Pv xs.length H → Qd H) :
    ∃ W : Nat → Nat → Hp → Prop, (∃ m, W 0 m (upd H1 D (.lst []))) ∧ ∀ i m H, W i m H →
      (J.stop i H ∧ Qd H) ∨ (J.go i H ∧ ∃ Nx : Hp → Prop, (∀ H', Nx H' → ∃ m', m' < m ∧ W (i + 1) m' H') ∧ ∀ x H', J.yld i H x H' → g x (wipe σ vs) H' fun σ2 H2 => wipe σ2 vs = wipe σ vs ∧ tt σ2 H2 fun b H3 =>
        if b = true then te σ2 H3 fun y H4 => ∃ acc, H4 D = some (.lst acc) ∧ acc.length < sizeLine ∧ Nx (upd H4 D (.lst (acc ++ [y]))) else Nx H3) :=
  lc_it w Pv h0 hG (fun i x H H' _ p y => by obtain ⟨rfl, e⟩ := y; exact hs i x _ e p) hd
theorem dc_it {J : It} {n : Nat} {G : Hp → Prop} {Y : Nat → Hp → V → Hp → Prop} (w : Walk J n G Y) {g : TG} {tt : TT} {tk tv : TE} {vs : List Nat} {σ : L2.St} {H1 : Hp} {D : Addr} {Qd : Hp → Prop} (Pv : Nat → Hp → Prop) (h0 : Pv 0 (upd H1 D (.dK []))) (hG : ∀ i H, i ≤ n → Pv i H → G H)
    (hs : ∀ i x H H', i < n → Pv i H → Y i H x H' → g x (wipe σ vs) H' fun σ2 H2 => wipe σ2 vs = wipe σ vs ∧ tt σ2 H2 fun b H3 =>
      if b = true then tk σ2 H3 fun y H4 => tv σ2 H4 fun z H5 => ∃ kvs k, y = kV k ∧ H5 D = some (.dK kvs) ∧ kvs.length < sizeLine ∧ Pv (i + 1) (upd H5 D (.dK (putK kvs k z))) else Pv (i + 1) H3) (hd : ∀ H, Pv n H → Qd H) :
    ∃ W : Nat → Nat → Hp → Prop, (∃ m, W 0 m (upd H1 D (.dK []))) ∧ ∀ i m H, W i m H →
      (J.stop i H ∧ Qd H) ∨ (J.go i H ∧ ∃ Nx : Hp → Prop, (∀ H', Nx H' → ∃ m', m' < m ∧ W (i + 1) m' H') ∧ ∀ x H', J.yld i H x H' → g x (wipe σ vs) H' fun σ2 H2 => wipe σ2 vs = wipe σ vs ∧ tt σ2 H2 fun b H3 =>
        if b = true then tk σ2 H3 fun y H4 => tv σ2 H4 fun z H5 => ∃ kvs k, y = kV k ∧ H5 D = some (.dK kvs) ∧ kvs.length < sizeLine ∧ Nx (upd H5 D (.dK (putK kvs k z))) else Nx H3) := by
  refine ⟨fun i m H => m = n - i ∧ i ≤ n ∧ Pv i H, ⟨n, by simp, Nat.zero_le _, h0⟩, ?_⟩
  rintro i m H ⟨rfl, hi, p⟩
  have q := hG i H hi p
  by_cases hlt : i < n
  · exact .inr ⟨w.goes i H hlt q, Pv (i + 1), fun H' p' => ⟨n - (i + 1), by omega, rfl, hlt, p'⟩, fun x H' y => hs i x H H' hlt p (w.yields i H x H' hlt q y)⟩
  · have e : i = n := by omega
    subst e
    exact .inl ⟨w.stops H q, hd H p⟩
end
/-! ### o[i], x in o, len(o), by own defs of a plain class -/
section
variable {X : Cx} {n : Nat} {C g : Addr} {sp : Sp} {E : L2.St → XK}
theorem run_in1 {pins : List (Addr × Obj)} {σ : L2.St} {H : Hp} {s : Shared} {Q : VK} {us : List Value} {vs : List V} (F : FnR X.prog X.w X.K X.mg X.base (L2.CX X.prog X.w) n g sp) (hr : Room n X.A.in1) (I : Inv X pins σ H s) (hx : PassesAt (L2.CX X.prog X.w) X σ (E σ)) (r : Vals vs us) (h : sp vs H Q (E σ)) :
    codeAny (model X.prog X.w) X.A.in1 (.call (.ref g) ⟨us, []⟩) (fun r s' => match r with | .ok (.ret v) => EP X pins σ Q v s' | .ok _ => False | .error e => X.xe e s') s := by
  refine codeAny_mono (F X.A.in1 X.stack s H us vs Q (E σ) hr I.env0.in1 r h) fun r s' hq => ?_
  cases r with
  | error e => exact hx pins H s e s' I hq
  | ok fl =>
    cases fl with
    | ret u => exact I.after hq
    | next => exact False.elim hq
    | brk => exact False.elim hq
    | cont => exact False.elim hq
theorem run_at0 {pins : List (Addr × Obj)} {σ : L2.St} {H : Hp} {s : Shared} {Q : VK} {us : List Value} {vs : List V} (F : FnR X.prog X.w X.K X.mg X.base (L2.CX X.prog X.w) n g sp) (hr : Room n X.A) (I : Inv X pins σ H s) (hx : PassesAt (L2.CX X.prog X.w) X σ (E σ)) (r : Vals vs us) (h : sp vs H Q (E σ)) :
    codeAny (model X.prog X.w) X.A (.call (.ref g) ⟨us, []⟩) (fun r s' => match r with | .ok (.ret v) => EP X pins σ Q v s' | .ok _ => False | .error e => X.xe e s') s := by
  refine codeAny_mono (F X.A X.stack s H us vs Q (E σ) hr I.env0 r h) fun r s' hq => ?_
  cases r with
  | error e => exact hx pins H s e s' I hq
  | ok fl =>
    cases fl with
    | ret u => exact I.after hq
    | next => exact False.elim hq
    | brk => exact False.elim hq
    | cont => exact False.elim hq
def tIxO (C : Addr) (sp : Sp) (E : L2.St → XK) (ta tb : TE) : TE := fun σ H Q => ta σ H fun x H1 => tb σ H1 fun y H2 => ∃ a dx fs, x = .ref a ∧ H2 a = some (.ins C dx fs) ∧ sp [.ref a, y] H2 Q (E σ)
theorem pe_ixO {a b : Expr} {ta tb : TE} {pos : Pos} (hs : PySem.W.findIn X.K (.ref C) "__getitem__" = some (some (.ref g))) (hf : PySem.W.fnIn X.K g = true) (hfn : PySem.W.isFn X.K (.ref g) = true)
    (F : FnR X.prog X.w X.K X.mg X.base (L2.CX X.prog X.w) n g sp) (hr : Room (n + 1) X.A) (hx : ∀ σ, PassesAt (L2.CX X.prog X.w) X σ (E σ)) (ha : PE X a ta) (hb : PE X b tb)
    (hsl : ∀ v i, subscripted b true v i = runValue (.builtin "lifetime.subscript" ⟨[v, i], []⟩) := by intro _ _; with_unfolding_all rfl) : PE X (.Subscript a b pos) (tIxO C sp E ta tb) := by
  refine ⟨fun pins s σ H Q I h => ?_⟩
  refine Subscript_ (binT ha hb I h fun v u s2 x y H2 I2 rx ry q => ?_)
  obtain ⟨p, dx, fs, rfl, ep, q⟩ := q
  cases (show v = Value.ref p from rx)
  obtain ⟨mA, O, _⟩ := ins_get I2.hok ep
  obtain ⟨od, J, _⟩ := O.look
  obtain ⟨m, hF⟩ := I2.fr
  refine PySem.W.sub_K hF I2.ok.mod.kin J hs hf hfn ?_ (hsl _ _)
  exact wpAny_call (run_in1 (us := [.ref p, u]) (vs := [.ref p, y]) F hr.in1 I2 (hx σ) (.cons rfl (.cons ry .nil)) q)
/-- x in o: the own def answers with a bool -/
def rInC (C : Addr) (sp : Sp) (neg : Bool) : R2 := fun x y H Q => ∃ a dx fs, y = .ref a ∧ H a = some (.ins C dx fs) ∧ sp [.ref a, x] H (fun z H2 => ∃ r, z = .bl r ∧ Q (.bl (if neg then !r else r)) H2) E0
theorem op_inC (hs : PySem.W.findIn X.K (.ref C) "__contains__" = some (some (.ref g))) (hfn : PySem.W.isFn X.K (.ref g) = true) (F : FnR X.prog X.w X.K X.mg X.base (L2.CX X.prog X.w) n g sp) (hr : Room n X.A) : OpR X (compareOp .In) (rInC C sp false) := by
  intro pins s σ H x y v u Q I rx ry h
  obtain ⟨a, dx, fs, rfl, ea, q⟩ := h
  cases (show u = Value.ref a from ry)
  obtain ⟨mA, O, _⟩ := ins_get I.hok ea
  obtain ⟨od, J, _⟩ := O.look
  obtain ⟨m, hF⟩ := I.fr
  refine PySem.W.in_K hF I.ok.mod.kin J hs hfn ?_
  refine wpAny_mono (wpAny_call (run_at0 (E := fun _ => E0) (us := [.ref a, v]) (vs := [.ref a, x]) F hr I (pas0 σ) (.cons rfl (.cons rx .nil)) q)) (fun w s' z => ?_) fun _ _ x => x
  obtain ⟨z2, H2, I2, rz, r, rfl, qz⟩ := z
  cases (show w = Value.bool r from rz)
  exact wpAny_truthy_bool ⟨.bl r, H2, I2, rfl, qz⟩
theorem op_notInC (hs : PySem.W.findIn X.K (.ref C) "__contains__" = some (some (.ref g))) (hfn : PySem.W.isFn X.K (.ref g) = true) (F : FnR X.prog X.w X.K X.mg X.base (L2.CX X.prog X.w) n g sp) (hr : Room n X.A) : OpR X (compareOp .NotIn) (rInC C sp true) := by
  intro pins s σ H x y v u Q I rx ry h
  obtain ⟨a, dx, fs, rfl, ea, q⟩ := h
  cases (show u = Value.ref a from ry)
  obtain ⟨mA, O, _⟩ := ins_get I.hok ea
  obtain ⟨od, J, _⟩ := O.look
  obtain ⟨m, hF⟩ := I.fr
  refine PySem.W.notIn_K hF I.ok.mod.kin J hs hfn ?_
  refine wpAny_mono (wpAny_call (run_at0 (E := fun _ => E0) (us := [.ref a, v]) (vs := [.ref a, x]) F hr I (pas0 σ) (.cons rfl (.cons rx .nil)) q)) (fun w s' z => ?_) fun _ _ x => x
  obtain ⟨z2, H2, I2, rz, r, rfl, qz⟩ := z
  cases (show w = Value.bool r from rz)
  exact wpAny_truthy_bool ⟨.bl (!r), H2, I2, rfl, qz⟩
def rLenO (C : Addr) (sp : Sp) : List V → Hp → VK → Prop := fun xs H Q => ∃ a dx fs, xs = [.ref a] ∧ H a = some (.ins C dx fs) ∧ sp [.ref a] H (fun z H2 => ∃ i : Int, z = .int i ∧ 0 ≤ i ∧ i < 2 ^ 63 ∧ Q (.int i) H2) E0
theorem call_lenO (hs : PySem.W.findIn X.K (.ref C) "__len__" = some (some (.ref g))) (hfn : PySem.W.isFn X.K (.ref g) = true) (F : FnR X.prog X.w X.K X.mg X.base (L2.CX X.prog X.w) n g sp) (hr : Room (n + 1) X.A) : CallR X (.builtin "len") (rLenO C sp) := by
  intro pins s σ H xs us Q I r h
  obtain ⟨a, dx, fs, rfl, ea, q⟩ := h
  cases r with
  | cons r1 r2 =>
    cases r2
    cases r1
    obtain ⟨mA, O, _⟩ := ins_get I.hok ea
    obtain ⟨od, J, _⟩ := O.look
    obtain ⟨m, hF⟩ := I.fr
    refine PySem.W.len_K hF I.ok.mod.kin J hs hfn ?_
    refine wpAny_mono (wpAny_call (run_in1 (E := fun _ => E0) (us := [.ref a]) (vs := [.ref a]) F hr.in1 I (pas0 σ) (.cons rfl .nil) q)) (fun w s' z => ?_) fun _ _ x => x
    obtain ⟨z2, H2, I2, rz, i, rfl, l0, l1, qz⟩ := z
    obtain ⟨t, rfl⟩ := (show ∃ t, w = Value.int i t from rz)
    exact ⟨⟨l0, l1⟩, .int i, H2, I2.tok _, ⟨_, rfl⟩, qz⟩
end
end S
namespace S
open PySem PySem.Spec PyProof.Rows L2
section
variable {X : Cx} {K : Frag}
theorem yesT {σ : L2.St} {H : Hp} {R : Bool → Hp → Prop} (h : R true H) : tYes σ H R := h
theorem listOfK (hK : X.K = K) : CallR X (.type "list") (fun xs H Q => ∃ p ys, xs = [.ref p] ∧ (SqL K H p ys ∨ SqT K H p ys) ∧ ∀ l, H l = none → Q (.ref l) (upd H l (.lst ys))) := hK ▸ call_list_of
theorem tupOfK (hK : X.K = K) : CallR X (.type "tuple") (fun xs H Q => ∃ p ys, xs = [.ref p] ∧ ((SqL K H p ys ∧ ∀ l, H l = none → Q (.ref l) (upd H l (.tup ys))) ∨ (SqT K H p ys ∧ Q (.ref p) H))) := hK ▸ call_tuple_of
/-! readings of a list or tuple that stands -/
theorem ixX {H : Hp} {a : Addr} {xs : List V} {v : V} {i : Int} {Q : VK} (h : SqX K H a xs) (e : atI xs i = some v) (q : Q v H) : rIx K (.ref a) (.int i) H Q := by
  rcases h with h | h
  · exact .inl ⟨a, _, _, _, rfl, rfl, h, e, q⟩
  · exact .inr (.inl ⟨a, _, _, _, rfl, rfl, h, e, q⟩)
theorem lenVX {H : Hp} {a : Addr} {xs : List V} (h : SqX K H a xs) : LenV K (.ref a) H xs.length := by
  rcases h with h | h
  · exact .inl ⟨_, h, rfl⟩
  · exact .inr ⟨_, h, rfl⟩
theorem sIx_nat {n d i : Nat} (h : i ≤ n) : HT.sIx n d (some (i : Int)) = i := by
  simp only [HT.sIx]
  split <;> omega
theorem cut_take (xs : List V) {i : Nat} (h : i ≤ xs.length) : cutV xs none (some (i : Int)) = xs.take i := by
  unfold cutV
  have e1 : HT.sIx xs.length 0 none = 0 := rfl
  have e2 : HT.sIx xs.length xs.length (some (i : Int)) = i := sIx_nat h
  rw [e1, e2]
  simp
theorem cut_drop (xs : List V) {i : Nat} (h : i ≤ xs.length) : cutV xs (some (i : Int)) none = xs.drop i := by
  unfold cutV
  have e1 : HT.sIx xs.length xs.length none = xs.length := rfl
  have e2 : HT.sIx xs.length 0 (some (i : Int)) = i := sIx_nat h
  rw [e1, e2]
  rw [List.take_of_length_le (by rw [List.length_drop]; exact Nat.le_refl _)]
theorem sl_takeX {H : Hp} {a : Addr} {xs : List V} {i : Nat} {Q : VK} (h : SqX K H a xs) (hi : i < xs.length) (q : ∀ p H', H p = none → Same H H' → SqX K H' p (xs.take i) → Q (.ref p) H') : rSlL K (.ref a) none (some (i : Int)) H Q ∨ rSlT K (.ref a) none (some (i : Int)) H Q := by
  rcases h with h | h
  · refine .inl ⟨a, xs, rfl, h, fun p hp => q p _ hp (Same.new hp) (.inl (.inl (.inl ?_)))⟩
    rw [cut_take xs (Nat.le_of_lt hi), upd_same]
  · refine .inr ⟨a, xs, rfl, h, ?_, fun p hp => q p _ hp (Same.new hp) (.inr (.inl (.inl ?_)))⟩
    · rintro ⟨_, e⟩
      have e2 : HT.sIx xs.length xs.length (some (i : Int)) = i := sIx_nat (Nat.le_of_lt hi)
      omega
    · rw [cut_take xs (Nat.le_of_lt hi), upd_same]
/-! flat things -/
theorem eg_str {H : Hp} {n : Nat} {a b : Str} : EqG K H n (.str a) (.str b) (decide (a = b)) := by
  have h := eg_dat (K := K) (H := H) (.str a) (.str b) rfl rfl
  refine (h.to ?_).up (by simp [PyData.depth])
  simp only [PyData.eqv]
  rw [Bool.eq_iff_iff]
  simp
theorem eg_int {H : Hp} {n : Nat} {a b : Int} : EqG K H n (.int a) (.int b) (decide (a = b)) := by
  have h := eg_dat (K := K) (H := H) (.int a) (.int b) rfl rfl
  refine (h.to ?_).up (by simp [PyData.depth])
  simp only [PyData.eqv]
  rw [Bool.eq_iff_iff]
  simp
theorem eg_bl {H : Hp} {n : Nat} {a b : Bool} : EqG K H n (.bl a) (.bl b) (decide (a = b)) := by
  have h := eg_dat (K := K) (H := H) (.bl a) (.bl b) rfl rfl
  refine (h.to ?_).up (by simp [PyData.depth])
  simp only [PyData.eqv]
  rw [Bool.eq_iff_iff]
  simp
/-- texts, pair by pair -/
theorem pairs_str {ws zs : List Str} : pairs (fun i => decide (ws[i]? = zs[i]?)) (ws.map V.str) (zs.map V.str) = decide (ws = zs) := by
  unfold pairs
  rw [List.length_map, List.length_map, Bool.eq_iff_iff]
  simp only [Bool.and_eq_true, decide_eq_true_eq, List.all_eq_true, List.mem_range]
  constructor
  · rintro ⟨hl, h⟩
    refine List.ext_getElem? fun i => ?_
    by_cases c : i < ws.length
    · exact h i c
    · rw [List.getElem?_eq_none (by omega), List.getElem?_eq_none (by omega)]
  · rintro rfl
    exact ⟨rfl, fun _ _ => rfl⟩
theorem str_pair {H : Hp} {n : Nat} {ws zs : List Str} (i : Nat) (p q : V) (hp : (ws.map V.str)[i]? = some p) (hq : (zs.map V.str)[i]? = some q) : EqOk K H n p q (decide (ws[i]? = zs[i]?)) := by
  rw [List.getElem?_map] at hp hq
  obtain ⟨a, ha, rfl⟩ := Option.map_eq_some_iff.mp hp
  obtain ⟨b, hb, rfl⟩ := Option.map_eq_some_iff.mp hq
  rw [ha, hb]
  refine eg_str.at_.to ?_
  simp
/-- two tuples of texts, two lists of texts -/
theorem eg_tups {H : Hp} {n : Nat} {a c : Addr} {ws zs : List Str} (ha : SqT K H a (ws.map V.str)) (hc : SqT K H c (zs.map V.str)) (hab : a = c → ws = zs) : EqG K H (n + 1) (.ref a) (.ref c) (decide (ws = zs)) :=
  (eg_tup ha hc str_pair fun e => by rw [pairs_str]; exact decide_eq_true (hab e)).to pairs_str
theorem eg_lsts {H : Hp} {n : Nat} {a c : Addr} {ws zs : List Str} (ha : SqL K H a (ws.map V.str)) (hc : SqL K H c (zs.map V.str)) (hab : a = c → ws = zs) : EqG K H (n + 1) (.ref a) (.ref c) (decide (ws = zs)) :=
  (eg_list ha hc str_pair fun e => by rw [pairs_str]; exact decide_eq_true (hab e)).to pairs_str
theorem mapS_inj {ws zs : List Str} (h : ws.map V.str = zs.map V.str) : ws = zs := (List.map_inj_right (fun _ _ e => by injection e)).mp h
theorem eg_flat {H : Hp} {n : Nat} {x y : V} (hx : flatV x = true) (hy : flatV y = true) : EqOk K H n x y (eqV x y) := fun X pins σ s A v u _ I hu rv ru => eqAt_V rv ru hx hy
end
end S
namespace S
open PySem PySem.Spec PyProof.Rows L2
section
variable {X : Cx} {K : Frag}
theorem slTwK (hK : X.K = K) : SlR X (rSlA K) := hK ▸ sl_tupA
theorem catTK (hK : X.K = K) : OpR X (binaryOp .Add) (rCatA K) := hK ▸ op_catA
theorem sl_Tt {H : Hp} {a : Addr} {xs : List V} {lo hi : Option Int} {Q : VK} (h : H a = some (.tup xs)) (q : ∀ p H', Same H H' → H' p = some (.tup (cutV xs lo hi)) → Q (.ref p) H') : rSlA K (.ref a) lo hi H Q := by
  refine ⟨a, xs, rfl, .inl (.inl h), fun e => q a H (fun _ _ z => z) ?_, fun _ p hp => q p _ (Same.new hp) upd_same⟩
  rw [h]
  unfold cutV
  rw [e.1, e.2]
  simp
theorem cat_Tt {H : Hp} {a b : Addr} {xs ys : List V} {Q : VK} (h : H a = some (.tup xs)) (h' : H b = some (.tup ys)) (hl : xs.length + ys.length ≤ 1000) (q : ∀ p H', Same H H' → H' p = some (.tup (xs ++ ys)) → Q (.ref p) H') : rCatA K (.ref a) (.ref b) H Q := by
  refine ⟨a, b, xs, ys, rfl, rfl, .inl (.inl h), .inl (.inl h'), Nat.le_trans hl (by decide), fun e => q b H (fun _ _ z => z) ?_, fun _ e => q a H (fun _ _ z => z) ?_, fun _ _ p hp => q p _ (Same.new hp) upd_same⟩
  · rw [h', e]; rfl
  · rw [h, e, List.append_nil]
end
end S
namespace S
open PySem PySem.Spec PyProof.Rows L2
/-! ### several except clauses, each with a name or with none -/
/-- an error of the body has come to the clauses -/
structure Lnd (X : Cx) (pins : List (Addr × Obj)) (σ : L2.St) (H : Hp) (a : Addr) (cls : Value) (d : Option Addr) (B : Heap) (t s : Shared) : Prop where
  inv : Inv X pins σ H t
  nb : ∀ b o, t.heap.get? b = some o → b ∉ frs X.stack → B.get? b = some o
  up : t.heap.UpToSlots s.heap
  fl : HandSPX.FlyingZ B (X.env :: X.outer) a (Zc cls d) s.heap
  na : H a = none
  os : s.os = t.os
  ag : AllBare s.gens
section
variable {X : Cx} {pins : List (Addr × Obj)} {σ : L2.St} {H : Hp} {a : Addr} {cls : Value} {d : Option Addr} {B : Heap} {t s : Shared}
theorem Lnd.here (l : Lnd X pins σ H a cls d B t s) : Inv X pins σ H s := by
  exact l.inv.landed l.nb l.fl.1 l.up l.os l.ag
theorem Lnd.lay (hs : X.stack = X.env :: X.outer) (hf : X.env.frame = some X.env.locals) (l : Lnd X pins σ H a cls d B t s) :
    ∃ o, s.heap.get? a = some o ∧ Zc cls d o ∧ (∃ vs, o.data = .fields vs) ∧ Inv (X.suite a ((a, o) :: (X.pn ++ pins))) [] σ H s := by
  obtain ⟨o, vs, e1, e2, e3⟩ := l.fl.there
  have out : a ∉ frs (X.env :: X.outer) := fun m => by
    obtain ⟨_, o2, e4, no⟩ := l.fl.2.2.1.mem m
    rw [e1] at e4
    cases e4
    exact no _ e3
  have n1 : a ≠ X.env.locals := fun z => out (List.mem_filterMap.mpr ⟨X.env, List.mem_cons_self, by rw [hf, z]⟩)
  have n2 : a ∉ X.fs := fun m => by
    obtain ⟨v, hv, z⟩ := List.mem_filterMap.mp m
    exact out (List.mem_filterMap.mpr ⟨v, List.mem_cons_of_mem _ hv, z⟩)
  exact ⟨o, e1, e2, ⟨vs, e3⟩, l.here.suite e1 e3 l.na n1 n2⟩
theorem Lnd.again {M : Model} {A : Around} {E : Value → Shared → Prop} {Q : Unit → Shared → Prop} (l : Lnd X pins σ H a cls d B t s)
    (q : ∀ h', Lnd X pins σ H a cls d B t { s with heap := h' } → Q () { s with heap := h' }) : wpAny M A (setFlight (.ref a) none) Q E s :=
  HandSPX.lands_againZ l.fl fun h' f u => q h' ⟨l.inv, l.nb, l.up.trans u, f, l.na, l.os, l.ag⟩
theorem Lnd.pass {W : WX} {D : Ends} (hs : X.stack = X.env :: X.outer) (hf : X.env.frame = some X.env.locals) (tk : Takes X W) (l : Lnd X pins σ H a cls d B t s) (w : W cls d σ H) :
    wpAny (model X.prog X.w) X.A (handleBy (.ref a) X.env []) (SP X pins D) X.xe s := by
  refine wpAny_handleBy_nil ?_
  obtain ⟨_, _, _, _, vs, T, _, _, g1, _, g2, g3, _⟩ := id l.fl
  unfold PySem.passOn
  refine wpAny_bind (wpAny_field g1 g2 g3 ?_)
  rw [if_neg (by simp : ¬ ((Value.ref T == Value.none) = true))]
  have last : wpAny (model X.prog X.w) X.A (setFlight (.ref a) X.env.frame) (fun _ s4 => wpAny (model X.prog X.w) X.A (throw (.ref a) : Sem Flow) (SP X pins D) X.xe s4) X.xe s := by
    rw [hf]
    exact HandSPX.setFlight_upZ l.fl fun h4 g u => wpAny_throw (tk _ _ ⟨a, B, t, pins, σ, H, cls, d, rfl, l.inv, l.nb, l.up.trans u, .inr (.inr (by rw [hs]; exact g)), l.na, l.os, l.ag, w⟩)
  first
    | exact wpAny_bind last
    | exact wpAny_bind (wpAny_pure (wpAny_bind last))
end
/-- a clause: its class, the slot of its name, its suite -/
structure Cl where
  c : Value
  i : Option Nat
  ts : Addr → Value → Option Addr → TS
/-- what the clauses wish of an error of the body -/
def wCl (K : Frag) (W : WX) (D : Ends) : List Cl → WX
  | [] => W
  | ⟨c, some i, ts⟩ :: r => fun cls d σ H => ∃ b, PySem.W.exmOne K cls c = some b ∧
      (b = true → ∀ a, H a = none → ts a cls d { nx := fun τ J => D.nx (τ.set i none) J, rt := D.rt, bk := fun τ J => D.bk (τ.set i none) J, ct := fun τ J => D.ct (τ.set i none) J } (σ.set i (some (.ref a))) H) ∧ (b = false → wCl K W D r cls d σ H)
  | ⟨c, none, ts⟩ :: r => fun cls d σ H => ∃ b, PySem.W.exmOne K cls c = some b ∧ (b = true → ∀ a, H a = none → ts a cls d D σ H) ∧ (b = false → wCl K W D r cls d σ H)
inductive ClOk (X : Cx) : List ExceptHandler → List Cl → Prop
  | nil : ClOk X [] []
  | as_ {x n : Str} {c : Value} {i : Nat} {ts : Addr → Value → Option Addr → TS} {b : Stmt} {bs : List Stmt} {np p : Pos} {hds : List ExceptHandler} {l : List Cl} (hN : X.N.Nodup) (hi : X.N[i]? = some n) (hl : X.env.kindOf n = some .local) (hc : Names X x c)
      (hsu : ∀ (a : Addr) (oe : Obj) (cls : Value) (d : Option Addr) (pn : List (Addr × Obj)), Zc cls d oe → (∃ vs, oe.data = .fields vs) → PSs (X.suite a ((a, oe) :: pn)) (b :: bs) (ts a cls d)) (r : ClOk X hds l) :
      ClOk X (.ExceptHandler (some (.Name x np)) (some n) (b :: bs) p :: hds) (⟨c, some i, ts⟩ :: l)
  | only {x : Str} {c : Value} {ts : Addr → Value → Option Addr → TS} {b : Stmt} {bs : List Stmt} {np p : Pos} {hds : List ExceptHandler} {l : List Cl} (hc : Names X x c)
      (hsu : ∀ (a : Addr) (oe : Obj) (cls : Value) (d : Option Addr) (pn : List (Addr × Obj)), Zc cls d oe → (∃ vs, oe.data = .fields vs) → PSs (X.suite a ((a, oe) :: pn)) (b :: bs) (ts a cls d)) (r : ClOk X hds l) :
      ClOk X (.ExceptHandler (some (.Name x np)) none (b :: bs) p :: hds) (⟨c, none, ts⟩ :: l)
section
variable {X : Cx} {pins : List (Addr × Obj)} {σ : L2.St} {H : Hp} {a : Addr} {cls : Value} {d : Option Addr} {B : Heap} {t s : Shared}
/-- the class that a clause names is looked at -/
theorem Lnd.name {x : Str} {np : Pos} {c : Value} {Q : Value → Shared → Prop} {E : Value → Shared → Prop} (hs : X.stack = X.env :: X.outer) (hf : X.env.frame = some X.env.locals) (l : Lnd X pins σ H a cls d B t s) (hc : Names X x c) (q : Q c s) :
    wpAny (model X.prog X.w) (X.A.mark (some (.ref a))) (eval (.Name x np) X.env) Q E s := by
  obtain ⟨o, e1, e2, _, I⟩ := l.lay hs hf
  obtain ⟨g1, g2, g3 | ⟨g3, g4, g5⟩⟩ := hc
  · exact ld_glob (X := X.suite a ((a, o) :: (X.pn ++ pins))) I g1 g3 q g2
  · exact ld_blt (X := X.suite a ((a, o) :: (X.pn ++ pins))) I g1 g3 g4 q g5 g2
theorem Lnd.asks {A : Around} {c : Value} {b : Bool} {Q : Bool → Shared → Prop} {E : Value → Shared → Prop} (hs : X.stack = X.env :: X.outer) (hf : X.env.frame = some X.env.locals) (l : Lnd X pins σ H a cls d B t s) (e : PySem.W.exmOne X.K cls c = some b) (q : Q b s) :
    wpAny (model X.prog X.w) A (excMatches (.ref a) c) Q E s := by
  obtain ⟨o, e1, e2, _, I⟩ := l.lay hs hf
  have ty : PySem.W.Looks (model X.prog X.w) s.heap (typeOf (.ref a)) cls := fun A Q E s' k z => wpAny_typeOf_ref (k _ _ e1) (by rw [e2.1]; exact z)
  exact (PySem.W.exm_one (M := model X.prog X.w) l.here.kIn ty e).here q
theorem Lnd.by_ {W : WX} {D : Ends} (hs : X.stack = X.env :: X.outer) (hf : X.env.frame = some X.env.locals) (tk : Takes X W) :
    ∀ {hds : List ExceptHandler} {l : List Cl}, ClOk X hds l → ∀ {s : Shared}, Lnd X pins σ H a cls d B t s → wCl X.K W D l cls d σ H → wpAny (model X.prog X.w) X.A (handleBy (.ref a) X.env hds) (SP X pins D) X.xe s := by
  intro hds l hk
  induction hk with
  | nil => exact fun L w => L.pass hs hf tk w
  | as_ hN hi hl hc hsu r ih =>
    intro s L w
    obtain ⟨b, e, yes, no⟩ := w
    refine wpAny_handleBy_cons (codeAny_handlers_test (L.name hs hf hc (L.asks hs hf e ?_))) (by intro q; cases q)
    cases b with
    | false => exact ih L (no rfl)
    | true =>
      refine codeAny_handlers_suite_as (L.again fun h' L' => ?_)
      obtain ⟨o, _, hz, hv, I⟩ := L'.lay hs hf
      refine store_ok (X := X.suite a ((a, o) :: (X.pn ++ pins))) (v := .ref a) I hN hi (.inl hl) rfl (fun s5 I5 => ?_) (.inr hl)
      refine wpAny_mono ((hsu a o cls d _ hz hv).run [] s5 _ H _ I5 (yes rfl a L.na)) (fun f s6 z => ?_) fun _ _ z => False.elim z
      match f, z with
      | .next, ⟨τ, J, I6, k⟩ => exact gone_ok (I6.unsuite L.inv.ok) hN hi hl fun s7 I7 => ⟨_, _, I7, k⟩
      | .brk, ⟨τ, J, I6, k⟩ => exact gone_ok (I6.unsuite L.inv.ok) hN hi hl fun s7 I7 => ⟨_, _, I7, k⟩
      | .cont, ⟨τ, J, I6, k⟩ => exact gone_ok (I6.unsuite L.inv.ok) hN hi hl fun s7 I7 => ⟨_, _, I7, k⟩
      | .ret u, ⟨v, τ, J, I6, rv, k⟩ => exact gone_ok (I6.unsuite L.inv.ok) hN hi hl fun s7 I7 => ⟨_, _, _, I7, rv, k⟩
  | only hc hsu r ih =>
    intro s L w
    obtain ⟨b, e, yes, no⟩ := w
    refine wpAny_handleBy_cons (codeAny_handlers_test (L.name hs hf hc (L.asks hs hf e ?_))) (by intro q; cases q)
    cases b with
    | false => exact ih L (no rfl)
    | true =>
      refine codeAny_handlers_suite (L.again fun h' L' => ?_)
      obtain ⟨o, _, hz, hv, I⟩ := L'.lay hs hf
      refine wpAny_mono ((hsu a o cls d _ hz hv).run [] _ _ H _ I (yes rfl a L.na)) (fun f s6 z => ?_) fun _ _ z => False.elim z
      match f, z with
      | .next, ⟨τ, J, I6, k⟩ => exact ⟨_, _, I6.unsuite L.inv.ok, k⟩
      | .brk, ⟨τ, J, I6, k⟩ => exact ⟨_, _, I6.unsuite L.inv.ok, k⟩
      | .cont, ⟨τ, J, I6, k⟩ => exact ⟨_, _, I6.unsuite L.inv.ok, k⟩
      | .ret u, ⟨v, τ, J, I6, rv, k⟩ => exact ⟨_, _, _, I6.unsuite L.inv.ok, rv, k⟩
theorem ps_try_cl {W : WX} {body : List Stmt} {h0 : ExceptHandler} {hds : List ExceptHandler} {l : List Cl} {tb : WX → TS} {pos : Pos} (hs : X.stack = X.env :: X.outer) (hf : X.env.frame = some X.env.locals) (tk : Takes X W)
    (hb : ∀ (W' : WX) (pn : List (Addr × Obj)) (xe : Value → Shared → Prop), Takes (X.tr pn xe) W' → PassesOwn (model X.prog X.w) X.A X.env xe → PSs (X.tr pn xe) body (tb W'))
    (hh : ClOk X (h0 :: hds) l) : PS X (.Try body (h0 :: hds) [] [] pos) (fun D σ H => tb (wCl X.K W D l) D σ H) := by
  refine ⟨fun pins s σ H D I h => wpAny_Try_except ?_⟩
  have fr : X.A.frames = some (X.env :: X.outer) := by rw [I.ok.frames, hs]
  refine wpAny_mono ((hb (wCl X.K W D l) (X.pn ++ pins) (fun e s1 => wpAny (model X.prog X.w) X.A (noteFrame e X.env) (fun _ s2 => wpAny (model X.prog X.w) X.A (setFlight e none) (fun _ s3 =>
    wpAny (model X.prog X.w) X.A (handleBy e X.env (h0 :: hds)) (SP X pins D) X.xe s3) X.xe s2) X.xe s1) (fun u s' xx => ?_) PassesOwn.looking).run [] s σ H D (I.toTry _) h) (fun f s1 z => ?_) fun _ _ z => z
  · obtain ⟨a, B, t, pins2, τ, J, cls, d, rfl, I2, nb, up, sky, na, os, ag, w⟩ := xx
    refine Sky.land Zc.steady fr hf (by rw [← hs]; exact sky) fun h3 f3 u3 => ?_
    exact Lnd.by_ (a := a) (cls := cls) (d := d) (B := B) (t := t) hs hf tk hh ⟨I2.ofTry I.ok, nb, up.trans u3, f3, na, os, ag⟩ w
  · match f, z with
    | .next, ⟨τ, J, I2, k⟩ => exact wpAny_execs_nil ⟨τ, J, I2.ofTry I.ok, k⟩
    | .brk, ⟨τ, J, I2, k⟩ => exact ⟨τ, J, I2.ofTry I.ok, k⟩
    | .cont, ⟨τ, J, I2, k⟩ => exact ⟨τ, J, I2.ofTry I.ok, k⟩
    | .ret u, ⟨v, τ, J, I2, rv, k⟩ => exact ⟨v, τ, J, I2.ofTry I.ok, rv, k⟩
end
end S
namespace S
open PySem PySem.Spec PyProof.Rows L2
/-! ### a dict beside a thing of another kind: not equal -/
section
open PySem.SeqAt
variable {prog : Program} {w : World} {A : Around} {E : Value → Shared → Prop} {s : Shared}
/-- a dict stands at d -/
def DkO (s : Shared) (d : Addr) : Prop := ∃ es ep, s.heap.get? d = some ⟨.type "dict", none, .dict es ep, #[]⟩
theorem DkO.ty {d : Addr} (h : DkO s d) : s.TypeIs (.ref d) "dict" := by
  obtain ⟨es, ep, e⟩ := h
  exact ⟨_, e, rfl⟩
theorem dict_no {d : Addr} {y : Value} {T : String} {Q : Value → Shared → Prop} (hd : s.TypeIs (.ref d) "dict") (hy : s.TypeIs y T) (hs : isSubtype (.type T) (.type "dict") = pure false) (q : Q .notImplemented s)
    {name : Str} (sl : Slot "dict" name "dict.__eq__") : wpAny (model prog w) A (call (.builtin "dict.__eq__") [.ref d, y]) Q E s := by
  refine wpAny_call_entry sl hd PySem.F.entry_dict_eq ?_ (PySem.F.args_dict_eq_2 _ _)
  show wpAny _ _ (Builtin.Dict.dictSlotArgs "__eq__" ⟨[.ref d, y], []⟩ >>= _) _ _ s
  refine wpAny_bind ?_
  unfold Builtin.Dict.dictSlotArgs
  refine wpAny_bind (wpAny_notOrdered_dict hd ?_)
  show wpAny _ _ (pure (Value.ref d, y)) _ _ s
  refine wpAny_pure (wpAny_bind (wpAny_isInstance (T := T) hy hs ?_))
  simp only [Bool.not_false, if_true]
  exact wpAny_bind (wpAny_rule (wpAny_pure ⟨_, rfl, q⟩))
theorem no_int (i : Int) (u : Tok) {d : Addr} {es : Array DictEntry} {ep : Nat} : Meets (Builtin.«int.__eq__» ⟨[.int i u, .ref d], []⟩) (fun _ R s => s.heap.get? d = some ⟨.type "dict", none, .dict es ep, #[]⟩ ∧ R (.ok (.ret .notImplemented)) s) :=
  .of_wp fun prog w A R s ⟨hl, h⟩ => by obtain ⟨hp, g, dd, tk, os⟩ := s; wp_walk using wpAny_loadPart' hl, wpAny_load hl; exact ⟨_, rfl, h⟩
theorem no_bool (b : Bool) {d : Addr} {es : Array DictEntry} {ep : Nat} : Meets (Builtin.«int.__eq__» ⟨[.bool b, .ref d], []⟩) (fun _ R s => s.heap.get? d = some ⟨.type "dict", none, .dict es ep, #[]⟩ ∧ R (.ok (.ret .notImplemented)) s) :=
  .of_wp fun prog w A R s ⟨hl, h⟩ => by obtain ⟨hp, g, dd, tk, os⟩ := s; wp_walk using wpAny_loadPart' hl, wpAny_load hl; exact ⟨_, rfl, h⟩
theorem no_str (z : Str) (u : Tok) {d : Addr} {es : Array DictEntry} {ep : Nat} : Meets (Builtin.«str.__eq__» ⟨[.str z u, .ref d], []⟩) (fun _ R s => s.heap.get? d = some ⟨.type "dict", none, .dict es ep, #[]⟩ ∧ R (.ok (.ret .notImplemented)) s) :=
  .of_wp fun prog w A R s ⟨hl, h⟩ => by obtain ⟨hp, g, dd, tk, os⟩ := s; wp_walk using wpAny_loadPart' hl, wpAny_load hl; exact ⟨_, rfl, h⟩
theorem no_list {l : Addr} {d : Addr} {es : Array DictEntry} {ep : Nat} : Meets (Builtin.«list.__eq__» ⟨[.ref l, .ref d], []⟩) (fun _ R s => s.heap.get? d = some ⟨.type "dict", none, .dict es ep, #[]⟩ ∧ R (.ok (.ret .notImplemented)) s) :=
  .of_wp fun prog w A R s ⟨hl, h⟩ => by obtain ⟨hp, g, dd, tk, os⟩ := s; have f1 := PySem.F.sub_dict_list; wp_walk using wpAny_loadPart' hl, wpAny_load hl; exact ⟨_, rfl, h⟩
theorem no_tuple {l : Addr} {d : Addr} {es : Array DictEntry} {ep : Nat} : Meets (Builtin.«tuple.__eq__» ⟨[.ref l, .ref d], []⟩) (fun _ R s => s.heap.get? d = some ⟨.type "dict", none, .dict es ep, #[]⟩ ∧ R (.ok (.ret .notImplemented)) s) :=
  .of_wp fun prog w A R s ⟨hl, h⟩ => by obtain ⟨hp, g, dd, tk, os⟩ := s; have f1 := PySem.F.sub_dict_tuple; wp_walk using wpAny_loadPart' hl, wpAny_load hl; exact ⟨_, rfl, h⟩
/-- no dict, and its == leaves dicts alone -/
structure NoD (s : Shared) (v : Value) (T id : String) : Prop where
  ty : s.TypeIs v T
  n1 : (Value.type T != Value.type "dict") = true
  n2 : (Value.type "dict" != Value.type T) = true
  s1 : isSubtype (.type T) (.type "dict") = pure false
  s2 : isSubtype (.type "dict") (.type T) = pure false
  sl : Slot T (cmpInfo .Eq).2.1 id
  sr : Slot T (cmpInfo .Eq).2.2 id
  is_ : ∀ d, (∃ l, v = .ref l) ∨ (isSame (.ref d) v = pure false ∧ isSame v (.ref d) = pure false)
  no : ∀ (prog : Program) (w : World) (A : Around) (E : Value → Shared → Prop) (Q : Value → Shared → Prop) (d : Addr) (name : Str), Slot T name id → DkO s d → Q .notImplemented s → wpAny (model prog w) A (call (.builtin id) [v, .ref d]) Q E s
theorem noD_non : NoD s .none "NoneType" "NoneType.__eq__" := ⟨rfl, by decide, by decide, PySem.F.sub_NoneType_dict, PySem.F.sub_dict_NoneType, PySem.F.slot_NoneType_eq, PySem.F.slot_NoneType_eq_refl, (fun _ => .inr ⟨rfl, rfl⟩),
  fun prog w A E Q d name sl _ q => call_gives sl rfl PySem.F.entry_NoneType_eq (PySem.F.args_NoneType_eq_2 _ _) (NoneType___eq___none_ref_0 d) q⟩
theorem noD_bool (b : Bool) : NoD s (.bool b) "bool" "int.__eq__" := ⟨rfl, by decide, by decide, PySem.F.sub_bool_dict, PySem.F.sub_dict_bool, PySem.F.slot_bool_eq, PySem.F.slot_bool_eq_refl, (fun _ => .inr ⟨rfl, rfl⟩),
  fun prog w A E Q d name sl ⟨es, ep, e⟩ q => call_meets sl rfl PySem.F.entry_int_eq (PySem.F.args_int_eq_2 _ _) (no_bool b) ⟨e, q⟩⟩
theorem noD_int (i : Int) (u : Tok) : NoD s (.int i u) "int" "int.__eq__" := ⟨rfl, by decide, by decide, PySem.F.sub_int_dict, PySem.F.sub_dict_int, PySem.F.slot_int_eq, PySem.F.slot_int_eq_refl, (fun _ => .inr ⟨rfl, rfl⟩),
  fun prog w A E Q d name sl ⟨es, ep, e⟩ q => call_meets sl rfl PySem.F.entry_int_eq (PySem.F.args_int_eq_2 _ _) (no_int i u) ⟨e, q⟩⟩
theorem noD_str (z : Str) (u : Tok) : NoD s (.str z u) "str" "str.__eq__" := ⟨rfl, by decide, by decide, PySem.F.sub_str_dict, PySem.F.sub_dict_str, PySem.F.slot_str_eq, PySem.F.slot_str_eq_refl, (fun _ => .inr ⟨rfl, rfl⟩),
  fun prog w A E Q d name sl ⟨es, ep, e⟩ q => call_meets sl rfl PySem.F.entry_str_eq (PySem.F.args_str_eq_2 _ _) (no_str z u) ⟨e, q⟩⟩
theorem noD_list {l : Addr} (h : s.TypeIs (.ref l) "list") : NoD s (.ref l) "list" "list.__eq__" := ⟨h, by decide, by decide, PySem.F.sub_list_dict, PySem.F.sub_dict_list, PySem.F.slot_list_eq, PySem.F.slot_list_eq_refl, (fun _ => .inl ⟨_, rfl⟩),
  fun prog w A E Q d name sl ⟨es, ep, e⟩ q => call_meets sl h PySem.F.entry_list_eq (PySem.F.args_list_eq_2 _ _) no_list ⟨e, q⟩⟩
theorem noD_tuple {l : Addr} (h : s.TypeIs (.ref l) "tuple") : NoD s (.ref l) "tuple" "tuple.__eq__" := ⟨h, by decide, by decide, PySem.F.sub_tuple_dict, PySem.F.sub_dict_tuple, PySem.F.slot_tuple_eq, PySem.F.slot_tuple_eq_refl, (fun _ => .inl ⟨_, rfl⟩),
  fun prog w A E Q d name sl ⟨es, ep, e⟩ q => call_meets sl h PySem.F.entry_tuple_eq (PySem.F.args_tuple_eq_2 _ _) no_tuple ⟨e, q⟩⟩
/-- no thing of another kind is the dict itself -/
theorem notD {v : Value} {T id : String} {d : Addr} {R : Bool → Shared → Prop} (h : NoD s v T id) (hd : DkO s d) (r : R false s) : wpAny (model prog w) A (isSame (.ref d) v) R E s ∧ wpAny (model prog w) A (isSame v (.ref d)) R E s := by
  obtain ⟨es, ep, e⟩ := hd
  rcases h.is_ d with ⟨l, rfl⟩ | ⟨i1, i2⟩
  · obtain ⟨o, ho, hc⟩ := h.ty
    have ne : d ≠ l := fun z => by
      subst z
      rw [e] at ho
      cases ho
      have := h.n1
      rw [← hc] at this
      simp at this
    constructor
    · show wpAny _ A (if (d == l) = true then pure true else _) R E s
      rw [if_neg (by simpa using ne)]
      refine wpAny_bind (wpAny_load e (wpAny_bind (wpAny_load ho ?_)))
      split
      · rename_i h1 _ _ _; injection h1 with z; exact absurd z (by decide)
      · exact wpAny_pure r
    · show wpAny _ A (if (l == d) = true then pure true else _) R E s
      rw [if_neg (by simpa using ne.symm)]
      refine wpAny_bind (wpAny_load ho (wpAny_bind (wpAny_load e ?_)))
      split
      · rename_i _ h1 _ _; injection h1 with z; exact absurd z (by decide)
      · exact wpAny_pure r
  · exact ⟨wpAny_of_eq i1 r, wpAny_of_eq i2 r⟩
theorem rcD1 {v : Value} {T id : String} {d : Addr} (h : NoD s v T id) (hd : DkO s d) (hu : A.units < cLine) : RcAt A s (.ref d) v false := fun prog w E Q q =>
  rc_eq_decline_or (k := false) hd.ty h.ty h.n2 h.s1 PySem.F.slot_dict_eq h.sr (fun _ z => dict_no hd.ty h.ty h.s1 z PySem.F.slot_dict_eq) (fun _ z => h.no prog w A E _ d _ h.sr hd z) (fun _ z => (notD h hd z).1) (.inr hu) q
theorem rcD2 {v : Value} {T id : String} {d : Addr} (h : NoD s v T id) (hd : DkO s d) (hu : A.units < cLine) : RcAt A s v (.ref d) false := fun prog w E Q q =>
  rc_eq_decline_or (k := false) h.ty hd.ty h.n1 h.s2 h.sl PySem.F.slot_dict_eq_refl (fun _ z => h.no prog w A E _ d _ h.sl hd z) (fun _ z => dict_no hd.ty h.ty h.s1 z PySem.F.slot_dict_eq_refl) (fun _ z => (notD h hd z).2) (.inr hu) q
theorem neD {v : Value} {T id : String} {d : Addr} (h : NoD s v T id) (hd : DkO s d) : v ≠ .ref d := fun z => by
  subst z
  obtain ⟨o, ho, hc⟩ := h.ty
  obtain ⟨es, ep, e⟩ := hd
  rw [e] at ho
  cases ho
  have := h.n1
  rw [← hc] at this
  simp at this
theorem eqD1 {v : Value} {T id : String} {d : Addr} (h : NoD s v T id) (hd : DkO s d) (hu : A.units < cLine) : EqAt A s (.ref d) v false := fun prog w E Q q => by
  unfold eqBool
  refine wpAny_holding (wpAny_ite_split (fun hab => absurd (eq_of_beq hab).symm (neD h hd)) fun _ => ?_)
  exact wpAny_bind (rcD1 h hd hu prog w E _ (wpAny_truthy_bool q))
theorem eqD2 {v : Value} {T id : String} {d : Addr} (h : NoD s v T id) (hd : DkO s d) (hu : A.units < cLine) : EqAt A s v (.ref d) false := fun prog w E Q q => by
  unfold eqBool
  refine wpAny_holding (wpAny_ite_split (fun hab => absurd (eq_of_beq hab) (neD h hd)) fun _ => ?_)
  cases v <;> exact wpAny_bind (rcD2 h hd hu prog w E _ (wpAny_truthy_bool q))
end
end S
namespace S
open PySem PySem.Spec PyProof.Rows L2
/-! ### plain data, or the empty dict -/
inductive Mx (K : Frag) (H : Hp) : V → PyData → Prop where
  | dat {x : V} {d : PyData} (h : Dp K H x d) (p : d.plain = true) (l : d.depth ≤ 20) : Mx K H x d
  | dk {a : Addr} (h : H a = some (.dK [])) : Mx K H (.ref a) (.dict [])
def mixEq : PyData → PyData → Bool
  | .dict _, .dict _ => true
  | .dict _, _ => false
  | _, .dict _ => false
  | d, e => PyData.eqv d e
section
variable {X : Cx} {K : Frag} {pins : List (Addr × Obj)} {σ : L2.St} {H : Hp} {s : Shared} {a b : Addr} {x y : V} {d e : PyData}
theorem dkO_of {ks : List (Key × V)} (I : Inv X pins σ H s) (h : H a = some (.dK ks)) : DkO s a := by
  obtain ⟨_, _, va, _, o, es, ep, e1, ⟨e2, e3, e4⟩, e5, _⟩ := (show ObjOk X.prog X.w H s.heap a (.dK ks) from I.hok a _ h)
  obtain ⟨c, dd, dt, sl⟩ := o
  simp only at e2 e3 e4 e5
  subst e2 e3 e4 e5
  exact ⟨es, ep, e1⟩
theorem dk0_any (I : Inv X pins σ H s) (h : H a = some (.dK [])) (P : Program) (w : World) : s.heap.DictOf (mixKind P w) a ([] : List (Key × Value)) ∧ (a == sysModules) = false := by
  obtain ⟨_, ya, va, ra, o, es, ep, e1, e2, e3, e4, e5, e6⟩ := (show ObjOk X.prog X.w H s.heap a (.dK []) from I.hok a _ h)
  have hv : va = [] := by
    have := ra.length
    exact List.length_eq_zero_iff.mp this.symm
  subst hv
  generalize hl : es.toList = l at e5
  cases e5
  refine ⟨⟨o, es, ep, e1, e2, e3, fun q hq => ?_, by rw [hl]; exact .nil, List.nodup_nil⟩, ya⟩
  have : q ∈ es.toList := by simpa using hq
  rw [hl] at this
  cases this
theorem noD_of (I : Inv X pins σ H s) (h : Dp X.K H x d) {v : Value} (r : RelV x v) : ∃ T id, NoD s v T id := by
  cases h with
  | non => cases r; exact ⟨_, _, noD_non⟩
  | bl b => cases r; exact ⟨_, _, noD_bool b⟩
  | int i => obtain ⟨t, rfl⟩ := r; exact ⟨_, _, noD_int i t⟩
  | str z => obtain ⟨t, rfl⟩ := r; exact ⟨_, _, noD_str z t⟩
  | lst hl _ =>
    cases r
    obtain ⟨its, _, pl, _⟩ := I.list hl
    obtain ⟨o, e1, e2, _⟩ := pl.isList
    exact ⟨_, _, noD_list ⟨o, e1, e2⟩⟩
  | tup hl _ =>
    cases r
    obtain ⟨its, _, pl, _⟩ := I.tuple hl
    obtain ⟨o, e1, e2, _⟩ := pl
    exact ⟨_, _, noD_tuple ⟨o, e1, e2⟩⟩
theorem mix_plain (hd : d.plain = true) (he : e.plain = true) : mixEq d e = PyData.eqv d e := by
  cases d <;> cases e <;> first | rfl | cases hd | cases he
theorem mix_dL (he : e.plain = true) : mixEq (.dict []) e = false := by
  cases e <;> first | rfl | cases he
theorem mix_dR (he : d.plain = true) : mixEq d (.dict []) = false := by
  cases d <;> first | rfl | cases he
theorem Mx.eq (hx : Mx K H x d) (hy : Mx K H y e) : EqOk K H 30 x y (mixEq d e) := by
  cases hx with
  | dat h1 p1 l1 =>
    cases hy with
    | dat h2 p2 l2 =>
      rw [mix_plain p1 p2]
      exact (eg_dat h1 h2 p1 p2).at_.up (by omega)
    | dk h2 =>
      rw [mix_dR p1]
      intro X pins σ s A v u k I hu rv ru
      subst k
      cases ru
      obtain ⟨T, id, n⟩ := noD_of I h1 rv
      exact eqD2 n (dkO_of I h2) (by omega)
  | dk h1 =>
    cases hy with
    | dat h2 p2 l2 =>
      rw [mix_dL p2]
      intro X pins σ s A v u k I hu rv ru
      subst k
      cases rv
      obtain ⟨T, id, n⟩ := noD_of I h2 ru
      exact eqD1 n (dkO_of I h1) (by omega)
    | dk h2 =>
      rename_i a b
      intro X pins σ s A v u k I hu rv ru
      subst k
      cases rv
      cases ru
      show SeqAt.EqAt A s _ _ true
      by_cases e0 : a = b
      · subst e0
        exact SeqAt.EqAt.same _
      · refine SeqAt.EqAt.of_refs e0 fun prog w E Q q => ?_
        obtain ⟨d1, y1⟩ := dk0_any I h1 prog w
        obtain ⟨d2, y2⟩ := dk0_any I h2 prog w
        exact PySem.W.keq_eq (knd := mixKind prog w) (r := true) y1 y2 d1 d2 (by omega) (fun _ => .nil) q
theorem dp_same {H' : Hp} (s : Same H H') : ∀ {x : V} {d : PyData}, Dp K H x d → Dp K H' x d := by
  intro x d h
  refine Dp.rec (motive_1 := fun x d _ => Dp K H' x d) (motive_2 := fun xs ds _ => DpAll K H' xs ds) ?_ ?_ ?_ ?_ ?_ ?_ ?_ ?_ h
  · exact .non
  · exact fun b => .bl b
  · exact fun i => .int i
  · exact fun z => .str z
  · exact fun h _ ih => .lst (sqL_same h s) ih
  · exact fun h _ ih => .tup (sqT_same h s) ih
  · exact .nil
  · exact fun _ _ a b => .cons a b
theorem Mx.same {H' : Hp} (h : Mx K H x d) (s : Same H H') : Mx K H' x d := by
  cases h with
  | dat h p l => exact .dat (dp_same s h) p l
  | dk h => exact .dk (s _ _ h)
open Classical in
/-- the data that stands there -/
noncomputable def rdM (K : Frag) (H : Hp) (x : V) : PyData := if h : ∃ d, Mx K H x d then h.choose else .none
theorem rdM_of (h : ∃ d, Mx K H x d) : Mx K H x (rdM K H x) := by
  unfold rdM
  rw [dif_pos h]
  exact h.choose_spec
end
end S
namespace S
open PySem PySem.Spec PyProof.Rows L2
/-! ### [f(x) for x in xs if c(x)] over what stands -/
section
variable {J : It} {xs : List V} {H0 : Hp} {D : Addr} {tt : TT} {te : TE} {vs : List Nat} {σ : L2.St} {Qd : Hp → Prop} {i : Nat}
theorem lc_fm (wk : Walk J xs.length (fun H => Same H0 H) (YAt xs)) (c : V → Bool) (f : V → V) (hD : H0 D = none) (ln : xs.length ≤ 1000) (w0 : ∀ x, wipe ((wipe σ vs).set i (some x)) vs = wipe σ vs)
    (tst : ∀ (x : V) (H : Hp) (B : Bool → Hp → Prop), x ∈ xs → Same H0 H → (∀ H', Same H H' → B (c x) H') → tt ((wipe σ vs).set i (some x)) H B)
    (el : ∀ (x : V) (H : Hp) (Z : V → Hp → Prop), x ∈ xs → Same H0 H → (∀ H', Same H H' → Z (f x) H') → te ((wipe σ vs).set i (some x)) H Z)
    (q : ∀ H, Same H0 H → H D = some (.lst ((xs.filter c).map f)) → Qd H) :
    ∃ W : Nat → Nat → Hp → Prop, (∃ m, W 0 m (upd H0 D (.lst []))) ∧ ∀ k m H, W k m H →
      (J.stop k H ∧ Qd H) ∨ (J.go k H ∧ ∃ Nx : Hp → Prop, (∀ H', Nx H' → ∃ m', m' < m ∧ W (k + 1) m' H') ∧ ∀ x H', J.yld k H x H' → gName i x (wipe σ vs) H' fun σ2 H2 => wipe σ2 vs = wipe σ vs ∧ tt σ2 H2 fun b H3 =>
        if b = true then te σ2 H3 fun y H4 => ∃ acc, H4 D = some (.lst acc) ∧ acc.length < sizeLine ∧ Nx (upd H4 D (.lst (acc ++ [y]))) else Nx H3) := by
  refine lc_seq wk (fun k J => Same H0 J ∧ J D = some (.lst (((xs.take k).filter c).map f))) ⟨Same.new hD, upd_same⟩ (fun k J _ h => h.1) ?_ ?_
  · rintro k x J hx ⟨sJ, eD⟩
    have mx := List.mem_of_getElem? hx
    refine ⟨w0 x, tst x J _ mx sJ fun J2 s2 => ?_⟩
    have et : xs.take (k + 1) = xs.take k ++ [x] := by rw [List.take_add_one, hx]; rfl
    cases e : c x with
    | true =>
      refine iteT (el x J2 _ mx (sJ.trans s2) fun J3 s3 => ⟨_, (s2.trans s3) _ _ eD, ?_, Same.upd ((sJ.trans s2).trans s3) hD, ?_⟩)
      · rw [List.length_map]
        have h1 := List.length_filter_le c (xs.take k)
        rw [List.length_take] at h1
        exact Nat.lt_of_le_of_lt (show ((xs.take k).filter c).length ≤ 1000 by omega) (by decide)
      · rw [upd_same, et, List.filter_append, List.map_append]
        simp [e]
    | false =>
      refine iteF ⟨sJ.trans s2, ?_⟩
      rw [et, List.filter_append, List.map_append]
      simp [e]
      simpa using s2 _ _ eD
  · rintro J ⟨sJ, eD⟩
    rw [List.take_length] at eD
    exact q J sJ eD
theorem lc_map (wk : Walk J xs.length (fun H => Same H0 H) (YAt xs)) (f : V → V) (hD : H0 D = none) (ln : xs.length ≤ 1000) (w0 : ∀ x, wipe ((wipe σ vs).set i (some x)) vs = wipe σ vs)
    (el : ∀ (x : V) (H : Hp) (Z : V → Hp → Prop), x ∈ xs → Same H0 H → (∀ H', Same H H' → Z (f x) H') → te ((wipe σ vs).set i (some x)) H Z)
    (q : ∀ H, Same H0 H → H D = some (.lst (xs.map f)) → Qd H) :
    ∃ W : Nat → Nat → Hp → Prop, (∃ m, W 0 m (upd H0 D (.lst []))) ∧ ∀ k m H, W k m H →
      (J.stop k H ∧ Qd H) ∨ (J.go k H ∧ ∃ Nx : Hp → Prop, (∀ H', Nx H' → ∃ m', m' < m ∧ W (k + 1) m' H') ∧ ∀ x H', J.yld k H x H' → gName i x (wipe σ vs) H' fun σ2 H2 => wipe σ2 vs = wipe σ vs ∧ tYes σ2 H2 fun b H3 =>
        if b = true then te σ2 H3 fun y H4 => ∃ acc, H4 D = some (.lst acc) ∧ acc.length < sizeLine ∧ Nx (upd H4 D (.lst (acc ++ [y]))) else Nx H3) :=
  lc_fm wk (fun _ => true) f hD ln w0 (fun _ _ _ _ _ b => yesT (b _ fun _ _ z => z)) el fun H s e => q H s (by rw [List.filter_eq_self.mpr (fun _ _ => rfl)] at e; exact e)
/-- the same from rows of data: the values are a ↦ v a -/
theorem lc_mapA {α : Type} {as : List α} {v : α → V} (wk : Walk J (as.map v).length (fun H => Same H0 H) (YAt (as.map v))) (f : α → V) (hf : ∀ a ∈ as, ∀ b ∈ as, v a = v b → f a = f b) (hD : H0 D = none) (ln : as.length ≤ 1000) (w0 : ∀ x, wipe ((wipe σ vs).set i (some x)) vs = wipe σ vs)
    (el : ∀ (a : α) (H : Hp) (Z : V → Hp → Prop), a ∈ as → Same H0 H → (∀ H', Same H H' → Z (f a) H') → te ((wipe σ vs).set i (some (v a))) H Z)
    (q : ∀ H, Same H0 H → H D = some (.lst (as.map f)) → Qd H) :
    ∃ W : Nat → Nat → Hp → Prop, (∃ m, W 0 m (upd H0 D (.lst []))) ∧ ∀ k m H, W k m H →
      (J.stop k H ∧ Qd H) ∨ (J.go k H ∧ ∃ Nx : Hp → Prop, (∀ H', Nx H' → ∃ m', m' < m ∧ W (k + 1) m' H') ∧ ∀ x H', J.yld k H x H' → gName i x (wipe σ vs) H' fun σ2 H2 => wipe σ2 vs = wipe σ vs ∧ tYes σ2 H2 fun b H3 =>
        if b = true then te σ2 H3 fun y H4 => ∃ acc, H4 D = some (.lst acc) ∧ acc.length < sizeLine ∧ Nx (upd H4 D (.lst (acc ++ [y]))) else Nx H3) := by
  classical
  let F : V → V := fun x => if h : ∃ a ∈ as, v a = x then f h.choose else .non
  have hF : ∀ a ∈ as, F (v a) = f a := fun a ha => by
    have h : ∃ b ∈ as, v b = v a := ⟨a, ha, rfl⟩
    show (if h : ∃ b ∈ as, v b = v a then f h.choose else .non) = f a
    rw [dif_pos h]
    exact hf _ h.choose_spec.1 _ ha h.choose_spec.2
  refine lc_map wk F hD (by rw [List.length_map]; exact ln) w0 (fun x H Z hx s z => ?_) fun H s e => q H s ?_
  · obtain ⟨a, ha, rfl⟩ := List.mem_map.mp hx
    rw [hF a ha] at z
    exact el a H Z ha s z
  · rw [List.map_map] at e
    rw [e]
    congr 2
    exact List.map_congr_left fun a ha => hF a ha
end
/-- two tuples of like items -/
theorem tup_ne {K : Frag} {H : Hp} {n : Nat} {o t : Addr} {xs : List V} (h1 : H o = some (.tup xs)) (h2 : H t = some (.tup xs)) (hx : ∀ z ∈ xs, EqOk K H n z z true) : EqG K H (n + 1) (.ref o) (.ref t) true :=
  (eg_tup (e := fun _ => true) (.inl (.inl h1)) (.inl (.inl h2)) (fun i p q hp hq => by rw [hp] at hq; cases hq; exact hx p (List.mem_of_getElem? hp)) (fun _ => by simp [pairs])).to (by simp [pairs])
theorem mix_refl {K : Frag} {H : Hp} {x : V} {d : PyData} (h : Mx K H x d) : mixEq d d = true := by
  cases h with
  | dat h p l => rw [mix_plain p p]; exact SeqAt.eqv_refl_plain d p
  | dk h => rfl
end S
namespace S
open PySem PySem.Spec PyProof.Rows L2
def Sp6 (f : V → V → V → V → V → V → Hp → VK → XK → Prop) : Sp := fun vs H Q E => ∃ x y z u v w, vs = [x, y, z, u, v, w] ∧ f x y z u v w H Q E
theorem splen6 {vs : List V} {H : Hp} {Q : VK} {E : XK} {f} (h : Sp6 f vs H Q E) : vs.length = 6 := by obtain ⟨_, _, _, _, _, _, rfl, _⟩ := h; rfl
/-! ### x < y of like data -/
def rLtD (K : Frag) : R2 := fun x y H Q => ∃ d e, Dp K H x d ∧ Dp K H y e ∧ PySem.W.alike d e = true ∧ d ≠ .none ∧ d.depth ≤ 20 ∧ Q (.bl (PySem.W.dataLt d e)) H
theorem ltDK {X : Cx} {K : Frag} (hK : X.K = K) (hu : X.A.units + 64 < cLine) : OpR X (compareOp .Lt) (rLtD K) := by
  intro pins s σ H x y v u Q I rx ry h
  subst hK
  obtain ⟨d, e, hd, he, al, nn, dp, q⟩ := h
  obtain ⟨as, r1⟩ := Dp.reads I d x v hd rx
  obtain ⟨bs, r2⟩ := Dp.reads I e y u he ry
  exact PySem.W.rcLt_alike d e X.A s v u as bs r1 r2 al nn (by omega) X.prog X.w _ _ ⟨.bl _, H, I, rfl, q⟩
/-! ### a or b, a and b of bools, as values -/
theorem orQ {c d : Bool} {Q : V → Hp → Prop} {H : Hp} {B : Prop} (q : Q (.bl (c || d)) H) (hB : Q (.bl d) H → B) : if c = true then Q (.bl true) H else B := by
  cases c with
  | true => exact q
  | false => exact hB q
theorem andQ {c d : Bool} {Q : V → Hp → Prop} {H : Hp} {B : Prop} (q : Q (.bl (c && d)) H) (hB : Q (.bl d) H → B) : if c = true then B else Q (.bl false) H := by
  cases c with
  | true => exact hB q
  | false => exact q
/-! ### the sort by steps from the end -/
section
variable {α β : Type}
def ltAt (lt : α → α → Bool) (x : α) (out : List α) (k : Nat) : Bool := match out[k]? with
  | some y => lt x y
  | none => false
/-- x goes down from k past what is above it -/
def posR (lt : α → α → Bool) (x : α) (out : List α) : Nat → Nat
  | 0 => 0
  | k + 1 => if ltAt lt x out k then posR lt x out k else k + 1
def insR (lt : α → α → Bool) (out : List α) (x : α) : List α := out.take (posR lt x out out.length) ++ [x] ++ out.drop (posR lt x out out.length)
def sortR (lt : α → α → Bool) (l : List α) : List α := l.foldl (insR lt) []
theorem posR_le (lt : α → α → Bool) (x : α) (out : List α) : ∀ k, posR lt x out k ≤ k
  | 0 => Nat.le_refl _
  | k + 1 => by
    unfold posR
    split
    · exact Nat.le_succ_of_le (posR_le lt x out k)
    · exact Nat.le_refl _
theorem insR_perm (lt : α → α → Bool) (out : List α) (x : α) : (insR lt out x).Perm (x :: out) := by
  unfold insR
  have h1 : (out.take (posR lt x out out.length) ++ [x] ++ out.drop (posR lt x out out.length)).Perm ([x] ++ out.take (posR lt x out out.length) ++ out.drop (posR lt x out out.length)) := List.Perm.append_right _ List.perm_append_comm
  refine h1.trans ?_
  rw [List.append_assoc, List.take_append_drop]
  exact List.Perm.refl _
theorem foldR_perm (lt : α → α → Bool) : ∀ (l out : List α), (l.foldl (insR lt) out).Perm (l ++ out)
  | [], out => List.Perm.refl _
  | x :: l, out => by
    rw [List.foldl_cons]
    refine (foldR_perm lt l _).trans ?_
    refine (List.Perm.append_left l (insR_perm lt out x)).trans ?_
    exact List.perm_middle
theorem sortR_perm (lt : α → α → Bool) (l : List α) : (sortR lt l).Perm l := by
  have := foldR_perm lt l []
  rwa [List.append_nil] at this
theorem posR_congr {lt lt' : α → α → Bool} {x : α} {out : List α} (h : ∀ y ∈ out, lt x y = lt' x y) : ∀ k, posR lt x out k = posR lt' x out k
  | 0 => rfl
  | k + 1 => by
    unfold posR
    have e : ltAt lt x out k = ltAt lt' x out k := by
      unfold ltAt
      cases hk : out[k]? with
      | none => rfl
      | some y => exact h y (List.mem_of_getElem? hk)
    rw [e, posR_congr h k]
theorem foldR_congr {lt lt' : α → α → Bool} : ∀ {l out : List α}, (∀ x ∈ l, ∀ y ∈ out, lt x y = lt' x y) → l.Pairwise (fun y x => lt x y = lt' x y) → l.foldl (insR lt) out = l.foldl (insR lt') out
  | [], _, _, _ => rfl
  | x :: l, out, h, p => by
    have e : insR lt out x = insR lt' out x := by
      unfold insR
      rw [posR_congr (h x List.mem_cons_self)]
    rw [List.foldl_cons, List.foldl_cons, e]
    have hp := List.pairwise_cons.mp p
    refine foldR_congr (fun z hz y hy => ?_) hp.2
    rcases List.mem_cons.mp ((insR_perm lt' out x).mem_iff.mp hy) with rfl | hy
    · exact hp.1 z hz
    · exact h z (List.mem_cons_of_mem _ hz) y hy
theorem sortR_congr {lt lt' : α → α → Bool} {l : List α} (p : l.Pairwise (fun y x => lt x y = lt' x y)) : sortR lt l = sortR lt' l := foldR_congr (fun _ _ _ h => by cases h) p
theorem posR_map {lt : α → α → Bool} {lt' : β → β → Bool} {f : α → β} (h : ∀ x y, lt x y = lt' (f x) (f y)) (x : α) (out : List α) : ∀ k, posR lt x out k = posR lt' (f x) (out.map f) k
  | 0 => rfl
  | k + 1 => by
    unfold posR
    have e : ltAt lt x out k = ltAt lt' (f x) (out.map f) k := by
      unfold ltAt
      rw [List.getElem?_map]
      cases out[k]? with
      | none => rfl
      | some y => exact h x y
    rw [e, posR_map h x out k]
theorem insR_map {lt : α → α → Bool} {lt' : β → β → Bool} {f : α → β} (h : ∀ x y, lt x y = lt' (f x) (f y)) (x : α) (out : List α) : (insR lt out x).map f = insR lt' (out.map f) (f x) := by
  unfold insR
  rw [List.map_append, List.map_append, List.map_take, List.map_drop, posR_map h, List.length_map]
  rfl
theorem foldR_map {lt : α → α → Bool} {lt' : β → β → Bool} {f : α → β} (h : ∀ x y, lt x y = lt' (f x) (f y)) : ∀ (l out : List α), (l.foldl (insR lt) out).map f = (l.map f).foldl (insR lt') (out.map f)
  | [], _ => rfl
  | x :: l, out => by
    rw [List.foldl_cons, List.map_cons, List.foldl_cons, foldR_map h l, insR_map h]
theorem sortR_map {lt : α → α → Bool} {lt' : β → β → Bool} {f : α → β} (h : ∀ x y, lt x y = lt' (f x) (f y)) (l : List α) : (sortR lt l).map f = sortR lt' (l.map f) := foldR_map h l []
theorem sortR_take {lt : α → α → Bool} {l : List α} {i : Nat} {x : α} (h : l[i]? = some x) : sortR lt (l.take (i + 1)) = insR lt (sortR lt (l.take i)) x := by
  unfold sortR
  rw [List.take_add_one, h, List.foldl_append]
  rfl
end
end S
namespace S
open PySem PySem.Spec PyProof.Rows L2
section
variable {X : Cx} {K : Frag}
theorem ps_fldaugK {o value : Expr} {f : Str} {tpos pos : Pos} {ta tv : TE} {op : Operator} {rd : V → V → Hp → VK → Prop} (hK : X.K = K) (ha : PE X o ta) (hv : PE X value tv) (hop : InOp X op rd) : PS X (.AugAssign (.Attribute o f tpos) op value pos) (sFldAug K ta tv rd f) := hK ▸ ps_fldaug ha hv hop
theorem pi_enumK {e : Expr} {ta : TA} {p pos tpos : Pos} {elts : List Expr} {kk : Nat} (hK : X.K = K) (hg : Gl X "enumerate") (hm : X.mg "enumerate" = none) (ha : PA X [e] ta) (hs : starEach [e] X.env = [(false, eval e X.env)] := by rfl) :
    PI X (.Tuple elts kk tpos) (.Call (.Name "enumerate" p) [e] [] pos) (iEnum K ta) := hK ▸ pi_enum hg hm ha hs
end
end S
namespace S
open PySem PySem.Spec PyProof.Rows L2
/-! list(d.values()) -/
def rListVals : V → Hp → VK → Prop := fun x H Q => ∃ (d : Addr) (kvs : List (Key × V)), x = .ref d ∧ H d = some (.dK kvs) ∧ ∀ p, H p = none → Q (.ref p) (upd H p (.lst (kvs.map Prod.snd)))
theorem LiIx.paired_get {α β : Type} {F : α → β → Prop} : ∀ {xs : List α} {ys : List β}, Paired F xs ys → ∀ {i : Nat} {x : α}, xs[i]? = some x → ∃ y, ys[i]? = some y ∧ F x y
  | _, _, .nil, i, x, h => by cases h
  | _, _, .cons r t, 0, x, h => by
    have e := Option.some.inj h
    subst e
    exact ⟨_, rfl, r⟩
  | _, _, .cons r t, i + 1, x, h => LiIx.paired_get t h
def tListVals (te : TE) : TE := fun σ H Q => te σ H fun x H1 => rListVals x H1 Q
theorem pe_listVals {X : Cx} {e : Expr} {te : TE} {p apos cpos pos : Pos} (hc : X.calm = true) (hg : Gl X "list") (hm : X.mg "list" = none) (he : PE X e te) (hbase : attributeBase e "values" X.env (eval e X.env) = eval e X.env := by rfl) (hline : (apos.endLine == cpos.line) = true := by rfl)
    (hs : starEach [.Call (.Attribute e "values" apos) [] [] cpos] X.env = (false, eval (.Call (.Attribute e "values" apos) [] [] cpos) X.env) :: starEach [] X.env := by rfl) :
    PE X (.Call (.Name "list" p) [.Call (.Attribute e "values" apos) [] [] cpos] [] pos) (tListVals te) := by
  refine ⟨fun pins s σ H Q I hq => ?_⟩
  refine wpAny_Call_Name_kw (ld_blt I hg hm boot_list ?_)
  refine PyProof.Rows.callWith_type1 ?_ hs rfl
  rw [hs]
  show wpAny _ _ (spliced ((false, eval (.Call (.Attribute e "values" apos) [] [] cpos) X.env) :: backTo pos (starEach [] X.env))) _ _ s
  refine Calls.spliced_cons ?_
  refine wpAny_Call_method (T := "dict") (id := "dict.values") hbase rfl hline F.plainAttrs_dict F.slot_dict_values F.type_dict_values (thn (he.run pins s σ H _ I hq) fun u s1 ⟨x, H1, I1, rx, d, kvs, ex, hd, q⟩ => ?_)
  subst ex
  obtain rfl : u = Value.ref d := rx
  obtain ⟨hz, hs0, vs, kv, hdo⟩ := I1.hok d _ hd
  obtain ⟨ep, hat⟩ := hdo.dictAt
  have lk : kvs.length = vs.length := Paired.length kv
  have I2 : Inv X pins σ H1 { s1 with heap := s1.heap.push { cls := .type "dict_values", data := .fields #[.ref d] } } := I1.kept (t' := s1.toks) fun b ob q => Heap.get?_push_of_some _ q
  refine ⟨hdo.typeIs, hdo.mapOf.noDict, ?_⟩
  show wpAny _ _ (callWith cpos (.builtin "dict.values") [.ref d] [] []) _ X.xe s1
  refine method_meetsIn F.slot_dict_values F.entry_dict_values rfl (PySem.evalArgs_none ⟨rfl, hdo.typeIs, F.args_dict_values_1 _, _, meets_dict_values (mixKind X.prog X.w) d hs0, ⟨vs, hdo⟩, ?_⟩)
  refine Calls.spliced_nil ?_
  refine PySem.W.kdl_call (PySem.W.kdl_values (knd := mixKind X.prog X.w) (kvs := vs) (ep := ep)) (I1.ok.hd hc) ⟨⟨_, Heap.get?_push_size _ rfl, rfl, rfl⟩, hat.push _⟩ (by rw [← lk]; exact hz) fun h' tk acc' c' hkeep hS hacc => ?_
  refine ⟨.ref _, upd H1 _ (.lst (kvs.map Prod.snd)), I2.laid hkeep (Nat.le_refl _) (show ObjOk X.prog X.w _ _ _ (.lst (kvs.map Prod.snd)) from ⟨?_, acc'.toList, c', ?_, ?_⟩), rfl, q _ (I2.hok.fresh (Nat.le_refl _))⟩
  · rw [List.length_map]; exact hz
  · have el : acc'.toList.length = acc'.size := by simp
    refine vals_of_at (by rw [List.length_map, el, hacc.1, lk]) fun j x w h1 h2 => ?_
    obtain ⟨k, hky⟩ := hacc.2 j w (by rw [← Array.getElem?_toList]; exact h2)
    rw [List.getElem?_map] at h1
    obtain ⟨pk, hpk, rfl⟩ := Option.map_eq_some_iff.mp h1
    obtain ⟨qv, g1, g2, g3⟩ := LiIx.paired_get kv hpk
    rw [hky] at g1
    cases g1
    exact g3
  · rw [Array.toArray_toList]; exact hS
/-! [f a for x in xs if c a], from rows of data -/
section
variable {J : It} {H0 : Hp} {D : Addr} {tt : TT} {te : TE} {vs : List Nat} {σ : L2.St} {Qd : Hp → Prop} {i : Nat}
theorem lc_fmA {α : Type} {as : List α} {v : α → V} (wk : Walk J (as.map v).length (fun H => Same H0 H) (YAt (as.map v))) (c : α → Bool) (f : α → V) (hf : ∀ a ∈ as, ∀ b ∈ as, v a = v b → c a = c b ∧ f a = f b) (hD : H0 D = none) (ln : as.length ≤ 1000) (w0 : ∀ x, wipe ((wipe σ vs).set i (some x)) vs = wipe σ vs)
    (tst : ∀ (a : α) (H : Hp) (B : Bool → Hp → Prop), a ∈ as → Same H0 H → (∀ H', Same H H' → B (c a) H') → tt ((wipe σ vs).set i (some (v a))) H B)
    (el : ∀ (a : α) (H : Hp) (Z : V → Hp → Prop), a ∈ as → Same H0 H → (∀ H', Same H H' → Z (f a) H') → te ((wipe σ vs).set i (some (v a))) H Z)
    (q : ∀ H, Same H0 H → H D = some (.lst ((as.filter c).map f)) → Qd H) :
    ∃ W : Nat → Nat → Hp → Prop, (∃ m, W 0 m (upd H0 D (.lst []))) ∧ ∀ k m H, W k m H →
      (J.stop k H ∧ Qd H) ∨ (J.go k H ∧ ∃ Nx : Hp → Prop, (∀ H', Nx H' → ∃ m', m' < m ∧ W (k + 1) m' H') ∧ ∀ x H', J.yld k H x H' → gName i x (wipe σ vs) H' fun σ2 H2 => wipe σ2 vs = wipe σ vs ∧ tt σ2 H2 fun b H3 =>
        if b = true then te σ2 H3 fun y H4 => ∃ acc, H4 D = some (.lst acc) ∧ acc.length < sizeLine ∧ Nx (upd H4 D (.lst (acc ++ [y]))) else Nx H3) := by
  classical
  let F : V → V := fun x => if h : ∃ a ∈ as, v a = x then f h.choose else .non
  let C : V → Bool := fun x => if h : ∃ a ∈ as, v a = x then c h.choose else false
  have hF : ∀ a ∈ as, F (v a) = f a := fun a ha => by
    have h : ∃ b ∈ as, v b = v a := ⟨a, ha, rfl⟩
    show (if h : ∃ b ∈ as, v b = v a then f h.choose else .non) = f a
    rw [dif_pos h]
    exact (hf _ h.choose_spec.1 _ ha h.choose_spec.2).2
  have hC : ∀ a ∈ as, C (v a) = c a := fun a ha => by
    have h : ∃ b ∈ as, v b = v a := ⟨a, ha, rfl⟩
    show (if h : ∃ b ∈ as, v b = v a then c h.choose else false) = c a
    rw [dif_pos h]
    exact (hf _ h.choose_spec.1 _ ha h.choose_spec.2).1
  refine lc_fm wk C F hD (by rw [List.length_map]; exact ln) w0 (fun x H Z hx s z => ?_) (fun x H Z hx s z => ?_) fun H s e => q H s ?_
  · obtain ⟨a, ha, rfl⟩ := List.mem_map.mp hx
    rw [hC a ha] at z
    exact tst a H Z ha s z
  · obtain ⟨a, ha, rfl⟩ := List.mem_map.mp hx
    rw [hF a ha] at z
    exact el a H Z ha s z
  · rw [e, List.filter_map, List.map_map]
    congr 2
    have e1 : as.filter (C ∘ v) = as.filter c := List.filter_congr fun a ha => hC a ha
    rw [e1]
    exact List.map_congr_left fun a ha => hF a ((List.mem_filter.mp ha).1)
end
end S
namespace S
open PySem PySem.Spec PyProof.Rows L2
/-! ### enumerate over a list or a tuple that stands -/
section
open PySem.Calls
set_option maxHeartbeats 1000000 in
theorem meets_enum1 {v : Value} {o : Obj} {H : Heap → Prop} (B : Begins v o H) :
    Meets (Builtin.«enumerate.__new__» ⟨[.type "enumerate", v], []⟩) (fun _ R s => H s.heap ∧
      R (.ok (.ret (.ref (s.heap.push o).objs.size))) { s with heap := (s.heap.push o).push { cls := .type "enumerate", data := .fields #[.none, .bool false, .ref s.heap.objs.size, rawInt 0, .none, .none] } }) :=
  .of_wp fun prog w A R s h => by
    obtain ⟨hp, g, d, tk, os⟩ := s; obtain ⟨h1, h⟩ := h
    have hsub := sub_enumerate
    have q1 : ∀ {A' : Around} {E : Value → Shared → Prop} {Q : Value → Shared → Prop}, Q (.ref hp.objs.size) ⟨hp.push o, g, d, tk, os⟩ → wpAny (model prog w) A' (pyIter v) Q E ⟨hp, g, d, tk, os⟩ :=
      fun q => B.iter prog w _ _ ⟨hp, g, d, tk, os⟩ _ h1 q
    wp_walk using q1
    refine wpAny_stack_any fun st => wpAny_pure ?_
    split
    · rename_i c _ _ _ _ _
      cases (c == Value.type "enumerate")
      · wp_walk using q1
        exact ⟨_, rfl, h⟩
      · wp_walk using q1
        exact ⟨_, rfl, h⟩
    · wp_walk using q1
      exact ⟨_, rfl, h⟩
theorem enum_begins1 {prog : Program} {w : World} {A : Around} {E : Value → Shared → Prop} {s : Shared} {v : Value} {o : Obj} {H : Heap → Prop} {Q : Value → Shared → Prop} (B : Begins v o H) (h1 : H s.heap)
    (h : ∀ h', IsEnum h' (s.heap.objs.size + 1) s.heap.objs.size 0 .none → h'.get? s.heap.objs.size = some o → h'.objs.size = s.heap.objs.size + 2 →
      (∀ b o, s.heap.get? b = some o → h'.get? b = some o) → Q (.ref (s.heap.objs.size + 1)) { s with heap := h' }) :
    wpAny (model prog w) A (call (.type "enumerate") [v]) Q E s := by
  refine callType_new F.called_enumerate (by decide) (F.typeCall_enumerate_1 _) (F.newCall_enumerate_1 _) (fun obj => F.args_object_init_2 obj _) F.entry_enumerate_new (meets_enum1 B) ⟨h1, ?_⟩
  have hz : (s.heap.push o).objs.size = s.heap.objs.size + 1 := Heap.size_push ..
  show _ ∧ _
  rw [hz]
  have he : IsEnum ((s.heap.push o).push { cls := .type "enumerate", data := .fields #[.none, .bool false, .ref s.heap.objs.size, rawInt 0, .none, .none] }) (s.heap.objs.size + 1) s.heap.objs.size 0 .none := by
    have := Heap.get?_push_size (s.heap.push o) (o := { cls := .type "enumerate", data := .fields #[.none, .bool false, .ref s.heap.objs.size, rawInt 0, .none, .none] }) rfl
    rw [hz] at this; exact this
  exact ⟨⟨_, he, rfl⟩, h _ he (Heap.get?_push_of_some _ (Heap.get?_push_size _ B.free)) (by rw [Heap.size_push, hz]) fun b o x => Heap.get?_push_of_some _ (Heap.get?_push_of_some _ x)⟩
end
section
variable {K : Frag}
/-- a list (false) or a tuple (true) -/
def SqB (K : Frag) (b : Bool) (H : Hp) (a : Addr) (xs : List V) : Prop := if b then SqT K H a xs else SqL K H a xs
/-- the items as they stand at each turn, each in a new pair with its number from c on -/
def IteC (K : Frag) (b : Bool) (a : Addr) (c : Int) : It :=
  ⟨fun i H => ∃ (xs : List V) (x : V), SqB K b H a xs ∧ xs[i]? = some x, fun i H v H' => ∃ T x, v = .ref T ∧ H T = none ∧ H' = upd H T (.tup [.int (c + (i : Nat)), x]) ∧ ∀ xs, SqB K b H a xs → xs[i]? = some x, fun i H => ∃ xs : List V, SqB K b H a xs ∧ xs.length = i⟩
def srcAt (b : Bool) (it a : Addr) (i : Nat) (h : Heap) : Prop := if b then h.IsTupleIter it a i else h.IsListIter it a i
def srcOf (b : Bool) (a : Addr) (items : Array Value) (h : Heap) : Prop := if b then h.IsTuple a items else h.IsList a items
theorem src_draws {prog : Program} {w : World} {A : Around} (b : Bool) (hh : A.handled = none) (it a : Addr) (hne : a ≠ it) (items : Array Value) :
    Draws prog w A it [it, a] items.size (fun i v => items[i]? = some v) (fun i h => srcAt b it a i h ∧ srcOf b a items h) := by
  cases b with
  | true => exact Draws.tuple hh it a hne items
  | false => exact Draws.list hh it a hne items
theorem src_inv {X : Cx} {pins : List (Addr × Obj)} {σ : L2.St} {H : Hp} {s : Shared} {b : Bool} {a : Addr} {xs : List V} (I : Inv X pins σ H s) (h : SqB X.K b H a xs) : ∃ its, Vals xs its ∧ srcOf b a its.toArray s.heap := by
  cases b with
  | true =>
    obtain ⟨its, rv, p, hz⟩ := I.tuple h
    exact ⟨its, rv, p⟩
  | false =>
    obtain ⟨its, rv, p, hz⟩ := I.list h
    exact ⟨its, rv, p.isList⟩
theorem srcAt.at {b : Bool} {it a : Addr} {i : Nat} {h h' : Heap} (x : srcAt b it a i h) (k : ∀ o, h.get? it = some o → h'.get? it = some o) : srcAt b it a i h' := by
  cases b with
  | true => exact Heap.IsTupleIter.at x k
  | false => exact Heap.IsListIter.at x k
theorem srcAt.obj {b : Bool} {it a : Addr} {i : Nat} {h : Heap} (x : srcAt b it a i h) : ∃ o, h.get? it = some o ∧ ∀ v, o.data ≠ .cell v := by
  cases b with
  | true =>
    obtain ⟨o, ho, hc, hd⟩ := x
    exact ⟨o, ho, fun v q => by rw [hd] at q; cases q⟩
  | false =>
    obtain ⟨o, ho, hc, hd⟩ := x
    exact ⟨o, ho, fun v q => by rw [hd] at q; cases q⟩
theorem sqB_inj {X : Cx} {pins : List (Addr × Obj)} {σ : L2.St} {H : Hp} {s : Shared} {b : Bool} {a : Addr} {xs ys : List V} (I : Inv X pins σ H s) (h : SqB X.K b H a xs) (h' : SqB X.K b H a ys) : xs = ys := by
  cases b with
  | true => exact I.tuple_inj h h'
  | false => exact I.list_inj h h'
theorem turn_enumC {P : Program} {w : World} {elts : List Expr} {kk : Nat} {tpos : Pos} (b : Bool) (a e it : Addr) (c : Int) :
    Turn P w K (.Tuple elts kk tpos) (IteC K b a c) [e, it] e (fun i h => (∃ old, IsEnum h e it (c + (i : Nat)) old) ∧ srcAt b it a i h ∧ e ≠ it ∧ a ≠ it ∧ e ≠ a) where
  mem := by simp
  obj := fun i h st b' hb => by
    obtain ⟨⟨old, he⟩, hs, _⟩ := st
    have e' : b' = e ∨ b' = it := by simpa using hb
    rcases e' with z | z
    · rw [z]; exact ⟨_, he, fun v q => nomatch q⟩
    · rw [z]; exact hs.obj
  keep := fun i h h' st k => let ⟨⟨old, he⟩, hi, hne⟩ := st; ⟨⟨old, k e (by simp) _ he⟩, hi.at fun o q => k it (by simp) o q, hne⟩
  item := by
    intro X hP hw hK hc i pins s σ H E I hf st hg
    subst hP hw hK
    obtain ⟨⟨old, he⟩, hit, hne, hai, hea⟩ := st
    obtain ⟨xs, x, hq, hx⟩ := hg
    obtain ⟨its, rv, p⟩ := src_inv I hq
    obtain ⟨u, hu, ru⟩ := rv.get hx
    have hel : e < s.heap.objs.size := Heap.lt_size he
    have hil : it < s.heap.objs.size := by obtain ⟨_, q, _⟩ := hit.obj; exact Heap.lt_size q
    have hlt : i < its.toArray.size := by simpa using (List.getElem?_eq_some_iff.mp hu).1
    refine wpAny_pyNext_enum_itemC (src_draws (A := X.A.in1) b (show X.A.in1.handled = none from I.ok.hd hc) it a hai its.toArray) he ⟨hit, p⟩ hlt hne (by simp [hne, hea]) fun u' h' tk hPu ho hst' hT hsz hk => ?_
    have eu : u' = u := by
      have h1 : its[i]? = some u' := by simpa using hPu
      rw [hu] at h1
      injection h1 with h1
      exact h1.symm
    subst eu
    refine ⟨_, rfl, wpAny_letOwnedTupleGo_enum (s := { s with heap := h', toks := tk + 1 }) ho fun h'' he' sb => ?_⟩
    have hT2 : h''.get? s.heap.objs.size = some { cls := .type "tuple", data := .seq #[.int (c + (i : Nat)) tk, u'] } := (sb.2 _ (Nat.ne_of_gt hel)).trans hT
    have new : ObjOk X.prog X.w (upd H s.heap.objs.size (.tup [.int (c + (i : Nat)), x])) h'' s.heap.objs.size (.tup [.int (c + (i : Nat)), x]) :=
      ⟨by show 2 ≤ sizeLine; decide, [.int (c + (i : Nat)) tk, u'], .cons ⟨_, rfl⟩ (.cons ru .nil), ⟨_, hT2, rfl, _, rfl⟩⟩
    have I1 : Inv X pins σ (upd H s.heap.objs.size (.tup [.int (c + (i : Nat)), x])) { s with heap := h'', toks := tk + 1 } :=
      I.turnedNew (ch := [e, it]) (fun b ob hb q => (sb.2 b (fun z => hb (by simp [z]))).trans (hk b ob (fun z => hb (by simp [z])) (fun z => hb (by simp [z])) q)) hf (Nat.le_refl _) new
    refine ⟨.ref s.heap.objs.size, _, I1, rfl, ⟨_, x, rfl, I.hok.fresh (Nat.le_refl _), rfl, fun ys hy => by rw [sqB_inj I hy hq]; exact hx⟩, ⟨⟨u', ?_⟩, hst'.1.at fun o q => (sb.2 it (Ne.symm hne)).trans q, hne, hai, hea⟩, fun b hb => ?_⟩
    · have e1 : c + ((i + 1 : Nat) : Int) = c + (i : Nat) + 1 := by omega
      rw [e1]; exact he'
    · have hb' : b < s.heap.objs.size := by
        have e' : b = e ∨ b = it := by simpa using hb
        rcases e' with z | z
        · rw [z]; exact hel
        · rw [z]; exact hil
      rw [upd_ne (Nat.ne_of_lt hb')]
      exact (hf b hb).1
  done := by
    intro X hP hw hK hc i pins s σ H E I hf st hg
    subst hP hw hK
    obtain ⟨⟨old, he⟩, hit, hne, hai, hea⟩ := st
    obtain ⟨xs, hq, hx⟩ := hg
    obtain ⟨its, rv, p⟩ := src_inv I hq
    obtain ⟨f0, f1, f2, f3, f4, f5⟩ := hf it (by simp)
    have hl := rv.length
    have ei : its.toArray.size = i := by simp; omega
    exact wpAny_pyNext_enum_endD (src_draws (A := X.A.in1) b (show X.A.in1.handled = none from I.ok.hd hc) it a hai its.toArray) he (by rw [ei]; exact ⟨hit, p⟩) fun h' eb => ⟨rfl, I.turned (t' := s.toks) (fun b o hb q => eb b o hb q) f0 f1 f3 f4 f5⟩
  self := fun A i s Q E st h => let ⟨⟨_, he⟩, _⟩ := st; wpAny_pyIter_enum he h
/-- at turn i: a new pair of c + i and the item -/
def YEn (c : Int) (xs : List V) : Nat → Hp → V → Hp → Prop := fun i H v H' => ∃ T x, v = .ref T ∧ H T = none ∧ H' = upd H T (.tup [.int (c + (i : Nat)), x]) ∧ xs[i]? = some x
def iEnX (K : Frag) (c : Int) (ta : TA) : TI := fun σ H R => ta σ H fun vs H1 => ∃ a xs, vs = [.ref a] ∧ (SqL K H1 a xs ∨ SqT K H1 a xs) ∧ ∀ J, Walk J xs.length (fun H => Same H1 H) (YEn c xs) → R J H1
theorem sqB_same {b : Bool} {H H' : Hp} {a : Addr} {xs : List V} (h : SqB K b H a xs) (s : Same H H') : SqB K b H' a xs := by
  cases b with
  | true => exact sqT_same h s
  | false => exact sqL_same h s
theorem walk_enumC {b : Bool} {a : Addr} {xs : List V} {c : Int} {H1 : Hp} (h : SqB K b H1 a xs) : Walk (IteC K b a c) xs.length (fun H => Same H1 H) (YEn c xs) :=
  ⟨fun i H hi s => ⟨xs, xs[i], sqB_same h s, List.getElem?_eq_getElem hi⟩, fun H s => ⟨xs, sqB_same h s, rfl⟩, fun i H v H' hi s y => let ⟨T, x, h1, h2, h3, h4⟩ := y; ⟨T, x, h1, h2, h3, h4 xs (sqB_same h s)⟩⟩
theorem pi_enumX {X : Cx} {e : Expr} {ta : TA} {p pos tpos : Pos} {elts : List Expr} {kk : Nat} (hK : X.K = K) (hg : Gl X "enumerate") (hm : X.mg "enumerate" = none) (ha : PA X [e] ta) (hs : starEach [e] X.env = [(false, eval e X.env)] := by rfl) :
    PI X (.Tuple elts kk tpos) (.Call (.Name "enumerate" p) [e] [] pos) (iEnX K 0 ta) := by
  subst hK
  refine ⟨fun pins s σ H R I h => ?_⟩
  refine Call_ (ld_blt I hg hm boot_enumerate (PyProof.Rows.callWith_type1 (thn (ha.run pos pins s σ H _ I h) fun us s1 ⟨vs, H1, I1, r1, q1⟩ => ?_) hs rfl))
  obtain ⟨a, xs, ex, hq, q⟩ := q1
  subst ex
  cases r1 with
  | cons r rr =>
    cases rr
    cases r
    have fin : ∀ (b : Bool) (h' : Heap), SqB X.K b H1 a xs → IsEnum h' (s1.heap.objs.size + 1) s1.heap.objs.size 0 .none → srcAt b s1.heap.objs.size a 0 h' → a < s1.heap.objs.size → (∀ b o, s1.heap.get? b = some o → h'.get? b = some o) → PIE X pins σ (.Tuple elts kk tpos) R (.ref (s1.heap.objs.size + 1)) { s1 with heap := h' } := fun b h' hB he hit hlt hk => by
      have I2 : Inv X pins σ H1 { s1 with heap := h' } := I1.kept (t' := s1.toks) hk
      refine ⟨s1.heap.objs.size + 1, [s1.heap.objs.size + 1, s1.heap.objs.size], _, IteC X.K b a 0, H1, rfl, I2, turn_enumC b a (s1.heap.objs.size + 1) s1.heap.objs.size 0, ⟨⟨.none, he⟩, hit, Nat.succ_ne_self _, Nat.ne_of_lt hlt, Nat.ne_of_gt (Nat.lt_succ_of_lt hlt)⟩, fun b hb => ?_, q _ (walk_enumC hB)⟩
      have e' : b = s1.heap.objs.size + 1 ∨ b = s1.heap.objs.size := by simpa using hb
      have hle : s1.heap.objs.size ≤ b := by
        rcases e' with z | z
        · rw [z]; exact Nat.le_add_right _ _
        · rw [z]; exact Nat.le_refl _
      exact I1.fpOk hle (I1.hok.fresh hle)
    rcases hq with hq | hq
    · obtain ⟨its, rv, p', hz⟩ := I1.list hq
      have hL := p'.isList
      refine enum_begins1 (begins_list a its.toArray) hL fun h' he hit hsz hk => wpAny_pyIter_enum he (fin false h' hq he ⟨_, hit, rfl, rfl⟩ (by obtain ⟨_, z, _⟩ := hL; exact Heap.lt_size z) hk)
    · obtain ⟨its, rv, p', hz⟩ := I1.tuple hq
      refine enum_begins1 (begins_tuple a its.toArray) p' fun h' he hit hsz hk => wpAny_pyIter_enum he (fin true h' hq he ⟨_, hit, rfl, rfl⟩ (by obtain ⟨_, z, _⟩ := p'; exact Heap.lt_size z) hk)
/-- a for over enumerate(..) of what stands -/
theorem for_enX {J : It} {xs : List V} {c : Int} {H0 : Hp} (w : Walk J xs.length (fun H => Same H0 H) (YEn c xs)) {g : TG} {tb : TS} {D : Ends} {σ : L2.St} {H : Hp} (Pv : Nat → L2.St → Hp → Prop) (h0 : Pv 0 σ H) (hG : ∀ i σ H, i ≤ xs.length → Pv i σ H → Same H0 H)
    (hs : ∀ i x σ H T, xs[i]? = some x → Pv i σ H → H T = none → g (.ref T) σ (upd H T (.tup [.int (c + (i : Nat)), x])) fun σ2 H2 => tb { D with nx := Pv (i + 1), ct := Pv (i + 1), bk := D.nx } σ2 H2) (hd : ∀ σ H, Pv xs.length σ H → D.nx σ H) :
    ∃ W : Nat → Nat → L2.St → Hp → Prop, (∃ m, W 0 m σ H) ∧ ∀ i m σ H, W i m σ H →
      (J.stop i H ∧ D.nx σ H) ∨ (J.go i H ∧ ∃ N : L2.St → Hp → Prop, (∀ σ' H', N σ' H' → ∃ m', m' < m ∧ W (i + 1) m' σ' H') ∧ ∀ x H', J.yld i H x H' → g x σ H' fun σ2 H2 => tb { D with nx := N, ct := N, bk := D.nx } σ2 H2) :=
  for_it w Pv h0 hG (fun i x σ H H' _ p y => by
    obtain ⟨T, v, rfl, h2, rfl, e⟩ := y
    exact hs i v σ H T e p h2) hd
end
end S
namespace S
open PySem PySem.Spec PyProof.Rows L2
/-! f(e, ..), f an instance of a plain class with its own __call__ -/
def tCallX (C : Addr) (sp : Sp) (E : L2.St → XK) (tf : TE) (t : TA) : TE := fun σ H Q => tf σ H fun y H1 => ∃ a, y = V.ref a ∧ t σ H1 fun vs H2 => (∃ dx fs, H2 a = some (.ins C dx fs)) ∧ sp (V.ref a :: vs) H2 Q (E σ)
theorem pe_callX {X : Cx} {fe e : Expr} {es : List Expr} {pos : Pos} {C g : Addr} {k : Nat} {sp : Sp} {E : L2.St → XK} {tf : TE} {t : TA} (hf : PE X fe tf) (c : StX.CallO X.K C g) (F : FnR X.prog X.w X.K X.mg X.base (L2.CX X.prog X.w) k g sp) (hr : Room k X.A) (hx : ∀ σ, PassesAt (L2.CX X.prog X.w) X σ (E σ)) (ha : PA X (e :: es) t)
    (ht : eval (.Call fe (e :: es) [] pos) X.env = (do callWith pos (← eval fe X.env) [] (backTo pos (starEach (e :: es) X.env)) (backToKw pos (keywordEach [] X.env))) := by rfl)
    (he : starEach (e :: es) X.env = (false, eval e X.env) :: starEach es X.env := by rfl) (hpl : (backTo pos (starEach es X.env)).any (·.1) = false := by rfl) : PE X (.Call fe (e :: es) [] pos) (tCallX C sp E tf t) := by
  refine ⟨fun pins s σ H Q I h => ?_⟩
  refine Call_ (thn (hf.run pins s σ H _ I h) fun u s1 ⟨y, H1, I1, ry, a, ey, q⟩ => ?_) ht
  subst ey
  obtain rfl : u = Value.ref a := ry
  refine StX.callO_with (thn (ha.run pos pins s1 σ H1 _ I1 q) fun us s2 ⟨vs, H2, I2, r, hi, q2⟩ => ?_) he hpl
  obtain ⟨ox, od, J, hd⟩ := StX.insC_at (X := X) I2 (.inr hi)
  exact ⟨⟨C, ox, od, J, hd⟩, wpAny_call (PySem.W.kco_code I2.kIn J hd c.at_ c.fn c.fi (run_at0 (us := .ref a :: us) (vs := .ref a :: vs) F hr I2 (hx σ) (.cons rfl r) q2))⟩
end S
namespace S
open PySem PySem.Spec PyProof.Rows L2
/-! ### enumerate(x, start=k) over a list or a tuple; the walk asks only that it stands -/
section
open PySem.Calls
variable {K : Frag}
def iEnS (K : Frag) (ta tk : TA) : TI := fun σ H R => ta σ H fun vs H1 => tk σ H1 fun zs H2 => ∃ (a : Addr) (xs : List V) (b : Bool) (c : Int), vs = [.ref a] ∧ zs = [.int c] ∧ 0 ≤ c ∧ c < 2 ^ 62 ∧ SqB K b H2 a xs ∧ ∀ J, Walk J xs.length (fun H => SqB K b H a xs) (YEn c xs) → R J H2
theorem walk_enumS {b : Bool} {a : Addr} {xs : List V} {c : Int} : Walk (IteC K b a c) xs.length (fun H => SqB K b H a xs) (YEn c xs) :=
  ⟨fun i H hi s => ⟨xs, xs[i], s, List.getElem?_eq_getElem hi⟩, fun H s => ⟨xs, s, rfl⟩, fun i H v H' hi s y => let ⟨T, x, h1, h2, h3, h4⟩ := y; ⟨T, x, h1, h2, h3, h4 xs s⟩⟩
theorem callWith_typeKw {M : Model} {A : Around} {E : Value → Shared → Prop} {s : Shared} {env : Env} {pos : Pos} {T : String} {e : Expr} {kws : List Keyword} {Q : Value → Shared → Prop}
    (h : wpAny M A (spliced (backTo pos (starEach [e] env))) (fun vs s₁ => wpAny M A (evalAll ((backToKw pos (keywordEach kws env)).map (·.2)))
      (fun kvs s₂ => wpAny M A (call (.type T) vs (((backToKw pos (keywordEach kws env)).filterMap (·.1)).zip kvs)) Q E s₂) E s₁) E s)
    (he : backTo pos (starEach [e] env) = (false, eval e env) :: backTo pos (starEach [] env) := by rfl)
    (hplain : (backTo pos (starEach [e] env)).any (·.1) = false := by rfl)
    (hall : (backToKw pos (keywordEach kws env)).all (·.1.isSome) = true := by rfl)
    (hkw : (backToKw pos (keywordEach kws env)).any (·.1.isNone) = false := by rfl) :
    wpAny M A (callWith pos (.type T) [] (backTo pos (starEach [e] env)) (backToKw pos (keywordEach kws env))) Q E s := by
  unfold callWith
  refine wpAny_bind (wpAny_holding (wpAny_mono (Q := fun a s₁ => wpAny M A (call (.type T) ([] ++ a.pos) a.kw) Q E s₁) ?_ (fun a s₁ h₁ => wpAny_bind (wpAny_standAt ?_)) fun _ _ x => x))
  · rw [he] at h ⊢
    exact evalArgs_kwB hall h
  · simp only [hplain, hkw, Bool.or_false]
    refine wpAny_bind (wpAny_pure ?_)
    exact wpAny_bind (wpAny_mono h₁ (fun r s₂ hr => wpAny_bind (wpAny_holding (wpAny_point (wpAny_pure hr)))) fun _ _ x => x)
theorem pi_enumS {X : Cx} {e e2 : Expr} {ta tk : TA} {p pos tpos kpos : Pos} {elts : List Expr} {kk : Nat} (hK : X.K = K) (hg : Gl X "enumerate") (hm : X.mg "enumerate" = none) (ha : PA X [e] ta) (hk : PK X [⟨some "start", e2, kpos⟩] tk)
    (he : backTo pos (starEach [e] X.env) = (false, eval e X.env) :: backTo pos (starEach [] X.env) := by rfl) (hpl : (backTo pos (starEach [e] X.env)).any (·.1) = false := by rfl) :
    PI X (.Tuple elts kk tpos) (.Call (.Name "enumerate" p) [e] [⟨some "start", e2, kpos⟩] pos) (iEnS K ta tk) := by
  subst hK
  refine ⟨fun pins s σ H R I h => ?_⟩
  refine wpAny_Call_Name_kw (ld_blt I hg hm boot_enumerate (callWith_typeKw (thn (ha.run pos pins s σ H _ I h) fun us s0 ⟨vs, H0, I0, r1, q0⟩ => thn (hk.run pos pins s0 σ H0 _ I0 q0) fun ws s1 ⟨zs, H1, I1, r2, q1⟩ => ?_) he hpl))
  obtain ⟨a, xs, b, c, ex, ez, c0, c1, hq, q⟩ := q1
  subst ex
  subst ez
  cases r1 with
  | cons r rr =>
    cases rr
    cases r
    cases r2 with
    | cons r' rr' =>
      cases rr'
      obtain ⟨tc, rfl⟩ := r'
      have fin : ∀ (h' : Heap), IsEnum h' (s1.heap.objs.size + 1) s1.heap.objs.size c .none → srcAt b s1.heap.objs.size a 0 h' → a < s1.heap.objs.size → (∀ b o, s1.heap.get? b = some o → h'.get? b = some o) → PIE X pins σ (.Tuple elts kk tpos) R (.ref (s1.heap.objs.size + 1)) { s1 with heap := h' } := fun h' he hit hlt hk => by
        have I2 : Inv X pins σ H1 { s1 with heap := h' } := I1.kept (t' := s1.toks) hk
        refine ⟨s1.heap.objs.size + 1, [s1.heap.objs.size + 1, s1.heap.objs.size], _, IteC X.K b a c, H1, rfl, I2, turn_enumC b a (s1.heap.objs.size + 1) s1.heap.objs.size c, ⟨⟨.none, by rw [show c + ((0 : Nat) : Int) = c by omega]; exact he⟩, hit, Nat.succ_ne_self _, Nat.ne_of_lt hlt, Nat.ne_of_gt (Nat.lt_succ_of_lt hlt)⟩, fun b hb => ?_, q _ walk_enumS⟩
        have e' : b = s1.heap.objs.size + 1 ∨ b = s1.heap.objs.size := by simpa using hb
        have hle : s1.heap.objs.size ≤ b := by
          rcases e' with z | z
          · rw [z]; exact Nat.le_add_right _ _
          · rw [z]; exact Nat.le_refl _
        exact I1.fpOk hle (I1.hok.fresh hle)
      cases b with
      | false =>
        obtain ⟨its, rv, p', hz⟩ := I1.list hq
        have hL := p'.isList
        exact enum_begins_start (begins_list a its.toArray) hL (by omega) (by omega) fun h' he hit hsz hk => wpAny_pyIter_enum he (fin h' he ⟨_, hit, rfl, rfl⟩ (by obtain ⟨_, z, _⟩ := hL; exact Heap.lt_size z) hk)
      | true =>
        obtain ⟨its, rv, p', hz⟩ := I1.tuple hq
        exact enum_begins_start (begins_tuple a its.toArray) p' (by omega) (by omega) fun h' he hit hsz hk => wpAny_pyIter_enum he (fin h' he ⟨_, hit, rfl, rfl⟩ (by obtain ⟨_, z, _⟩ := p'; exact Heap.lt_size z) hk)
/-- a for over enumerate(.., start=c) -/
theorem for_enS {J : It} {b : Bool} {a : Addr} {xs : List V} {c : Int} (w : Walk J xs.length (fun H => SqB K b H a xs) (YEn c xs)) {g : TG} {tb : TS} {D : Ends} {σ : L2.St} {H : Hp} (Pv : Nat → L2.St → Hp → Prop) (h0 : Pv 0 σ H) (hG : ∀ i σ H, i ≤ xs.length → Pv i σ H → SqB K b H a xs)
    (hs : ∀ i x σ H T, xs[i]? = some x → Pv i σ H → H T = none → g (.ref T) σ (upd H T (.tup [.int (c + (i : Nat)), x])) fun σ2 H2 => tb { D with nx := Pv (i + 1), ct := Pv (i + 1), bk := D.nx } σ2 H2) (hd : ∀ σ H, Pv xs.length σ H → D.nx σ H) :
    ∃ W : Nat → Nat → L2.St → Hp → Prop, (∃ m, W 0 m σ H) ∧ ∀ i m σ H, W i m σ H →
      (J.stop i H ∧ D.nx σ H) ∨ (J.go i H ∧ ∃ N : L2.St → Hp → Prop, (∀ σ' H', N σ' H' → ∃ m', m' < m ∧ W (i + 1) m' σ' H') ∧ ∀ x H', J.yld i H x H' → g x σ H' fun σ2 H2 => tb { D with nx := N, ct := N, bk := D.nx } σ2 H2) :=
  for_it w Pv h0 hG (fun i x σ H H' _ p y => by
    obtain ⟨T, v, rfl, h2, rfl, e⟩ := y
    exact hs i v σ H T e p h2) hd
end
end S
namespace S
open PySem PySem.Spec PyProof.Rows L2
section
variable {X : Cx} {K : Frag}
/-- l[::-1] -/
theorem pe_revK (hK : X.K = K) {e : Expr} {te : TE} {k : Nat} {p1 p2 p3 pos : Pos} (he : PE X e te) : PE X (.Subscript e (.Slice none none (some (.UnaryOp .USub (.Constant (.int 1) k p1) p2)) p3) pos) (tRevL K te) := hK ▸ pe_revL he
end
end S
namespace S
open PySem PySem.Spec PyProof.Rows L2
/-! text * number; d.copy() -/
section
variable {X : Cx}
def repS (z : Str) (k : Nat) : Str := ⟨(List.replicate k z.cps).foldl (· ++ ·) #[]⟩
theorem rep_size (c : Array Nat) : ∀ (k : Nat) (acc : Array Nat), ((List.replicate k c).foldl (· ++ ·) acc).size = acc.size + c.size * k
  | 0, acc => by simp
  | k + 1, acc => by
    rw [List.replicate_succ, List.foldl_cons, rep_size c k, Array.size_append, Nat.mul_succ]
    omega
theorem repS_len (z : Str) (k : Nat) : (repS z k).length = z.length * k := by
  show ((List.replicate k z.cps).foldl (· ++ ·) #[]).size = z.cps.size * k
  rw [rep_size]
  simp
theorem tooLong_no {n : Nat} (h : n ≤ 1000) : Builtin.Str.tooLong n = false := by
  unfold Builtin.Str.tooLong
  exact decide_eq_false (by have : (1000 : Nat) ≤ sizeLine := by decide
                            omega)
theorem op_rep_str : OpR X (binaryOp .Mult) (fun x y H Q => ∃ (z : Str) (k : Int), x = .str z ∧ y = .int k ∧ 2 ≤ k ∧ 1 ≤ z.length ∧ z.length * k.toNat ≤ 1000 ∧ Q (.str (repS z k.toNat)) H) := by
  intro pins s σ H x y v u Q I rx ry h
  obtain ⟨z, k, rfl, rfl, k2, z1, zk, q⟩ := h
  obtain ⟨t, rfl⟩ := rx
  obtain ⟨t', rfl⟩ := ry
  have kk : k.toNat ≤ 1000 := Nat.le_trans (Nat.le_mul_of_pos_left _ z1) zk
  have zi : (z.length : Int) * k ≤ 1000 := by
    have : ((z.length * k.toNat : Nat) : Int) ≤ 1000 := by omega
    rw [Int.natCast_mul, Int.toNat_of_nonneg (by omega)] at this
    exact this
  refine P.mul_str (by simp; omega) (fun _ _ => ?_) (fun _ _ => ?_) ?_
  · have : (z.length : Int) ≤ (2 ^ 63 - 1) / k := by
      rw [Int.le_ediv_iff_mul_le (by omega)]
      omega
    omega
  · exact tooLong_no zk
  · rw [if_neg (by omega), if_neg (by simp; omega)]
    exact ⟨Nat.le_trans (show (repS z k.toNat).length ≤ 1000 by rw [repS_len]; exact zk) (by decide), ⟨.str (repS z k.toNat), H, I.tok _, ⟨_, rfl⟩, q⟩⟩
def rDCopy : V → List V → Hp → VK → Prop := fun x xs H Q => ∃ a kvs, x = .ref a ∧ xs = [] ∧ H a = some (.dK kvs) ∧ ∀ p, H p = none → Q (.ref p) (upd H p (.dK kvs))
theorem mt_dcopy : MtR X "dict.copy" rDCopy := by
  intro pins s σ H x vs v us Q I rx rv h
  obtain ⟨a, kvs, rfl, rfl, hH, q⟩ := h
  cases rx
  have hus := rv.zero
  subst hus
  obtain ⟨z, hd, vs, rel, dd⟩ := dk_rd I.hok (.inl hH)
  refine call_meetsIn PySem.F.slot_dict_copy dd.typeIs PySem.F.entry_dict_copy (PySem.F.args_dict_copy_1 _) (meets_dict_copy (mixKind X.prog X.w) a hd) ⟨vs, dd, by rw [← rel.length]; exact z, fun h' dd' _ hs => ?_⟩
  refine ⟨.ref _, upd H s.heap.objs.size (.dK kvs), ?_, rfl, q _ (I.hok.fresh (Nat.le_refl _))⟩
  exact I.laid (a := s.heap.objs.size) (o := .dK kvs) (t' := s.toks) (fun b q hq => hs b q hq) (Nat.le_refl _) (dk_new z (beq_eq_false_iff_ne.mpr (Ne.symm (Nat.ne_of_lt I.big))) rel dd')
end
end S
namespace S
open PySem PySem.Spec PyProof.Rows L2
/-! ### dicts whose keys are tuples of ints, bools, texts and None -/
/-- a plain item of a key -/
def flV : V → Bool
  | .non => true
  | .bl _ => true
  | .int _ => true
  | .str _ => true
  | _ => false
def nkV : V → NestedKey
  | .bl b => .num (if b = true then 1 else 0)
  | .int i => .num i
  | .str x => .text x
  | _ => .none
def nkL (xs : List V) : NestedKey := .tup (xs.map nkV)
abbrev DxE := List V × Addr × V
def DxR (p : DxE) (q : NestedKey × Addr × Value) : Prop := q.1 = nkL p.1 ∧ q.2.1 = p.2.1 ∧ RelV p.2.2 q.2.2
/-- the dict at d: its keys, where their tuples stand, its values -/
def DXo (P : Program) (w : World) (kvs : List DxE) (d : Addr) : HO := .ext fun h => kvs.length ≤ sizeLine ∧ (d == sysModules) = false ∧ ∃ xs : List (NestedKey × Addr × Value), Paired DxR kvs xs ∧
  ∃ o es ep, h.get? d = some o ∧ o.ExactDict ∧ o.data = .dict es ep ∧ es.toList = xs.map (entryOfKey (nestedKind P w)) ∧ (xs.map (·.1)).Nodup
def KeysAt (H : Hp) (kvs : List DxE) : Prop := ∀ e ∈ kvs, (∀ v ∈ e.1, flV v = true) ∧ H e.2.1 = some (.tup e.1)
theorem KeysAt.same {H H' : Hp} {kvs : List DxE} (h : KeysAt H kvs) (s : Same H H') : KeysAt H' kvs := fun e he => ⟨(h e he).1, s _ _ (h e he).2⟩
def dxGet (kvs : List DxE) (k : List V) : Option V := (kvs.find? fun e => decide (nkL e.1 = nkL k)).map (·.2.2)
def dxPut (kvs : List DxE) (k : List V) (b : Addr) (v : V) : List DxE := if (dxGet kvs k).isSome then kvs.map fun e => if nkL e.1 = nkL k then (e.1, e.2.1, v) else e else kvs ++ [(k, b, v)]
section
variable {P : Program} {w : World} {H : Hp} {h : Heap} {d b : Addr} {kvs : List DxE}
theorem nk_all : ∀ {xs : List V} {us : List Value}, Vals xs us → (∀ v ∈ xs, flV v = true) → NestedAll h (xs.map nkV) us := by
  intro xs us r
  induction r with
  | nil => intro _; exact .nil
  | @cons x u xs us hx _ ih =>
    intro f
    refine .cons ?_ (ih fun v hv => f v (List.mem_cons_of_mem _ hv))
    have f1 := f x List.mem_cons_self
    cases x with
    | non => cases hx; exact .none
    | bl c => cases hx; exact .bool rfl
    | int i => obtain ⟨t, rfl⟩ := hx; exact .int i t
    | str z => obtain ⟨t, rfl⟩ := hx; exact .text z t
    | _ => cases f1
theorem nk_depth (xs : List V) : (nkL xs).depth ≤ 8 := by
  have h1 : ∀ x : V, (nkV x).depth ≤ 7 := fun x => by cases x <;> exact Nat.zero_le _
  have h2 : ∀ xs : List V, NestedKey.depthAll (xs.map nkV) ≤ 7 := by
    intro xs
    induction xs with
    | nil => exact Nat.zero_le _
    | cons x xs ih =>
      rw [List.map_cons]
      unfold NestedKey.depthAll
      exact Nat.max_le.mpr ⟨h1 x, ih⟩
  unfold nkL NestedKey.depth
  have := h2 xs
  omega
theorem nk_is (ok : HOk P w H h) {xs : List V} (e : H b = some (.tup xs)) (f : ∀ v ∈ xs, flV v = true) : (nestedKind P w).is h (nkL xs) b := by
  obtain ⟨_, its, r, o, h1, h2, n, h3⟩ := (show ObjOk P w H h b (.tup xs) from ok b _ e)
  exact ⟨.tup h1 h2 h3 (by simpa using nk_all r f), nk_depth xs⟩
theorem dx_of (ok : HOk P w H h) (e : Rd H d (DXo P w kvs d)) (t : KeysAt H kvs) : kvs.length ≤ sizeLine ∧ (d == sysModules) = false ∧ ∃ xs, Paired DxR kvs xs ∧ h.DictOfH (nestedKind P w) d xs := by
  obtain ⟨⟨z, y, xs, r, o, es, ep, h1, h2, h3, h4, h5⟩, _⟩ := (show ObjOk P w H h d (DXo P w kvs d) from rd_of ok e)
  refine ⟨z, y, xs, r, o, es, ep, h1, h2, h3, h4, fun x hx => ?_, h5⟩
  have all : ∀ {l : List DxE} {m : List (NestedKey × Addr × Value)}, Paired DxR l m → KeysAt H l → ∀ x ∈ m, (nestedKind P w).is h x.1 x.2.1 := by
    intro l m q
    induction q with
    | nil => intro _ x hx; exact nomatch hx
    | @cons p q ps qs hq t ih =>
      intro k x hx
      rcases List.mem_cons.mp hx with e | hx
      · subst e
        obtain ⟨k1, k2⟩ := k p List.mem_cons_self
        rw [hq.1, hq.2.1]
        exact nk_is ok k2 k1
      · exact ih (fun e he => k e (List.mem_cons_of_mem _ he)) x hx
  exact all r t x hx
theorem dx_val {xs : List (NestedKey × Addr × Value)} (r : Paired DxR kvs xs) (k : List V) : RelO (dxGet kvs k) ((atKey xs (nkL k)).map (·.2)) := by
  unfold dxGet atKey
  induction r with
  | nil => exact True.intro
  | @cons p q ps qs hq t ih =>
    rw [List.find?_cons, List.find?_cons, hq.1]
    by_cases c : nkL p.1 = nkL k
    · rw [decide_eq_true c]
      exact hq.2.2
    · rw [decide_eq_false c]
      exact ih
theorem dx_none {xs : List (NestedKey × Addr × Value)} (r : Paired DxR kvs xs) (k : List V) : (dxGet kvs k).isSome = (atKey xs (nkL k)).isSome := by
  have := (dx_val r k).isSome_eq
  rw [Option.isSome_map] at this
  exact this
theorem dxPut_len (kvs : List DxE) (k : List V) (b : Addr) (v : V) : (dxPut kvs k b v).length ≤ kvs.length + 1 := by
  unfold dxPut
  split
  · rw [List.length_map]; omega
  · rw [List.length_append]; exact Nat.le_refl _
theorem dx_put {xs : List (NestedKey × Addr × Value)} (r : Paired DxR kvs xs) (k : List V) (b : Addr) {v : V} {u : Value} (rv : RelV v u) : Paired DxR (dxPut kvs k b v) (storedH xs (nkL k) b u) := by
  have e := dx_none r k
  unfold dxPut storedH
  rw [e]
  by_cases q : (atKey xs (nkL k)).isSome = true
  · rw [if_pos q, if_pos q]
    clear e q
    induction r with
    | nil => exact .nil
    | @cons p q ps qs hq t ih =>
      refine .cons ?_ ih
      show DxR (if nkL p.1 = nkL k then (p.1, p.2.1, v) else p) (putAt (nkL k) u q)
      unfold putAt
      by_cases c : nkL p.1 = nkL k
      · rw [if_pos c, if_pos (hq.1.trans c)]
        exact ⟨hq.1, hq.2.1, rv⟩
      · rw [if_neg c, if_neg (fun z => c (hq.1.symm.trans z))]
        exact hq
  · rw [if_neg q, if_neg q]
    exact Paired.snoc r ⟨rfl, rfl, rv⟩
theorem dx_new {xs : List (NestedKey × Addr × Value)} (z : kvs.length ≤ sizeLine) (y : (d == sysModules) = false) (r : Paired DxR kvs xs) (m : h.DictOfH (nestedKind P w) d xs) : ObjOk P w H h d (DXo P w kvs d) := by
  obtain ⟨o, es, ep, h1, h2, h3, h4, _, h5⟩ := m
  refine ⟨⟨z, y, xs, r, o, es, ep, h1, h2, h3, h4, h5⟩, ⟨o, h1⟩, fun g1 g2 p k => ?_⟩
  obtain ⟨z, y, xs, r, o, es, ep, h1, h2⟩ := p
  exact ⟨z, y, xs, r, o, es, ep, k o h1, h2⟩
theorem dx_empty (h : Heap) (hb : sysModules < h.objs.size) : ObjOk P w H (h.push { cls := .type "dict", data := .dict #[] }) h.objs.size (DXo P w [] h.objs.size) :=
  dx_new (Nat.zero_le _) (beq_eq_false_iff_ne.mpr (Ne.symm (Nat.ne_of_lt hb))) .nil (Heap.DictOfH.new h)
end
/-! the rules -/
/-- {}: a dict of this kind -/
def tDNewX (P : Program) (w : World) : TE := fun _ H Q => ∀ p, H p = none → Q (.ref p) (upd H p (DXo P w [] p))
/-- the tuple at b is the key ks -/
def KeyAt (H : Hp) (b : Addr) (ks : List V) : Prop := H b = some (.tup ks) ∧ ∀ v ∈ ks, flV v = true
def rInX (P : Program) (w : World) (neg : Bool) : V → V → Hp → VK → Prop := fun x y H Q => ∃ (b d : Addr) (ks : List V) (kvs : List DxE), x = .ref b ∧ KeyAt H b ks ∧ y = .ref d ∧ Rd H d (DXo P w kvs d) ∧ KeysAt H kvs ∧
  Q (.bl (if neg then !(dxGet kvs ks).isSome else (dxGet kvs ks).isSome)) H
def tDGetX (P : Program) (w : World) (td ty : TE) : TE := fun σ H Q => td σ H fun x H1 => ty σ H1 fun y H2 => ∃ (b d : Addr) (ks : List V) (kvs : List DxE) (v : V), x = .ref d ∧ Rd H2 d (DXo P w kvs d) ∧ KeysAt H2 kvs ∧ y = .ref b ∧ KeyAt H2 b ks ∧ dxGet kvs ks = some v ∧ Q v H2
def sDPutX (P : Program) (w : World) (td ty tv : TE) : TS := fun D σ H => tv σ H fun v H1 => td σ H1 fun x H2 => ty σ H2 fun y H3 => ∃ (b d : Addr) (ks : List V) (kvs : List DxE), x = .ref d ∧ H3 d = some (DXo P w kvs d) ∧ KeysAt H3 kvs ∧ y = .ref b ∧ KeyAt H3 b ks ∧ kvs.length < sizeLine ∧
  D.nx σ (upd H3 d (DXo P w (dxPut kvs ks b v) d))
section
variable {X : Cx} {pos : Pos}
theorem room8 {A : Around} (hu : A.units + 64 < cLine) {P : Program} {w : World} : (nestedKind P w).room A.in1 := by
  show A.units + 1 + 8 < cLine
  omega
theorem pe_dnewX : PE X (.Dict [] [] pos) (tDNewX X.prog X.w) := ⟨fun pins s σ H Q I h =>
  wpAny_Dict_empty ⟨.ref s.heap.objs.size, _, I.laid (a := s.heap.objs.size) (o := DXo X.prog X.w [] s.heap.objs.size) (t' := s.toks) (fun _ _ q => Heap.get?_push_of_some _ q) (Nat.le_refl _) (dx_empty s.heap I.big), rfl, h _ (I.hok.fresh (Nat.le_refl _))⟩⟩
theorem or_inX (hu : X.A.units + 64 < cLine) : OpR X (compareOp .In) (rInX X.prog X.w false) := by
  intro pins s σ H x y v u Q I rx ry h
  obtain ⟨b, d, ks, kvs, rfl, kb, rfl, hd, ka, q⟩ := h
  cases rx
  cases ry
  obtain ⟨z, hs, xs, r, m⟩ := dx_of I.hok hd ka
  refine wpAny_in_heap (room8 hu) (nk_is I.hok kb.1 kb.2) hs m ⟨.bl (dxGet kvs ks).isSome, H, I.tok _, ?_, q⟩
  show Value.bool _ = Value.bool _
  rw [dx_none r]
theorem or_notInX (hu : X.A.units + 64 < cLine) : OpR X (compareOp .NotIn) (rInX X.prog X.w true) := by
  intro pins s σ H x y v u Q I rx ry h
  obtain ⟨b, d, ks, kvs, rfl, kb, rfl, hd, ka, q⟩ := h
  cases rx
  cases ry
  obtain ⟨z, hs, xs, r, m⟩ := dx_of I.hok hd ka
  refine wpAny_notIn_heap (room8 hu) (nk_is I.hok kb.1 kb.2) hs m ⟨.bl (!(dxGet kvs ks).isSome), H, I.tok _, ?_, q⟩
  show Value.bool _ = Value.bool _
  rw [dx_none r]
theorem pe_dgetX {o i : Expr} {td ty : TE} (hu : X.A.units + 64 < cLine) (ho : PE X o td) (hi : PE X i ty) (hs : NoSl i) : PE X (.Subscript o i pos) (tDGetX X.prog X.w td ty) := by
  refine ⟨fun pins s σ H Q I h => ?_⟩
  refine subD_of PySem.F.slot_dict_getitem.lookup hs (thn (ho.run pins s σ H _ I h) fun u s1 ⟨x, H1, I1, rx, q1⟩ => thn (hi.run pins s1 σ H1 _ I1 q1) fun iv s2 ⟨y, H2, I2, ry, b, d, ks, kvs, v, ex, hd, ka, ey, kb, g, q2⟩ => ?_)
  subst ex ey
  obtain rfl : u = Value.ref d := rx
  obtain rfl : iv = Value.ref b := ry
  obtain ⟨z, hs, xs, r, m⟩ := dx_of I2.hok hd ka
  obtain ⟨w', hw, rw'⟩ := RelO.some_of (v := v) (o := (atKey xs (nkL ks)).map (·.2)) (by rw [← g]; exact dx_val r ks)
  obtain ⟨p, hp, hp2⟩ := Option.map_eq_some_iff.mp hw
  refine ⟨m.typeIs, wpAny_getItem_heap (room8 hu) (nk_is I2.hok kb.1 kb.2) m hp ?_⟩
  rw [hp2]
  exact ⟨v, H2, I2.tok _, rw', q2⟩
theorem ps_dputX {o i value : Expr} {pos' : Pos} {td ty tv : TE} (hu : X.A.units + 64 < cLine) (ho : PE X o td) (hi : PE X i ty) (hv : PE X value tv) (hs : swapsWith value (some (.Subscript o i pos')) pos.line X.env = pure false) :
    PS X (.Assign [.Subscript o i pos'] value pos) (sDPutX X.prog X.w td ty tv) := by
  refine ⟨fun pins s σ H D I h => ?_⟩
  refine wpAny_Assign_Subscript (thn (hv.run pins s σ H _ I h) fun r s1 ⟨v, H1, I1, rv, q1⟩ => thn (ho.run pins s1 σ H1 _ I1 q1) fun u s2 ⟨x, H2, I2, rx, q2⟩ => thn (hi.run pins s2 σ H2 _ I2 q2) fun iv s3 ⟨y, H3, I3, ry, b, d, ks, kvs, ex, hd, ka, ey, kb, hl, q3⟩ => ?_) hs
  subst ex ey
  obtain rfl : u = Value.ref d := rx
  obtain rfl : iv = Value.ref b := ry
  obtain ⟨z, hsm, xs, rr, m⟩ := dx_of I3.hok (.inl hd) ka
  have hz : xs.length ≤ sizeLine := by rw [← Paired.length rr]; exact z
  have hl2 : (dxPut kvs ks b v).length ≤ sizeLine := by have := dxPut_len kvs ks b v; omega
  refine wpAny_setItem_heap (hsz := hz) (room8 hu) (nk_is I3.hok kb.1 kb.2) m fun h' m' hsb => ⟨σ, _, ?_, q3⟩
  have he : ∃ q, h'.get? d = some q := let ⟨q, _, _, hq, _⟩ := m'; ⟨q, hq⟩
  exact d_write I3 (by rw [hd]; exact True.intro) hsb he (dx_new hl2 hsm (dx_put rr ks b rv) m')
/-- len(d) -/
theorem len_body_raw {A : Around} {E : Value → Shared → Prop} {s : Shared} {d : Addr} {es : Array DictEntry} {ep : Nat} {Q : Value → Shared → Prop} {prog : Program} {w : World} (hd : (d == sysModules) = false) (hm : s.heap.DictRaw d es ep) (hfit : (es.size : Int) < 2 ^ 63)
    (h : Q (.int es.size (s.toks + 1)) { s with toks := s.toks + 1 + 1 }) : wpAny (model prog w) A (Builtin.«len» ⟨[.ref d], []⟩) (fun fin s' => ∃ r, fin = .done (.ret r) ∧ Q r s') E s := by
  unfold Builtin.«len»
  refine wpAny_bind (m := oneArg "len" _) (wpAny_pure ?_)
  refine wpAny_bind (m := callSpecial? (.ref d) (Str.ofString "__len__")) (wpAny_callSpecial?_slot (name := Str.ofString "__len__") hm.typeIs F.slot_dict_len
    (call_len_raw hd hm ?_))
  show wpAny _ _ _ _ _ { s with toks := s.toks + 1 }
  refine wpAny_bind (wpAny_holding (wpAny_pure ?_))
  refine wpAny_bind (wpAny_letGo ?_)
  show wpAny _ _ (if ((es.size : Nat) : Int) < 0 then _ else _) _ _ _
  rw [if_neg (by omega)]
  show wpAny _ _ (if ((es.size : Nat) : Int) ≥ 2 ^ 63 then _ else _) _ _ _
  rw [if_neg (by omega)]
  exact wpAny_bind (wpAny_mkInt (wpAny_pure ⟨_, rfl, h⟩))
def rLenX (P : Program) (w : World) : List V → Hp → VK → Prop := fun xs H Q => ∃ d kvs, xs = [V.ref d] ∧ Rd H d (DXo P w kvs d) ∧ KeysAt H kvs ∧ Q (.int kvs.length) H
theorem call_lenX : CallR X (.builtin "len") (rLenX X.prog X.w) := by
  intro pins s σ H xs us Q I r h
  obtain ⟨d, kvs, rfl, hd, ka, q⟩ := h
  obtain ⟨u, rfl, ru⟩ := r.one
  cases ru
  obtain ⟨z, hs, xs, rr, m⟩ := dx_of I.hok hd ka
  obtain ⟨es, ep, hr, hsz, _⟩ := m.raw
  have l : kvs.length = es.size := (Paired.length rr).trans hsz.symm
  refine Calls.call_function_entry kind_len plain_len entry_len (args_len1 _) (len_body_raw hs hr (by rw [← l]; rw [sizeLine_eq] at z; omega) ?_)
  exact ⟨.int kvs.length, H, I.tok _, ⟨_, by rw [l]⟩, q⟩
/-- list(d): the keys' own tuples -/
def rListX (P : Program) (w : World) : List V → Hp → VK → Prop := fun xs H Q => ∃ d kvs, xs = [V.ref d] ∧ Rd H d (DXo P w kvs d) ∧ ∀ p, H p = none → Q (.ref p) (upd H p (.lst (kvs.map fun e => V.ref e.2.1)))
theorem dx_addrs {kvs : List DxE} {xs : List (NestedKey × Addr × Value)} (r : Paired DxR kvs xs) : (xs.map fun x => x.2.1) = kvs.map fun e => e.2.1 := by
  induction r with
  | nil => rfl
  | @cons p q ps qs hq _ ih => rw [List.map_cons, List.map_cons, ih, hq.2.1]
theorem call_listX (hc : X.calm = true) : CallR X (.type "list") (rListX X.prog X.w) := by
  intro pins s σ H xs us Q I r h
  obtain ⟨d, kvs, rfl, hd, q⟩ := h
  obtain ⟨u, rfl, rx⟩ := r.one
  cases rx
  obtain ⟨⟨z, hs, ks, pr, o, es, ep, ho, hx, hdt, he, hn⟩, _⟩ := (show ObjOk X.prog X.w H s.heap d (DXo X.prog X.w kvs d) from hd.ok I.hok)
  have l1 : es.size = ks.length := size_of_entries he
  have l2 : kvs.length = ks.length := Paired.length pr
  refine PySem.W.kdl_call (kdl_raw hs hx hdt) (I.ok.hd hc) ho (by omega) fun h' tk acc' c' kp e it => ?_
  have ea : acc'.toList = ks.map fun x => Value.ref x.2.1 := by
    have hl : acc'.toList.length = ks.length := by rw [Array.length_toList, it.1]; exact l1
    apply List.ext_getElem?
    intro j
    rw [List.getElem?_map]
    cases hj : acc'.toList[j]? with
    | none =>
      have h1 := List.getElem?_eq_none_iff.mp hj
      rw [List.getElem?_eq_none (by omega)]
      all_goals rfl
    | some v =>
      obtain ⟨en, hen, hv⟩ := it.2 j v (by rw [← Array.getElem?_toList]; exact hj)
      have qe := entry_at he j
      rw [hen] at qe
      cases hb : ks[j]? with
      | none =>
        rw [hb] at qe
        exact nomatch (show some en = none from qe)
      | some b =>
        rw [hb] at qe
        have e2 : en = entryOfKey (nestedKind X.prog X.w) b := Option.some.inj qe
        rw [hv, e2]
        all_goals rfl
  have eb : acc'.toList = (ks.map fun x => x.2.1).map Value.ref := by rw [ea, List.map_map]; all_goals rfl
  have rv : Vals ((ks.map fun x => x.2.1).map V.ref) acc'.toList := by rw [eb]; exact vals_refs _
  have hz : ((ks.map fun x => x.2.1).map V.ref).length ≤ sizeLine := by rw [List.length_map, List.length_map]; omega
  have em : ((ks.map fun x => x.2.1).map V.ref) = kvs.map fun e => V.ref e.2.1 := by rw [dx_addrs pr, List.map_map]; all_goals rfl
  refine ⟨.ref s.heap.objs.size, _, I.laid (t' := tk) (o := .lst ((ks.map fun x => x.2.1).map V.ref)) kp (Nat.le_refl _) ?_, rfl, ?_⟩
  · exact ⟨hz, acc'.toList, c', rv, by rw [Array.toArray_toList]; exact e⟩
  · rw [em]
    exact q _ (I.hok.fresh (Nat.le_refl _))
/-! for k in d -/
def Itx (P : Program) (w : World) (d : Addr) (o : Obj) (kvs : List DxE) : It :=
  ⟨fun i H => H d = some (.frz o (DXo P w kvs d)) ∧ i < kvs.length, fun i H x H' => H' = H ∧ ∃ e : DxE, kvs[i]? = some e ∧ x = .ref e.2.1, fun i H => H d = some (.frz o (DXo P w kvs d)) ∧ kvs.length ≤ i⟩
theorem frzX {pins : List (Addr × Obj)} {σ : L2.St} {H : Hp} {s : Shared} {d : Addr} {o : Obj} {kvs : List DxE} (I : Inv X pins σ H s) (h : H d = some (.frz o (DXo X.prog X.w kvs d))) :
    (d == sysModules) = false ∧ s.heap.get? d = some o ∧ o.ExactDict ∧ ∃ (es : Array DictEntry) (ep : Nat), o.data = .dict es ep ∧ es.size = kvs.length ∧
      ∀ (i : Nat) (e : DxE), kvs[i]? = some e → ∃ en : DictEntry, es[i]? = some en ∧ en.key = .ref e.2.1 := by
  obtain ⟨hd, ⟨z, hs, xs, pr, o', es, ep, ho, hx, hdt, he, _⟩, _⟩ := I.hok d _ h
  rw [hd] at ho
  cases ho
  refine ⟨hs, hd, hx, es, ep, hdt, ?_, fun i e hi => ?_⟩
  · have l1 : es.size = xs.length := size_of_entries he
    have l2 : kvs.length = xs.length := Paired.length pr
    omega
  · obtain ⟨b, hb, e1, e2, _⟩ := paired_get pr hi
    have q := entry_at he i
    rw [hb] at q
    refine ⟨_, q, ?_⟩
    rw [← e2]
    rfl
theorem turn_keysX {P : Program} {w : World} {K : PySem.W.Frag} {tg : Expr} {d : Addr} {o : Obj} {es : Array DictEntry} {ep : Nat} {kvs : List DxE} (it : Addr) (hod : o.data = .dict es ep) : Turn P w K tg (Itx P w d o kvs) [it] it (fun i h => h.IsKeyIter it d i kvs.length ep) where
  mem := by simp
  obj := fun i h st b hb => by
    have e : b = it := by simpa using hb
    subst e
    obtain ⟨oi, e, c, dd⟩ := st
    exact ⟨oi, e, fun v z => by rw [dd] at z; cases z⟩
  keep := fun i h h' st k => st.at fun oi e => k it (by simp) oi e
  item := by
    intro X hP hw hK hc i pins s σ H E I hf st hg
    subst hP hw hK
    obtain ⟨hd, hi⟩ := hg
    obtain ⟨f0, f1, f2, f3, f4, f5⟩ := hf it (by simp)
    obtain ⟨hs, hgd, hx, es', ep', hdt, hsz, ent⟩ := frzX I hd
    obtain ⟨rfl, rfl⟩ := dict_ep hod hdt
    have hkv := List.getElem?_eq_getElem hi
    obtain ⟨en, hen, hkey⟩ := ent i _ hkv
    refine next_key_item st hgd hdt hsz hen fun h' st' sb => ?_
    have I1 : Inv X pins σ H { s with heap := h' } := I.turned (t' := s.toks) (fun b ob hb e => (sb.2 b hb).trans e) f0 f1 f3 f4 f5
    obtain ⟨oi, e, c, dd⟩ := id st'
    exact ⟨en.key, rfl, go_of (s := { s with heap := h' }) e c dd (by decide) ⟨.ref _, H, I1, hkey, ⟨rfl, _, hkv, rfl⟩, st', fun b hb => (hf b hb).1⟩⟩
  done := by
    intro X hP hw hK hc i pins s σ H E I hf st hg
    subst hP hw hK
    obtain ⟨hd, hi⟩ := hg
    obtain ⟨f0, f1, f2, f3, f4, f5⟩ := hf it (by simp)
    obtain ⟨hs, hgd, hx, es', ep', hdt, hsz, ent⟩ := frzX I hd
    obtain ⟨rfl, rfl⟩ := dict_ep hod hdt
    exact next_key_end (I.ok.hd hc) st hgd hdt hsz hi fun h' eb => ⟨rfl, I.turned (t' := s.toks) (fun b ob hb e => eb b ob hb e) f0 f1 f3 f4 f5⟩
  self := fun A i s Q E st h => wpAny_pyIter_keyiter st h
/-- the dict is locked (tLock, tLockE) -/
def iKeysX (P : Program) (w : World) (td : TE) : TI := fun σ H R => td σ H fun x H1 => ∃ d o kvs, x = .ref d ∧ H1 d = some (.frz o (DXo P w kvs d)) ∧ R (Itx P w d o kvs) H1
theorem pi_keysX {tg e : Expr} {td : TE} (he : PE X e td) : PI X tg e (iKeysX X.prog X.w td) := by
  refine ⟨fun pins s σ H R I h => ?_⟩
  refine thn (he.run pins s σ H _ I h) fun u s1 ⟨x, H1, I1, rx, d, o, kvs, ex, hd, q⟩ => ?_
  subst ex
  obtain rfl : u = Value.ref d := rx
  obtain ⟨hs, hgd, hx, es, ep, hdt, hsz, ent⟩ := frzX I1 hd
  refine iter_keys hs hgd hx hdt (pi_one (tk := s1.toks) I1 _ (turn_keysX _ hdt) ⟨_, Heap.get?_push_size _ rfl, rfl, ?_⟩ q)
  rw [hsz] <;> rfl
theorem walk_keysX {P : Program} {w : World} {d : Addr} {o : Obj} {kvs : List DxE} : Walk (Itx P w d o kvs) kvs.length (fun H => H d = some (.frz o (DXo P w kvs d))) (fun i H x H' => H' = H ∧ ∃ e : DxE, kvs[i]? = some e ∧ x = .ref e.2.1) :=
  ⟨fun _ _ hi q => ⟨q, hi⟩, fun _ q => ⟨q, Nat.le_refl _⟩, fun _ _ _ _ _ _ y => y⟩
end
/-! the rules, the program and the world named -/
section
variable {X : Cx} {P : Program} {w : World} {pos : Pos}
theorem pe_dnewP (hP : X.prog = P) (hw : X.w = w) : PE X (.Dict [] [] pos) (tDNewX P w) := by
  subst hP hw
  exact pe_dnewX
theorem or_inP (hP : X.prog = P) (hw : X.w = w) (hu : X.A.units + 64 < cLine) : OpR X (compareOp .In) (rInX P w false) := by
  subst hP hw
  exact or_inX hu
theorem or_notInP (hP : X.prog = P) (hw : X.w = w) (hu : X.A.units + 64 < cLine) : OpR X (compareOp .NotIn) (rInX P w true) := by
  subst hP hw
  exact or_notInX hu
theorem pe_dgetP {o i : Expr} {td ty : TE} (hP : X.prog = P) (hw : X.w = w) (hu : X.A.units + 64 < cLine) (ho : PE X o td) (hi : PE X i ty) (hs : NoSl i) : PE X (.Subscript o i pos) (tDGetX P w td ty) := by
  subst hP hw
  exact pe_dgetX hu ho hi hs
theorem ps_dputP {o i value : Expr} {pos' : Pos} {td ty tv : TE} (hP : X.prog = P) (hw : X.w = w) (hu : X.A.units + 64 < cLine) (ho : PE X o td) (hi : PE X i ty) (hv : PE X value tv) (hs : swapsWith value (some (.Subscript o i pos')) pos.line X.env = pure false) :
    PS X (.Assign [.Subscript o i pos'] value pos) (sDPutX P w td ty tv) := by
  subst hP hw
  exact ps_dputX hu ho hi hv hs
theorem call_lenP (hP : X.prog = P) (hw : X.w = w) : CallR X (.builtin "len") (rLenX P w) := by
  subst hP hw
  exact call_lenX
theorem call_listP (hP : X.prog = P) (hw : X.w = w) (hc : X.calm = true) : CallR X (.type "list") (rListX P w) := by
  subst hP hw
  exact call_listX hc
theorem pi_keysP {tg e : Expr} {td : TE} (hP : X.prog = P) (hw : X.w = w) (he : PE X e td) : PI X tg e (iKeysX P w td) := by
  subst hP hw
  exact pi_keysX he
end
end S
namespace S
open PySem PySem.Spec PyProof.Rows L2
/-! ### a dict comprehension into a dict of any kind: what the new dict is (o0), what a store does (ST) -/
structure Store (P : Program) (w : World) (A : Around) (o0 : Addr → HO) (ST : Addr → V → V → Hp → (Hp → Prop) → Prop) : Prop where
  new : ∀ (H : Hp) (h : Heap), sysModules < h.objs.size → ObjOk P w H (h.push { cls := .type "dict", data := .dict #[] }) h.objs.size (o0 h.objs.size)
  put : ∀ {X : Cx} {pins : List (Addr × Obj)} {σ : L2.St} {H : Hp} {s : Shared} {D : Addr} {y z : V} {u r : Value} {R : Hp → Prop} {Q : Unit → Shared → Prop} {E : Value → Shared → Prop}, X.prog = P → X.w = w →
    Inv X pins σ H s → RelV y u → RelV z r → ST D y z H R → (∀ s' H', Inv X pins σ H' s' → R H' → Q () s') → wpAny (model P w) A (dictSet D u r) Q E s
def tDcS (o0 : Addr → HO) (ST : Addr → V → V → Hp → (Hp → Prop) → Prop) (wi : TI) (g : TG) (tt : TT) (tk tv : TE) (vs : List Nat) : TE := fun σ H Q => wi σ H fun J H1 => ∀ D, H1 D = none → ∃ W : Nat → Nat → Hp → Prop, (∃ m, W 0 m (upd H1 D (o0 D))) ∧ ∀ i m H, W i m H →
  (J.stop i H ∧ Q (.ref D) H) ∨ (J.go i H ∧ ∃ Nx : Hp → Prop, (∀ H', Nx H' → ∃ m', m' < m ∧ W (i + 1) m' H') ∧ ∀ x H', J.yld i H x H' → g x (wipe σ vs) H' fun σ2 H2 => wipe σ2 vs = wipe σ vs ∧ tt σ2 H2 fun b H3 =>
    if b = true then tk σ2 H3 fun y H4 => tv σ2 H4 fun z H5 => ST D y z H5 Nx else Nx H3)
theorem pe_dcS {X : Cx} {kx vx tg iter : Expr} {ifs : List Expr} {scope : Scope} {own : List (Str × Nat)} {pos : Pos} {wi : TI} {g : TG} {tt : TT} {tk tv : TE} {o0 : Addr → HO} {ST : Addr → V → V → Hp → (Hp → Prop) → Prop} (B : Store X.prog X.w X.A o0 ST)
    (hc : X.calm = true) (hN : X.N.Nodup) (hi : PI X tg iter wi) (ok : BlkOk X.N X.env.scope scope own)
    (hg : ∀ (s : Shared) (H : Hp) (C : Addr) (cl : List (Str × Addr)) (fp : List Addr), PG (X.blk s H scope (compEnvC scope cl C X.env) fp) tg g)
    (ht : ∀ (s : Shared) (H : Hp) (C : Addr) (cl : List (Str × Addr)) (fp : List Addr), PTs (X.blk s H scope (compEnvC scope cl C X.env) fp) ifs tt)
    (hk : ∀ (s : Shared) (H : Hp) (C : Addr) (cl : List (Str × Addr)) (fp : List Addr), PE (X.blk s H scope (compEnvC scope cl C X.env) fp) kx tk)
    (he : ∀ (s : Shared) (H : Hp) (C : Addr) (cl : List (Str × Addr)) (fp : List Addr), PE (X.blk s H scope (compEnvC scope cl C X.env) fp) vx tv) (hs : ∀ x, foldedSetIterable iter X.env x = pure x := by intro _; rfl) :
    PE X (.DictComp kx vx [⟨tg, iter, ifs, 0⟩] scope pos) (tDcS o0 ST wi g tt tk tv (own.map (·.2))) := by
  refine ⟨fun pins s σ H Q I h => ?_⟩
  rw [arm_eval_DictComp]
  have clo : ∀ y ∈ scope.names, y.2 = .free → ∃ c, X.env.cells.lookup y.1 = some c := fun y hy e =>
    (ok.free y hy e).elim (fun k => I.ok.has _ (.inl k)) fun k => I.ok.has _ (.inr k)
  refine wpAny_comprehension_free rfl hs (closure_ok clo) ok.kind (fun y hy e => by rw [ok.uniq y hy, e]) (thn (hi.run pins s σ H _ I h) fun _ s1 hx => thn hx fun _ s2 h2 => ?_)
  obtain ⟨it, fp, tn, J, H2, rfl, I2, T, t2, f2, q⟩ := h2
  refine wpAny_newObj_type (newEnv_comp ?_)
  generalize hD : s2.heap.objs.size = D
  obtain ⟨W, ⟨m0, w0⟩, turn⟩ := q D (I2.hok.fresh (Nat.le_of_eq hD))
  -- behind the new dict
  generalize hs3 : ({ s2 with heap := s2.heap.push { cls := .type "dict", data := .dict #[] } } : Shared) = s3
  have h3 : s3.heap = s2.heap.push { cls := .type "dict", data := .dict #[] } := by rw [← hs3]
  have keep3 : ∀ b o, s2.heap.get? b = some o → s3.heap.get? b = some o := fun b o e => by rw [h3]; exact Heap.get?_push_of_some _ e
  have I3 : Inv X pins σ (upd H2 D (o0 D)) s3 := by
    subst hD hs3
    exact I2.laid (t' := s2.toks) (fun b o e => Heap.get?_push_of_some _ e) (Nat.le_refl _) (B.new _ _ I2.big)
  have f3 : ∀ b ∈ fp, FpOk X pins (upd H2 D (o0 D)) b ∧ b < s3.heap.objs.size := fun b hb => by
    obtain ⟨o, e, _⟩ := T.obj _ _ t2 b hb
    have lt := Heap.lt_size e
    exact ⟨⟨by rw [upd_ne (by rw [← hD]; exact Nat.ne_of_lt lt)]; exact (f2 b hb).1, (f2 b hb).2⟩, by rw [h3, Heap.size_push]; exact Nat.lt_succ_of_lt lt⟩
  have I4 := block_start I3 ok hN f3
  show codeAny _ _ (.compStart _ 0 (.ref it) (.ref D) (compEnvC scope (cellsFrom (s3.heap.objs.size + 1) scope.names (cloFrom X.env.cells scope.names [])) s3.heap.objs.size X.env)) _ { s3 with heap := pushCells (s3.heap.push { cls := .type "dict", data := .dict #[] }) scope.names }
  generalize hH3 : upd H2 D (o0 D) = H3 at I3 f3 I4 w0
  generalize hcl : cellsFrom (s3.heap.objs.size + 1) scope.names (cloFrom X.env.cells scope.names []) = cl at I4 ⊢
  have pg := hg s3 H3 s3.heap.objs.size cl fp
  have pt := ht s3 H3 s3.heap.objs.size cl fp
  have pk := hk s3 H3 s3.heap.objs.size cl fp
  have pe := he s3 H3 s3.heap.objs.size cl fp
  have cL : (compEnvC scope cl s3.heap.objs.size X.env).locals = s3.heap.objs.size := rfl
  have done : ∀ (s' : Shared) (m : _) (H' : Hp), Inv X pins σ H' s' → Q (.ref D) H' → s'.heap.Ns s3.heap.objs.size m → FpOk X pins H' s3.heap.objs.size → compPost (model X.prog X.w) X.A X.xe none (fun v s => ∃ x H', Inv X pins σ H' s ∧ RelV x v ∧ Q x H') (.ref D) s3.heap.objs.size (.ok .next) s' := fun s' m H' I' q' hn f => by
    obtain ⟨f0, f1, f2, f3, f4, f5⟩ := f
    exact ⟨m, hn, fun h'' sb => ⟨.ref D, H', I'.turned (t' := s'.toks) (fun b o hb e => (sb.2 b hb).trans e) f0 f1 f3 f4 f5, rfl, q'⟩⟩
  generalize compEnvC scope cl s3.heap.objs.size X.env = ce at I4 pg pt pk pe cL ⊢
  generalize hs4 : ({ s3 with heap := pushCells (s3.heap.push { cls := .type "dict", data := .dict #[] }) scope.names } : Shared) = s4 at I4 ⊢
  have t4 : tn 0 s4.heap := T.keep _ _ _ t2 fun b _ o e => by rw [← hs4]; exact pushCells_keeps _ _ _ _ (Heap.get?_push_of_some _ (keep3 b o e))
  -- the iterator's own objects, in the block
  have own_ : ∀ {σ' : L2.St} {H' : Hp} {s' : Shared}, Inv (X.blk s3 H3 scope ce fp) [] σ' H' s' → (∀ b ∈ fp, H' b = none) → ∀ b ∈ fp, FpOk (X.blk s3 H3 scope ce fp) [] H' b := fun I' hn b hb =>
    ⟨hn b hb, (I'.ok.exf b hb).1, I'.ok.exfs b hb, .inl hb, fun x c e => (I'.ok.exf b hb).2 x c e, fun p hp => absurd (show p ∈ ([] : List (Addr × Obj)) ++ [] from hp) (by simp)⟩
  let In : Nat → Shared → Prop := fun n s' => ∃ i H', Inv (X.blk s3 H3 scope ce fp) [] (wipe σ (own.map (·.2))) H' s' ∧ tn i s'.heap ∧ (∀ b ∈ fp, H' b = none) ∧ W i n H'
  have loop := compLoop_anyD (prog := X.prog) (w := X.w) (A := X.A) (R := compPost (model X.prog X.w) X.A X.xe none (fun v s => ∃ x H', Inv X pins σ H' s ∧ RelV x v ∧ Q x H') (.ref D) s3.heap.objs.size) (kx := kx) (vx := vx) (target := tg) (iter := iter) (ifs := ifs) (scope := scope) (pos := pos) (it := .ref it) (D := D) (env := ce) In ?turn m0 ⟨0, H3, I4, t4, fun b hb => (f3 b hb).1.1, w0⟩ (s := s4)
  case turn =>
    rintro n s5 ⟨i, H5, I5, t5, n5, w5⟩
    rcases turn i n H5 w5 with ⟨st, qq⟩ | ⟨go, Nx, hNx, step⟩
    · refine thnF (T.done (X.blk s3 H3 scope ce fp) rfl rfl rfl hc i [] s5 _ H5 (fun _ _ => False) I5 (own_ I5 n5) t5 st) fun _ s6 ⟨hr, I6⟩ => ?_
      subst hr
      obtain ⟨m, hn, _⟩ := I6.loc
      have free : H5 ce.locals = none := I6.free
      rw [cL] at free
      have hn' : s6.heap.Ns ce.locals m := hn
      rw [cL] at hn'
      refine done s6 m H5 (I3.call' (ch := fp) I6.os I6.base I6.hok I6.bare fun b hb => ?_) qq hn' (I3.fpOk (Nat.le_refl _) free)
      obtain ⟨_, g1, g2, g3, g4, g5⟩ := (f3 b hb).1
      exact ⟨g3, g1, g4, g5⟩
    · refine thnF (T.item (X.blk s3 H3 scope ce fp) rfl rfl rfl hc i [] s5 _ H5 (fun _ _ => False) I5 (own_ I5 n5) t5 go) fun _ s6 ⟨u, hr, h6⟩ => ?_
      subst hr
      refine thnF h6 fun _ s7 ⟨x, H7, I7, r7, y7, t7, n7⟩ => ?_
      have back : ∀ {σ8 : L2.St} {s' : Shared} {H' : Hp}, wipe σ8 (own.map (·.2)) = wipe σ (own.map (·.2)) → Inv (X.blk s3 H3 scope ce fp) ([] ++ pinsAt fp s7.heap) σ8 H' s' → Nx H' → ∃ m, m < n ∧ In m s' := fun {σ8 s' H'} hw I' nx => by
        obtain ⟨m', hm, w'⟩ := hNx H' nx
        have pin : ∀ b ∈ fp, ∀ o, s7.heap.get? b = some o → s'.heap.get? b = some o ∧ H' b = none := fun b hb o e =>
          let z := I'.pin (b, o) (List.mem_append_right _ (List.mem_append_right _ (mem_pinsAt hb e)))
          ⟨z.1, z.2.1⟩
        refine ⟨m', hm, i + 1, H', (I'.unpinned (pins := [])).weak (by rw [← hw, wipe_length]) (fun j v e => ?_), T.keep _ _ _ t7 fun b hb o e => (pin b hb o e).1, fun b hb => ?_, w'⟩
        · rw [← hw] at e
          exact (wipe_some e).1
        · obtain ⟨o, e, _⟩ := T.obj _ _ t7 b hb
          exact (pin b hb o e).2
      refine thnF (pg.run _ s7 _ H7 x u _ (I7.pinned (own_ I7 n7) (T.obj _ _ t7)) r7 (step x H7 y7)) fun _ s8 ⟨σ8, H8, I8, hw8, q8⟩ => ?_
      refine thnF (pt.run _ s8 σ8 H8 _ I8 q8) fun b s9 ⟨H9, I9, q9⟩ => ?_
      cases b with
      | false => exact back hw8 I9 q9
      | true => exact thnF (pk.run _ s9 σ8 H9 _ I9 q9) fun _ s10 ⟨yk, H10, I10, r10, q10⟩ => thnF (pe.run _ s10 σ8 H10 _ I10 q10) fun _ s11 ⟨yv, H11, I11, r11, q11⟩ => B.put (X := X.blk s3 H3 scope ce fp) rfl rfl I11 r10 r11 q11 fun s12 H12 I12 nx => back hw8 I12 nx
  exact codeAny_compStart_dict loop (T.self X.A 0 _ _ _ t4 loop)
/-- the walk of it -/
theorem dcS_it {J : It} {n : Nat} {G : Hp → Prop} {Y : Nat → Hp → V → Hp → Prop} (w : Walk J n G Y) {o0 : Addr → HO} {ST : Addr → V → V → Hp → (Hp → Prop) → Prop} {g : TG} {tt : TT} {tk tv : TE} {vs : List Nat} {σ : L2.St} {H1 : Hp} {D : Addr} {Qd : Hp → Prop}
    (Pv : Nat → Hp → Prop) (h0 : Pv 0 (upd H1 D (o0 D))) (hG : ∀ i H, i ≤ n → Pv i H → G H)
    (hs : ∀ i x H H', i < n → Pv i H → Y i H x H' → g x (wipe σ vs) H' fun σ2 H2 => wipe σ2 vs = wipe σ vs ∧ tt σ2 H2 fun b H3 =>
      if b = true then tk σ2 H3 fun y H4 => tv σ2 H4 fun z H5 => ST D y z H5 (Pv (i + 1)) else Pv (i + 1) H3) (hd : ∀ H, Pv n H → Qd H) :
    ∃ W : Nat → Nat → Hp → Prop, (∃ m, W 0 m (upd H1 D (o0 D))) ∧ ∀ i m H, W i m H →
      (J.stop i H ∧ Qd H) ∨ (J.go i H ∧ ∃ Nx : Hp → Prop, (∀ H', Nx H' → ∃ m', m' < m ∧ W (i + 1) m' H') ∧ ∀ x H', J.yld i H x H' → g x (wipe σ vs) H' fun σ2 H2 => wipe σ2 vs = wipe σ vs ∧ tt σ2 H2 fun b H3 =>
        if b = true then tk σ2 H3 fun y H4 => tv σ2 H4 fun z H5 => ST D y z H5 Nx else Nx H3) := by
  refine ⟨fun i m H => m = n - i ∧ i ≤ n ∧ Pv i H, ⟨n, by simp, Nat.zero_le _, h0⟩, ?_⟩
  rintro i m H ⟨rfl, hi, p⟩
  by_cases lt : i < n
  · exact .inr ⟨w.goes i H lt (hG i H hi p), Pv (i + 1), fun H' p' => ⟨n - (i + 1), by omega, rfl, lt, p'⟩, fun x H' y => hs i x H H' lt p (w.yields i H x H' lt (hG i H hi p) y)⟩
  · have e : i = n := by omega
    subst e
    exact .inl ⟨w.stops H (hG _ H hi p), hd H p⟩
/-- a store into a dict with tuple keys -/
def STx (P : Program) (w : World) : Addr → V → V → Hp → (Hp → Prop) → Prop := fun D y z H R => ∃ (b : Addr) (ks : List V) (kvs : List DxE), y = .ref b ∧ KeyAt H b ks ∧ H D = some (DXo P w kvs D) ∧ KeysAt H kvs ∧ kvs.length < sizeLine ∧ R (upd H D (DXo P w (dxPut kvs ks b z) D))
theorem store_x {P : Program} {w : World} {A : Around} (hu : A.units + 64 < cLine) : Store P w A (DXo P w []) (STx P w) where
  new := fun H h hb => dx_empty h hb
  put := by
    intro X pins σ H s D y z u r R Q E hP hw I ry rz h k
    subst hP hw
    obtain ⟨b, ks, kvs, rfl, kb, hd, ka, hl, q⟩ := h
    obtain rfl : u = Value.ref b := ry
    obtain ⟨zz, hsm, xs, rr, m⟩ := dx_of I.hok (.inl hd) ka
    have hz : xs.length ≤ sizeLine := by rw [← Paired.length rr]; exact zz
    have hl2 : (dxPut kvs ks b z).length ≤ sizeLine := by have := dxPut_len kvs ks b z; omega
    refine wpAny_dictSet_heap (hsz := hz) (knd := nestedKind X.prog X.w) (show A.units + 8 < cLine by omega) (nk_is I.hok kb.1 kb.2) m fun h' m' hsb => k _ _ ?_ q
    have he : ∃ q, h'.get? D = some q := let ⟨q, _, _, hq, _⟩ := m'; ⟨q, hq⟩
    exact d_write I (by rw [hd]; exact True.intro) hsb he (dx_new hl2 hsm (dx_put rr ks b rz) m')
/-! name = {..}, the name a local -/
section
variable {X : Cx}
theorem ps_setDc {i : Nat} {y : Str} {py : Pos} {kx vx tg iter : Expr} {ifs : List Expr} {scope : Scope} {own : List (Str × Nat)} {pos spos : Pos} {wi : TI} {g : TG} {tt : TT} {tk tv : TE} (hc : X.calm = true) (hN : X.N.Nodup) (hy : X.N[i]? = some y) (hyl : X.env.scope.names.lookup y = some .local)
    (hsw : swapsWith (.DictComp kx vx [⟨tg, iter, ifs, 0⟩] scope pos) (some (.Name y py)) spos.line X.env = pure true) (hi : PI X tg iter wi) (ok : BlkOk X.N X.env.scope scope own)
    (hg : ∀ (s : Shared) (H : Hp) (C : Addr) (cl : List (Str × Addr)) (fp : List Addr), PG (X.blk s H scope (compEnvC scope cl C X.env) fp) tg g) (ht : ∀ (s : Shared) (H : Hp) (C : Addr) (cl : List (Str × Addr)) (fp : List Addr), PTs (X.blk s H scope (compEnvC scope cl C X.env) fp) ifs tt)
    (hk : ∀ (s : Shared) (H : Hp) (C : Addr) (cl : List (Str × Addr)) (fp : List Addr), PE (X.blk s H scope (compEnvC scope cl C X.env) fp) kx tk)
    (he : ∀ (s : Shared) (H : Hp) (C : Addr) (cl : List (Str × Addr)) (fp : List Addr), PE (X.blk s H scope (compEnvC scope cl C X.env) fp) vx tv) (hs : ∀ x, foldedSetIterable iter X.env x = pure x := by intro _; rfl) :
    PS X (.Assign [.Name y py] (.DictComp kx vx [⟨tg, iter, ifs, 0⟩] scope pos) spos) (tAsg (tDc wi g tt tk tv (own.map (·.2))) (gName i)) := by
  refine ⟨fun pins s σ H D I h => ?_⟩
  rw [exec_Assign_Name_used _ _ _ _ hsw]
  refine wpAny_bind (wpAny_standAt (wpAny_bind ?_))
  show wpAny _ X.A (do let _ ← comprehension (.DictComp kx vx [⟨tg, iter, ifs, 0⟩] scope pos) scope X.env (firstIterPos [⟨tg, iter, ifs, 0⟩] pos) newDict false (eval iter X.env) (some (assign (.Name y py) X.env))) _ _ s
  have h : tDc wi g tt tk tv (own.map (·.2)) σ H (fun x H1 => gName i x σ H1 D.nx) := h
  refine wpAny_bind (thn (dc_core (Qf := fun _ s' => SP X pins D .next s') hc hN I hi ok hg ht hk he hs h fun L C s' m H' I' q hn f => ?_) fun _ s' hq => wpAny_pure (wpAny_pure hq))
  show wpAny _ _ (assign (.Name y py) X.env (.ref L)) _ _ _
  obtain ⟨f0, f1, f2, f3, f4, f5⟩ := f
  refine wpAny_assign_Name (store_ok2 (v := V.ref L) I' hN hy (.inl hyl) rfl (fun s2 I2 ⟨a, sb, ha⟩ => ?_) (.inr hyl))
  have haC : C ≠ a := ha.elim (fun z => by rw [z]; exact f1) fun z e => f4 y a z e.symm
  exact ⟨m, hn.sameBut sb haC, fun h3 sb3 => ⟨_, H', I2.turned (t' := s2.toks) (fun b o hb e => (sb3.2 b hb).trans e) f0 f1 f3 f4 f5, q⟩⟩
theorem sw_trueD {kx vx : Expr} {gs : List Comprehension} {scope : Scope} {pos py : Pos} {y : Str} {l : Nat} {env : Env} (hk : env.scope.kind = .function) (hy : env.scope.names.lookup y = some .local) (hl : (py.line == pos.line) = true)
    (ha : (scope.names.any fun (n, k) => n == y && (k == .local || k == .cell)) = false) : swapsWith (.DictComp kx vx gs scope pos) (some (.Name y py)) l env = pure true := by
  have ky : env.kindOf y = some .local := hy
  have hb : env.blockKind = .function := by unfold Env.blockKind; rw [hk]; rfl
  unfold swapsWith
  simp only [hb, ky, ha, Expr.pos, hl]
  rfl
end
end S
namespace S
open PySem PySem.Spec PyProof.Rows L2
/-! ### dicts whose keys are tuples, and tuples in these -/
mutual
/-- the value is the key -/
inductive NkV (H : Hp) : V → NestedKey → Prop where
  | non : NkV H .non .none
  | bl (b : Bool) : NkV H (.bl b) (.num (if b = true then 1 else 0))
  | int (i : Int) : NkV H (.int i) (.num i)
  | str (z : Str) : NkV H (.str z) (.text z)
  | tup {a : Addr} {xs : List V} {ks : List NestedKey} (h : H a = some (.tup xs)) (t : NkVs H xs ks) : NkV H (.ref a) (.tup ks)
inductive NkVs (H : Hp) : List V → List NestedKey → Prop where
  | nil : NkVs H [] []
  | cons {x : V} {xs : List V} {k : NestedKey} {ks : List NestedKey} (h : NkV H x k) (t : NkVs H xs ks) : NkVs H (x :: xs) (k :: ks)
end
theorem NkV.same {H H' : Hp} {x : V} {k : NestedKey} (h : NkV H x k) (s : Same H H') : NkV H' x k :=
  NkV.rec (motive_1 := fun x k _ => NkV H' x k) (motive_2 := fun xs ks _ => NkVs H' xs ks) .non .bl .int .str (fun h _ t => .tup (s _ _ h) t) .nil (fun _ _ h t => .cons h t) h
theorem NkV.is {P : Program} {w : World} {H : Hp} {h : Heap} (ok : HOk P w H h) {x : V} {k : NestedKey} (q : NkV H x k) : ∀ {u : Value}, RelV x u → NestedIs h k u := by
  refine NkV.rec (motive_1 := fun x k _ => ∀ {u : Value}, RelV x u → NestedIs h k u) (motive_2 := fun xs ks _ => ∀ {us : List Value}, Vals xs us → NestedAll h ks us) ?_ ?_ ?_ ?_ ?_ ?_ ?_ q
  · intro u r; cases r; exact .none
  · intro b u r; cases r; exact .bool rfl
  · intro i u r; obtain ⟨t, rfl⟩ := r; exact .int i t
  · intro z u r; obtain ⟨t, rfl⟩ := r; exact .text z t
  · intro a xs ks e _ ih u r
    cases r
    obtain ⟨_, its, r, o, h1, h2, n, h3⟩ := (show ObjOk P w H h a (.tup xs) from ok a _ e)
    exact .tup h1 h2 h3 (by simpa using ih r)
  · intro us r; cases r; exact .nil
  · intro x xs k ks _ _ ih1 ih2 us r
    cases r with
    | cons r1 r2 => exact .cons (ih1 r1) (ih2 r2)
def NKey (H : Hp) (b : Addr) (k : NestedKey) : Prop := NkV H (.ref b) k ∧ k.depth ≤ 8
theorem NKey.same {H H' : Hp} {b : Addr} {k : NestedKey} (h : NKey H b k) (s : Same H H') : NKey H' b k := ⟨h.1.same s, h.2⟩
theorem nkey_is {P : Program} {w : World} {H : Hp} {h : Heap} (ok : HOk P w H h) {b : Addr} {k : NestedKey} (q : NKey H b k) : (nestedKind P w).is h k b := ⟨q.1.is ok rfl, q.2⟩
theorem nkVs_flat {H : Hp} : ∀ {xs : List V}, (∀ v ∈ xs, flV v = true) → NkVs H xs (xs.map nkV)
  | [], _ => .nil
  | x :: xs, f => by
    refine .cons ?_ (nkVs_flat fun v hv => f v (List.mem_cons_of_mem _ hv))
    have f1 := f x List.mem_cons_self
    cases x with
    | non => exact .non
    | bl b => exact .bl b
    | int i => exact .int i
    | str z => exact .str z
    | _ => cases f1
theorem KeyAt.n {H : Hp} {b : Addr} {ks : List V} (h : KeyAt H b ks) : NKey H b (nkL ks) := ⟨.tup h.1 (nkVs_flat h.2), nk_depth ks⟩
abbrev DnE := NestedKey × Addr × V
def DnR (p : DnE) (q : NestedKey × Addr × Value) : Prop := q.1 = p.1 ∧ q.2.1 = p.2.1 ∧ RelV p.2.2 q.2.2
/-- the dict at d: its keys, where their tuples stand, its values -/
def DNo (P : Program) (w : World) (kvs : List DnE) (d : Addr) : HO := .ext fun h => kvs.length ≤ sizeLine ∧ (d == sysModules) = false ∧ ∃ xs : List (NestedKey × Addr × Value), Paired DnR kvs xs ∧
  ∃ o es ep, h.get? d = some o ∧ o.ExactDict ∧ o.data = .dict es ep ∧ es.toList = xs.map (entryOfKey (nestedKind P w)) ∧ (xs.map (·.1)).Nodup
def NKeysAt (H : Hp) (kvs : List DnE) : Prop := ∀ e ∈ kvs, NKey H e.2.1 e.1
theorem NKeysAt.same {H H' : Hp} {kvs : List DnE} (h : NKeysAt H kvs) (s : Same H H') : NKeysAt H' kvs := fun e he => (h e he).same s
def dnGet (kvs : List DnE) (k : NestedKey) : Option V := (kvs.find? fun e => decide (e.1 = k)).map (·.2.2)
def dnPut (kvs : List DnE) (k : NestedKey) (b : Addr) (v : V) : List DnE := if (dnGet kvs k).isSome then kvs.map fun e => if e.1 = k then (e.1, e.2.1, v) else e else kvs ++ [(k, b, v)]
section
variable {P : Program} {w : World} {H : Hp} {h : Heap} {d b : Addr} {kvs : List DnE}
theorem dn_of (ok : HOk P w H h) (e : Rd H d (DNo P w kvs d)) (t : NKeysAt H kvs) : kvs.length ≤ sizeLine ∧ (d == sysModules) = false ∧ ∃ xs, Paired DnR kvs xs ∧ h.DictOfH (nestedKind P w) d xs := by
  obtain ⟨⟨z, y, xs, r, o, es, ep, h1, h2, h3, h4, h5⟩, _⟩ := (show ObjOk P w H h d (DNo P w kvs d) from rd_of ok e)
  refine ⟨z, y, xs, r, o, es, ep, h1, h2, h3, h4, fun x hx => ?_, h5⟩
  have all : ∀ {l : List DnE} {m : List (NestedKey × Addr × Value)}, Paired DnR l m → NKeysAt H l → ∀ x ∈ m, (nestedKind P w).is h x.1 x.2.1 := by
    intro l m q
    induction q with
    | nil => intro _ x hx; exact nomatch hx
    | @cons p q ps qs hq t ih =>
      intro k x hx
      rcases List.mem_cons.mp hx with e | hx
      · subst e
        rw [hq.1, hq.2.1]
        exact nkey_is ok (k p List.mem_cons_self)
      · exact ih (fun e he => k e (List.mem_cons_of_mem _ he)) x hx
  exact all r t x hx
theorem dn_val {xs : List (NestedKey × Addr × Value)} (r : Paired DnR kvs xs) (k : NestedKey) : RelO (dnGet kvs k) ((atKey xs (k)).map (·.2)) := by
  unfold dnGet atKey
  induction r with
  | nil => exact True.intro
  | @cons p q ps qs hq t ih =>
    rw [List.find?_cons, List.find?_cons, hq.1]
    by_cases c : p.1 = k
    · rw [decide_eq_true c]
      exact hq.2.2
    · rw [decide_eq_false c]
      exact ih
theorem dn_none {xs : List (NestedKey × Addr × Value)} (r : Paired DnR kvs xs) (k : NestedKey) : (dnGet kvs k).isSome = (atKey xs (k)).isSome := by
  have := (dn_val r k).isSome_eq
  rw [Option.isSome_map] at this
  exact this
theorem dnPut_len (kvs : List DnE) (k : NestedKey) (b : Addr) (v : V) : (dnPut kvs k b v).length ≤ kvs.length + 1 := by
  unfold dnPut
  split
  · rw [List.length_map]; omega
  · rw [List.length_append]; exact Nat.le_refl _
theorem dn_put {xs : List (NestedKey × Addr × Value)} (r : Paired DnR kvs xs) (k : NestedKey) (b : Addr) {v : V} {u : Value} (rv : RelV v u) : Paired DnR (dnPut kvs k b v) (storedH xs (k) b u) := by
  have e := dn_none r k
  unfold dnPut storedH
  rw [e]
  by_cases q : (atKey xs (k)).isSome = true
  · rw [if_pos q, if_pos q]
    clear e q
    induction r with
    | nil => exact .nil
    | @cons p q ps qs hq t ih =>
      refine .cons ?_ ih
      show DnR (if p.1 = k then (p.1, p.2.1, v) else p) (putAt (k) u q)
      unfold putAt
      by_cases c : p.1 = k
      · rw [if_pos c, if_pos (hq.1.trans c)]
        exact ⟨hq.1, hq.2.1, rv⟩
      · rw [if_neg c, if_neg (fun z => c (hq.1.symm.trans z))]
        exact hq
  · rw [if_neg q, if_neg q]
    exact Paired.snoc r ⟨rfl, rfl, rv⟩
theorem dn_new {xs : List (NestedKey × Addr × Value)} (z : kvs.length ≤ sizeLine) (y : (d == sysModules) = false) (r : Paired DnR kvs xs) (m : h.DictOfH (nestedKind P w) d xs) : ObjOk P w H h d (DNo P w kvs d) := by
  obtain ⟨o, es, ep, h1, h2, h3, h4, _, h5⟩ := m
  refine ⟨⟨z, y, xs, r, o, es, ep, h1, h2, h3, h4, h5⟩, ⟨o, h1⟩, fun g1 g2 p k => ?_⟩
  obtain ⟨z, y, xs, r, o, es, ep, h1, h2⟩ := p
  exact ⟨z, y, xs, r, o, es, ep, k o h1, h2⟩
theorem dn_empty (h : Heap) (hb : sysModules < h.objs.size) : ObjOk P w H (h.push { cls := .type "dict", data := .dict #[] }) h.objs.size (DNo P w [] h.objs.size) :=
  dn_new (Nat.zero_le _) (beq_eq_false_iff_ne.mpr (Ne.symm (Nat.ne_of_lt hb))) .nil (Heap.DictOfH.new h)
end
/-! the rules -/
/-- {}: a dict of this kind -/
def tDNewN (P : Program) (w : World) : TE := fun _ H Q => ∀ p, H p = none → Q (.ref p) (upd H p (DNo P w [] p))
def rInN (P : Program) (w : World) (neg : Bool) : V → V → Hp → VK → Prop := fun x y H Q => ∃ (b d : Addr) (ks : NestedKey) (kvs : List DnE), x = .ref b ∧ NKey H b ks ∧ y = .ref d ∧ Rd H d (DNo P w kvs d) ∧ NKeysAt H kvs ∧
  Q (.bl (if neg then !(dnGet kvs ks).isSome else (dnGet kvs ks).isSome)) H
def tDGetN (P : Program) (w : World) (td ty : TE) : TE := fun σ H Q => td σ H fun x H1 => ty σ H1 fun y H2 => ∃ (b d : Addr) (ks : NestedKey) (kvs : List DnE) (v : V), x = .ref d ∧ Rd H2 d (DNo P w kvs d) ∧ NKeysAt H2 kvs ∧ y = .ref b ∧ NKey H2 b ks ∧ dnGet kvs ks = some v ∧ Q v H2
def sDPutN (P : Program) (w : World) (td ty tv : TE) : TS := fun D σ H => tv σ H fun v H1 => td σ H1 fun x H2 => ty σ H2 fun y H3 => ∃ (b d : Addr) (ks : NestedKey) (kvs : List DnE), x = .ref d ∧ H3 d = some (DNo P w kvs d) ∧ NKeysAt H3 kvs ∧ y = .ref b ∧ NKey H3 b ks ∧ kvs.length < sizeLine ∧
  D.nx σ (upd H3 d (DNo P w (dnPut kvs ks b v) d))
section
variable {X : Cx} {pos : Pos}
theorem pe_dnewN : PE X (.Dict [] [] pos) (tDNewN X.prog X.w) := ⟨fun pins s σ H Q I h =>
  wpAny_Dict_empty ⟨.ref s.heap.objs.size, _, I.laid (a := s.heap.objs.size) (o := DNo X.prog X.w [] s.heap.objs.size) (t' := s.toks) (fun _ _ q => Heap.get?_push_of_some _ q) (Nat.le_refl _) (dn_empty s.heap I.big), rfl, h _ (I.hok.fresh (Nat.le_refl _))⟩⟩
theorem or_inN (hu : X.A.units + 64 < cLine) : OpR X (compareOp .In) (rInN X.prog X.w false) := by
  intro pins s σ H x y v u Q I rx ry h
  obtain ⟨b, d, ks, kvs, rfl, kb, rfl, hd, ka, q⟩ := h
  cases rx
  cases ry
  obtain ⟨z, hs, xs, r, m⟩ := dn_of I.hok hd ka
  refine wpAny_in_heap (room8 hu) (nkey_is I.hok kb) hs m ⟨.bl (dnGet kvs ks).isSome, H, I.tok _, ?_, q⟩
  show Value.bool _ = Value.bool _
  rw [dn_none r]
theorem or_notInN (hu : X.A.units + 64 < cLine) : OpR X (compareOp .NotIn) (rInN X.prog X.w true) := by
  intro pins s σ H x y v u Q I rx ry h
  obtain ⟨b, d, ks, kvs, rfl, kb, rfl, hd, ka, q⟩ := h
  cases rx
  cases ry
  obtain ⟨z, hs, xs, r, m⟩ := dn_of I.hok hd ka
  refine wpAny_notIn_heap (room8 hu) (nkey_is I.hok kb) hs m ⟨.bl (!(dnGet kvs ks).isSome), H, I.tok _, ?_, q⟩
  show Value.bool _ = Value.bool _
  rw [dn_none r]
theorem pe_dgetN {o i : Expr} {td ty : TE} (hu : X.A.units + 64 < cLine) (ho : PE X o td) (hi : PE X i ty) (hs : NoSl i) : PE X (.Subscript o i pos) (tDGetN X.prog X.w td ty) := by
  refine ⟨fun pins s σ H Q I h => ?_⟩
  refine subD_of PySem.F.slot_dict_getitem.lookup hs (thn (ho.run pins s σ H _ I h) fun u s1 ⟨x, H1, I1, rx, q1⟩ => thn (hi.run pins s1 σ H1 _ I1 q1) fun iv s2 ⟨y, H2, I2, ry, b, d, ks, kvs, v, ex, hd, ka, ey, kb, g, q2⟩ => ?_)
  subst ex ey
  obtain rfl : u = Value.ref d := rx
  obtain rfl : iv = Value.ref b := ry
  obtain ⟨z, hs, xs, r, m⟩ := dn_of I2.hok hd ka
  obtain ⟨w', hw, rw'⟩ := RelO.some_of (v := v) (o := (atKey xs (ks)).map (·.2)) (by rw [← g]; exact dn_val r ks)
  obtain ⟨p, hp, hp2⟩ := Option.map_eq_some_iff.mp hw
  refine ⟨m.typeIs, wpAny_getItem_heap (room8 hu) (nkey_is I2.hok kb) m hp ?_⟩
  rw [hp2]
  exact ⟨v, H2, I2.tok _, rw', q2⟩
theorem ps_dputN {o i value : Expr} {pos' : Pos} {td ty tv : TE} (hu : X.A.units + 64 < cLine) (ho : PE X o td) (hi : PE X i ty) (hv : PE X value tv) (hs : swapsWith value (some (.Subscript o i pos')) pos.line X.env = pure false) :
    PS X (.Assign [.Subscript o i pos'] value pos) (sDPutN X.prog X.w td ty tv) := by
  refine ⟨fun pins s σ H D I h => ?_⟩
  refine wpAny_Assign_Subscript (thn (hv.run pins s σ H _ I h) fun r s1 ⟨v, H1, I1, rv, q1⟩ => thn (ho.run pins s1 σ H1 _ I1 q1) fun u s2 ⟨x, H2, I2, rx, q2⟩ => thn (hi.run pins s2 σ H2 _ I2 q2) fun iv s3 ⟨y, H3, I3, ry, b, d, ks, kvs, ex, hd, ka, ey, kb, hl, q3⟩ => ?_) hs
  subst ex ey
  obtain rfl : u = Value.ref d := rx
  obtain rfl : iv = Value.ref b := ry
  obtain ⟨z, hsm, xs, rr, m⟩ := dn_of I3.hok (.inl hd) ka
  have hz : xs.length ≤ sizeLine := by rw [← Paired.length rr]; exact z
  have hl2 : (dnPut kvs ks b v).length ≤ sizeLine := by have := dnPut_len kvs ks b v; omega
  refine wpAny_setItem_heap (hsz := hz) (room8 hu) (nkey_is I3.hok kb) m fun h' m' hsb => ⟨σ, _, ?_, q3⟩
  have he : ∃ q, h'.get? d = some q := let ⟨q, _, _, hq, _⟩ := m'; ⟨q, hq⟩
  exact d_write I3 (by rw [hd]; exact True.intro) hsb he (dn_new hl2 hsm (dn_put rr ks b rv) m')
def rLenN (P : Program) (w : World) : List V → Hp → VK → Prop := fun xs H Q => ∃ d kvs, xs = [V.ref d] ∧ Rd H d (DNo P w kvs d) ∧ NKeysAt H kvs ∧ Q (.int kvs.length) H
theorem call_lenN : CallR X (.builtin "len") (rLenN X.prog X.w) := by
  intro pins s σ H xs us Q I r h
  obtain ⟨d, kvs, rfl, hd, ka, q⟩ := h
  obtain ⟨u, rfl, ru⟩ := r.one
  cases ru
  obtain ⟨z, hs, xs, rr, m⟩ := dn_of I.hok hd ka
  obtain ⟨es, ep, hr, hsz, _⟩ := m.raw
  have l : kvs.length = es.size := (Paired.length rr).trans hsz.symm
  refine Calls.call_function_entry kind_len plain_len entry_len (args_len1 _) (len_body_raw hs hr (by rw [← l]; rw [sizeLine_eq] at z; omega) ?_)
  exact ⟨.int kvs.length, H, I.tok _, ⟨_, by rw [l]⟩, q⟩
/-- list(d): the keys' own tuples -/
def rListN (P : Program) (w : World) : List V → Hp → VK → Prop := fun xs H Q => ∃ d kvs, xs = [V.ref d] ∧ Rd H d (DNo P w kvs d) ∧ ∀ p, H p = none → Q (.ref p) (upd H p (.lst (kvs.map fun e => V.ref e.2.1)))
theorem dn_addrs {kvs : List DnE} {xs : List (NestedKey × Addr × Value)} (r : Paired DnR kvs xs) : (xs.map fun x => x.2.1) = kvs.map fun e => e.2.1 := by
  induction r with
  | nil => rfl
  | @cons p q ps qs hq _ ih => rw [List.map_cons, List.map_cons, ih, hq.2.1]
theorem call_listN (hc : X.calm = true) : CallR X (.type "list") (rListN X.prog X.w) := by
  intro pins s σ H xs us Q I r h
  obtain ⟨d, kvs, rfl, hd, q⟩ := h
  obtain ⟨u, rfl, rx⟩ := r.one
  cases rx
  obtain ⟨⟨z, hs, ks, pr, o, es, ep, ho, hx, hdt, he, hn⟩, _⟩ := (show ObjOk X.prog X.w H s.heap d (DNo X.prog X.w kvs d) from hd.ok I.hok)
  have l1 : es.size = ks.length := size_of_entries he
  have l2 : kvs.length = ks.length := Paired.length pr
  refine PySem.W.kdl_call (kdl_raw hs hx hdt) (I.ok.hd hc) ho (by omega) fun h' tk acc' c' kp e it => ?_
  have ea : acc'.toList = ks.map fun x => Value.ref x.2.1 := by
    have hl : acc'.toList.length = ks.length := by rw [Array.length_toList, it.1]; exact l1
    apply List.ext_getElem?
    intro j
    rw [List.getElem?_map]
    cases hj : acc'.toList[j]? with
    | none =>
      have h1 := List.getElem?_eq_none_iff.mp hj
      rw [List.getElem?_eq_none (by omega)]
      all_goals rfl
    | some v =>
      obtain ⟨en, hen, hv⟩ := it.2 j v (by rw [← Array.getElem?_toList]; exact hj)
      have qe := entry_at he j
      rw [hen] at qe
      cases hb : ks[j]? with
      | none =>
        rw [hb] at qe
        exact nomatch (show some en = none from qe)
      | some b =>
        rw [hb] at qe
        have e2 : en = entryOfKey (nestedKind X.prog X.w) b := Option.some.inj qe
        rw [hv, e2]
        all_goals rfl
  have eb : acc'.toList = (ks.map fun x => x.2.1).map Value.ref := by rw [ea, List.map_map]; all_goals rfl
  have rv : Vals ((ks.map fun x => x.2.1).map V.ref) acc'.toList := by rw [eb]; exact vals_refs _
  have hz : ((ks.map fun x => x.2.1).map V.ref).length ≤ sizeLine := by rw [List.length_map, List.length_map]; omega
  have em : ((ks.map fun x => x.2.1).map V.ref) = kvs.map fun e => V.ref e.2.1 := by rw [dn_addrs pr, List.map_map]; all_goals rfl
  refine ⟨.ref s.heap.objs.size, _, I.laid (t' := tk) (o := .lst ((ks.map fun x => x.2.1).map V.ref)) kp (Nat.le_refl _) ?_, rfl, ?_⟩
  · exact ⟨hz, acc'.toList, c', rv, by rw [Array.toArray_toList]; exact e⟩
  · rw [em]
    exact q _ (I.hok.fresh (Nat.le_refl _))
/-! for k in d -/
def Itn (P : Program) (w : World) (d : Addr) (o : Obj) (kvs : List DnE) : It :=
  ⟨fun i H => H d = some (.frz o (DNo P w kvs d)) ∧ i < kvs.length, fun i H x H' => H' = H ∧ ∃ e : DnE, kvs[i]? = some e ∧ x = .ref e.2.1, fun i H => H d = some (.frz o (DNo P w kvs d)) ∧ kvs.length ≤ i⟩
theorem frzN {pins : List (Addr × Obj)} {σ : L2.St} {H : Hp} {s : Shared} {d : Addr} {o : Obj} {kvs : List DnE} (I : Inv X pins σ H s) (h : H d = some (.frz o (DNo X.prog X.w kvs d))) :
    (d == sysModules) = false ∧ s.heap.get? d = some o ∧ o.ExactDict ∧ ∃ (es : Array DictEntry) (ep : Nat), o.data = .dict es ep ∧ es.size = kvs.length ∧
      ∀ (i : Nat) (e : DnE), kvs[i]? = some e → ∃ en : DictEntry, es[i]? = some en ∧ en.key = .ref e.2.1 := by
  obtain ⟨hd, ⟨z, hs, xs, pr, o', es, ep, ho, hx, hdt, he, _⟩, _⟩ := I.hok d _ h
  rw [hd] at ho
  cases ho
  refine ⟨hs, hd, hx, es, ep, hdt, ?_, fun i e hi => ?_⟩
  · have l1 : es.size = xs.length := size_of_entries he
    have l2 : kvs.length = xs.length := Paired.length pr
    omega
  · obtain ⟨b, hb, e1, e2, _⟩ := paired_get pr hi
    have q := entry_at he i
    rw [hb] at q
    refine ⟨_, q, ?_⟩
    rw [← e2]
    rfl
theorem turn_keysN {P : Program} {w : World} {K : PySem.W.Frag} {tg : Expr} {d : Addr} {o : Obj} {es : Array DictEntry} {ep : Nat} {kvs : List DnE} (it : Addr) (hod : o.data = .dict es ep) : Turn P w K tg (Itn P w d o kvs) [it] it (fun i h => h.IsKeyIter it d i kvs.length ep) where
  mem := by simp
  obj := fun i h st b hb => by
    have e : b = it := by simpa using hb
    subst e
    obtain ⟨oi, e, c, dd⟩ := st
    exact ⟨oi, e, fun v z => by rw [dd] at z; cases z⟩
  keep := fun i h h' st k => st.at fun oi e => k it (by simp) oi e
  item := by
    intro X hP hw hK hc i pins s σ H E I hf st hg
    subst hP hw hK
    obtain ⟨hd, hi⟩ := hg
    obtain ⟨f0, f1, f2, f3, f4, f5⟩ := hf it (by simp)
    obtain ⟨hs, hgd, hx, es', ep', hdt, hsz, ent⟩ := frzN I hd
    obtain ⟨rfl, rfl⟩ := dict_ep hod hdt
    have hkv := List.getElem?_eq_getElem hi
    obtain ⟨en, hen, hkey⟩ := ent i _ hkv
    refine next_key_item st hgd hdt hsz hen fun h' st' sb => ?_
    have I1 : Inv X pins σ H { s with heap := h' } := I.turned (t' := s.toks) (fun b ob hb e => (sb.2 b hb).trans e) f0 f1 f3 f4 f5
    obtain ⟨oi, e, c, dd⟩ := id st'
    exact ⟨en.key, rfl, go_of (s := { s with heap := h' }) e c dd (by decide) ⟨.ref _, H, I1, hkey, ⟨rfl, _, hkv, rfl⟩, st', fun b hb => (hf b hb).1⟩⟩
  done := by
    intro X hP hw hK hc i pins s σ H E I hf st hg
    subst hP hw hK
    obtain ⟨hd, hi⟩ := hg
    obtain ⟨f0, f1, f2, f3, f4, f5⟩ := hf it (by simp)
    obtain ⟨hs, hgd, hx, es', ep', hdt, hsz, ent⟩ := frzN I hd
    obtain ⟨rfl, rfl⟩ := dict_ep hod hdt
    exact next_key_end (I.ok.hd hc) st hgd hdt hsz hi fun h' eb => ⟨rfl, I.turned (t' := s.toks) (fun b ob hb e => eb b ob hb e) f0 f1 f3 f4 f5⟩
  self := fun A i s Q E st h => wpAny_pyIter_keyiter st h
/-- the dict is locked (tLock, tLockE) -/
def iKeysN (P : Program) (w : World) (td : TE) : TI := fun σ H R => td σ H fun x H1 => ∃ d o kvs, x = .ref d ∧ H1 d = some (.frz o (DNo P w kvs d)) ∧ R (Itn P w d o kvs) H1
theorem pi_keysN {tg e : Expr} {td : TE} (he : PE X e td) : PI X tg e (iKeysN X.prog X.w td) := by
  refine ⟨fun pins s σ H R I h => ?_⟩
  refine thn (he.run pins s σ H _ I h) fun u s1 ⟨x, H1, I1, rx, d, o, kvs, ex, hd, q⟩ => ?_
  subst ex
  obtain rfl : u = Value.ref d := rx
  obtain ⟨hs, hgd, hx, es, ep, hdt, hsz, ent⟩ := frzN I1 hd
  refine iter_keys hs hgd hx hdt (pi_one (tk := s1.toks) I1 _ (turn_keysN _ hdt) ⟨_, Heap.get?_push_size _ rfl, rfl, ?_⟩ q)
  rw [hsz] <;> rfl
theorem walk_keysN {P : Program} {w : World} {d : Addr} {o : Obj} {kvs : List DnE} : Walk (Itn P w d o kvs) kvs.length (fun H => H d = some (.frz o (DNo P w kvs d))) (fun i H x H' => H' = H ∧ ∃ e : DnE, kvs[i]? = some e ∧ x = .ref e.2.1) :=
  ⟨fun _ _ hi q => ⟨q, hi⟩, fun _ q => ⟨q, Nat.le_refl _⟩, fun _ _ _ _ _ _ y => y⟩
end
/-! the rules, the program and the world named -/
section
variable {X : Cx} {P : Program} {w : World} {pos : Pos}
theorem pe_dnewNP (hP : X.prog = P) (hw : X.w = w) : PE X (.Dict [] [] pos) (tDNewN P w) := by
  subst hP hw
  exact pe_dnewN
theorem or_inNP (hP : X.prog = P) (hw : X.w = w) (hu : X.A.units + 64 < cLine) : OpR X (compareOp .In) (rInN P w false) := by
  subst hP hw
  exact or_inN hu
theorem or_notInNP (hP : X.prog = P) (hw : X.w = w) (hu : X.A.units + 64 < cLine) : OpR X (compareOp .NotIn) (rInN P w true) := by
  subst hP hw
  exact or_notInN hu
theorem pe_dgetNP {o i : Expr} {td ty : TE} (hP : X.prog = P) (hw : X.w = w) (hu : X.A.units + 64 < cLine) (ho : PE X o td) (hi : PE X i ty) (hs : NoSl i) : PE X (.Subscript o i pos) (tDGetN P w td ty) := by
  subst hP hw
  exact pe_dgetN hu ho hi hs
theorem ps_dputNP {o i value : Expr} {pos' : Pos} {td ty tv : TE} (hP : X.prog = P) (hw : X.w = w) (hu : X.A.units + 64 < cLine) (ho : PE X o td) (hi : PE X i ty) (hv : PE X value tv) (hs : swapsWith value (some (.Subscript o i pos')) pos.line X.env = pure false) :
    PS X (.Assign [.Subscript o i pos'] value pos) (sDPutN P w td ty tv) := by
  subst hP hw
  exact ps_dputN hu ho hi hv hs
theorem call_lenNP (hP : X.prog = P) (hw : X.w = w) : CallR X (.builtin "len") (rLenN P w) := by
  subst hP hw
  exact call_lenN
theorem call_listNP (hP : X.prog = P) (hw : X.w = w) (hc : X.calm = true) : CallR X (.type "list") (rListN P w) := by
  subst hP hw
  exact call_listN hc
theorem pi_keysNP {tg e : Expr} {td : TE} (hP : X.prog = P) (hw : X.w = w) (he : PE X e td) : PI X tg e (iKeysN P w td) := by
  subst hP hw
  exact pi_keysN he
end
/-! DXo is one of these -/
section
variable {P : Program} {w : World}
def toN (e : DxE) : DnE := (nkL e.1, e.2.1, e.2.2)
theorem paired_toN : ∀ {kvs : List DxE} {xs : List (NestedKey × Addr × Value)}, Paired DnR (kvs.map toN) xs ↔ Paired DxR kvs xs := by
  intro kvs
  induction kvs with
  | nil => intro xs; exact ⟨fun h => by cases h; exact .nil, fun h => by cases h; exact .nil⟩
  | cons e kvs ih =>
    intro xs
    constructor
    · intro h
      cases h with
      | cons h t => exact .cons h (ih.mp t)
    · intro h
      cases h with
      | cons h t => exact .cons h (ih.mpr t)
theorem DXo_n (kvs : List DxE) (d : Addr) : DXo P w kvs d = DNo P w (kvs.map toN) d := by
  unfold DXo DNo
  congr 1
  funext h
  refine propext ?_
  rw [List.length_map]
  exact and_congr Iff.rfl (and_congr Iff.rfl (exists_congr fun xs => and_congr paired_toN.symm Iff.rfl))
theorem KeysAt.n {H : Hp} {kvs : List DxE} (h : KeysAt H kvs) : NKeysAt H (kvs.map toN) := fun e he => by
  obtain ⟨y, hy, rfl⟩ := List.mem_map.mp he
  exact KeyAt.n ⟨(h y hy).2, (h y hy).1⟩
theorem dnGet_toN (kvs : List DxE) (k : List V) : dnGet (kvs.map toN) (nkL k) = dxGet kvs k := by
  unfold dnGet dxGet
  induction kvs with
  | nil => rfl
  | cons e kvs ih =>
    rw [List.map_cons, List.find?_cons, List.find?_cons]
    by_cases c : nkL e.1 = nkL k
    · rw [show decide ((toN e).1 = nkL k) = true from decide_eq_true c, decide_eq_true c]
      rfl
    · rw [show decide ((toN e).1 = nkL k) = false from decide_eq_false c, decide_eq_false c]
      exact ih
end
/-! d.get(k) -/
section
variable {X : Cx} {o e : Expr} {apos cpos : Pos} {td ty : TE}
def tDGet1N (P : Program) (w : World) (td ty : TE) : TE := fun σ H Q => td σ H fun x H1 => ∃ d, x = .ref d ∧ (∃ kvs, Rd H1 d (DNo P w kvs d) ∧ NKeysAt H1 kvs) ∧ ty σ H1 fun y H2 => ∃ (b : Addr) (ks : NestedKey) (kvs : List DnE), Rd H2 d (DNo P w kvs d) ∧ NKeysAt H2 kvs ∧ y = .ref b ∧ NKey H2 b ks ∧ Q ((dnGet kvs ks).getD .non) H2
theorem pe_dget1N (hu : X.A.units + 64 < cLine) (ho : PE X o td) (he : PE X e ty) (m : M1 X o "get" apos e cpos) : PE X (.Call (.Attribute o "get" apos) [e] [] cpos) (tDGet1N X.prog X.w td ty) := by
  refine ⟨fun pins s σ H Q I h => ?_⟩
  refine wpAny_Call_method m.base m.few m.line PySem.F.plainAttrs_dict PySem.F.slot_dict_get PySem.F.type_dict_get (thn (ho.run pins s σ H _ I h) fun u s1 ⟨x, H1, I1, rx, d, ex, ⟨kvs0, hd0, ka0⟩, q1⟩ => ?_)
  subst ex
  obtain rfl : u = Value.ref d := rx
  obtain ⟨_, hs0, xs0, _, dd0⟩ := dn_of I1.hok hd0 ka0
  refine ⟨dd0.typeIs, fun b q => ?_, ?_⟩
  · cases q
    obtain ⟨ob, _, _, h1, h2, _⟩ := dd0
    exact ⟨ob, h1, h2.2.1⟩
  rw [m.trees]
  refine Calls.callWith_builtin rfl (Calls.evalArgs_plain (Calls.spliced_cons (thn (he.run pins s1 σ H1 _ I1 q1) fun iv s2 ⟨y, H2, I2, ry, b, ks, kvs, hd, ka, ey, kb, q2⟩ => Calls.spliced_nil ?_)))
  subst ey
  obtain rfl : iv = Value.ref b := ry
  obtain ⟨z, hs, xs, r, mm⟩ := dn_of I2.hok hd ka
  refine call_meetsIn PySem.F.slot_dict_get mm.typeIs PySem.F.entry_dict_get (PySem.F.args_dict_get_2 _ _) (meetsH_dict_get (nestedKind X.prog X.w) d b hs) ⟨room8 hu, ks, xs, nkey_is I2.hok kb, mm, ?_⟩
  exact ⟨_, H2, I2.tok _, (dn_val r ks).getD (show RelV .non Value.none from rfl), q2⟩
theorem pe_dget1NP {P : Program} {w : World} (hP : X.prog = P) (hw : X.w = w) (hu : X.A.units + 64 < cLine) (ho : PE X o td) (he : PE X e ty) (m : M1 X o "get" apos e cpos) : PE X (.Call (.Attribute o "get" apos) [e] [] cpos) (tDGet1N P w td ty) := by
  subst hP hw
  exact pe_dget1N hu ho he m
end
/-! for .. in d.items() -/
def ItiN (P : Program) (w : World) (d : Addr) (o : Obj) (kvs : List DnE) : It :=
  ⟨fun i H => H d = some (.frz o (DNo P w kvs d)) ∧ i < kvs.length, fun i H x H' => ∃ (T : Addr) (e : DnE), kvs[i]? = some e ∧ x = .ref T ∧ H T = none ∧ H' = upd H T (.tup [.ref e.2.1, e.2.2]), fun i H => H d = some (.frz o (DNo P w kvs d)) ∧ kvs.length ≤ i⟩
theorem frzNV {X : Cx} {pins : List (Addr × Obj)} {σ : L2.St} {H : Hp} {s : Shared} {d : Addr} {o : Obj} {kvs : List DnE} (I : Inv X pins σ H s) (h : H d = some (.frz o (DNo X.prog X.w kvs d))) :
    (d == sysModules) = false ∧ s.heap.get? d = some o ∧ o.ExactDict ∧ ∃ (es : Array DictEntry) (ep : Nat), o.data = .dict es ep ∧ es.size = kvs.length ∧
      ∀ (i : Nat) (e : DnE), kvs[i]? = some e → ∃ en : DictEntry, es[i]? = some en ∧ en.key = .ref e.2.1 ∧ RelV e.2.2 en.val := by
  obtain ⟨hd, ⟨z, hs, xs, pr, o', es, ep, ho, hx, hdt, he, _⟩, _⟩ := I.hok d _ h
  rw [hd] at ho
  cases ho
  refine ⟨hs, hd, hx, es, ep, hdt, ?_, fun i e hi => ?_⟩
  · have l1 : es.size = xs.length := size_of_entries he
    have l2 : kvs.length = xs.length := Paired.length pr
    omega
  · obtain ⟨b, hb, e1, e2, e3⟩ := paired_get pr hi
    have q := entry_at he i
    rw [hb] at q
    refine ⟨_, q, ?_, e3⟩
    rw [← e2]
    rfl
theorem turn_itemsN {P : Program} {w : World} {K : PySem.W.Frag} {d : Addr} {o : Obj} {es : Array DictEntry} {ep : Nat} {kvs : List DnE} {elts : List Expr} {kk : Nat} {tpos : Pos} (it : Addr) (hod : o.data = .dict es ep) :
    Turn P w K (.Tuple elts kk tpos) (ItiN P w d o kvs) [it] it (fun i h => ∃ ok ov, IsItemIter h it d i kvs.length ep ok ov) where
  mem := by simp
  obj := fun i h st b hb => by
    have e : b = it := by simpa using hb
    subst e
    obtain ⟨ok, ov, e⟩ := st
    exact ⟨_, e, fun v z => nomatch z⟩
  keep := fun i h h' st k => let ⟨ok, ov, e⟩ := st; ⟨ok, ov, k it (by simp) _ e⟩
  item := by
    intro X hP hw hK hc i pins s σ H E I hf st hg
    subst hP hw hK
    obtain ⟨hd, hi⟩ := hg
    obtain ⟨hs, hgd, hx, es', ep', hdt, hsz, ent⟩ := frzNV I hd
    obtain ⟨rfl, rfl⟩ := dict_ep hod hdt
    have hkv := List.getElem?_eq_getElem hi
    generalize kvs[i] = e at hkv
    obtain ⟨en, hen, hkey, hval⟩ := ent i e hkv
    have hi2 : i < es'.size := by omega
    have een : es'[i] = en := by
      have := Array.getElem?_eq_getElem hi2
      rw [hen] at this
      exact (Option.some.inj this).symm
    obtain ⟨ok, ov, he⟩ := st
    rw [← hsz] at he
    have hlt : it < s.heap.objs.size := Heap.lt_size he
    have raw : s.heap.DictRaw d es' ep' := ⟨o, hgd, hx, hdt⟩
    refine wpAny_pyNext_items_item_raw he raw hi2 fun h' ho hT hz hk => ?_
    rw [een, hkey] at ho hT
    refine ⟨_, rfl, wpAny_letOwnedTupleGo_items (s := { s with heap := h' }) ho fun h'' he' sb => ?_⟩
    have hT2 : h''.get? s.heap.objs.size = some { cls := .type "tuple", data := .seq #[.ref e.2.1, en.val] } := (sb.2 _ (Nat.ne_of_gt hlt)).trans hT
    have new : ObjOk X.prog X.w (upd H s.heap.objs.size (.tup [.ref e.2.1, e.2.2])) h'' s.heap.objs.size (.tup [.ref e.2.1, e.2.2]) :=
      ⟨by show 2 ≤ sizeLine; decide, [.ref e.2.1, en.val], .cons rfl (.cons hval .nil), ⟨_, hT2, rfl, _, rfl⟩⟩
    have I1 : Inv X pins σ (upd H s.heap.objs.size (.tup [.ref e.2.1, e.2.2])) { s with heap := h'' } :=
      I.turnedNew (t' := s.toks) (ch := [it]) (fun b ob hb e => (sb.2 b (by simpa using hb)).trans (hk b ob (by simpa using hb) e)) hf (Nat.le_refl _) new
    refine ⟨.ref s.heap.objs.size, _, I1, rfl, ⟨_, e, hkv, rfl, I.hok.fresh (Nat.le_refl _), rfl⟩, ⟨.ref e.2.1, en.val, ?_⟩, fun b hb => ?_⟩
    · rw [← hsz]; exact he'
    · have e : b = it := by simpa using hb
      rw [e, upd_ne (Nat.ne_of_lt hlt)]
      exact (hf it (by simp)).1
  done := by
    intro X hP hw hK hc i pins s σ H E I hf st hg
    subst hP hw hK
    obtain ⟨hd, hi⟩ := hg
    obtain ⟨f0, f1, f2, f3, f4, f5⟩ := hf it (by simp)
    obtain ⟨hs, hgd, hx, es', ep', hdt, hsz, ent⟩ := frzNV I hd
    obtain ⟨rfl, rfl⟩ := dict_ep hod hdt
    obtain ⟨ok, ov, he⟩ := st
    rw [← hsz] at he
    have raw : s.heap.DictRaw d es' ep' := ⟨o, hgd, hx, hdt⟩
    exact wpAny_pyNext_items_end_raw (I.ok.hd hc) he raw (by omega) fun h' eb => ⟨rfl, I.turned (t' := s.toks) (fun b ob hb e => eb b ob hb e) f0 f1 f3 f4 f5⟩
  self := fun A i s Q E st h => let ⟨_, _, e⟩ := st; PySem.W.kcp_self e h
/-- the dict is locked -/
def iItemsN (P : Program) (w : World) (td : TE) : TI := fun σ H R => td σ H fun x H1 => ∃ d o kvs, x = .ref d ∧ H1 d = some (.frz o (DNo P w kvs d)) ∧ R (ItiN P w d o kvs) H1
section
variable {X : Cx} {e : Expr} {td : TE} {apos cpos : Pos} {elts : List Expr} {kk : Nat} {tpos : Pos}
theorem pi_itemsN (he : PE X e td) (hbase : attributeBase e "items" X.env (eval e X.env) = eval e X.env := by rfl) (hline : (apos.endLine == cpos.line) = true := by rfl) :
    PI X (.Tuple elts kk tpos) (.Call (.Attribute e "items" apos) [] [] cpos) (iItemsN X.prog X.w td) := by
  refine ⟨fun pins s σ H R I h => ?_⟩
  refine wpAny_Call_method (T := "dict") (id := "dict.items") hbase rfl hline F.plainAttrs_dict F.slot_dict_items F.type_dict_items (thn (he.run pins s σ H _ I h) fun u s1 ⟨x, H1, I1, rx, d, o, kvs, ex, hd, q⟩ => ?_)
  subst ex
  obtain rfl : u = Value.ref d := rx
  obtain ⟨hs, hgd, hx, es, ep, hdt, hsz, ent⟩ := frzNV I1 hd
  have raw : s1.heap.DictRaw d es ep := ⟨o, hgd, hx, hdt⟩
  refine ⟨raw.typeIs, fun b q => ?_, ?_⟩
  · cases q
    exact ⟨o, hgd, hx.2.1⟩
  have I2 : Inv X pins σ H1 { s1 with heap := s1.heap.push { cls := .type "dict_items", data := .fields #[.ref d] } } := I1.kept (t' := s1.toks) fun b ob q => Heap.get?_push_of_some _ q
  have raw2 : (s1.heap.push { cls := .type "dict_items", data := .fields #[.ref d] }).DictRaw d es ep := ⟨o, Heap.get?_push_of_some _ hgd, hx, hdt⟩
  have fin : wpAny (model X.prog X.w) X.A (pyIter (.ref s1.heap.objs.size)) (PIE X pins σ (.Tuple elts kk tpos) R) X.xe { s1 with heap := s1.heap.push { cls := .type "dict_items", data := .fields #[.ref d] } } := by
    refine wpAny_pyIter_items_raw (d := d) ⟨_, Heap.get?_push_size _ rfl, rfl, rfl⟩ raw2 (pi_one (tk := s1.toks) I2 _ (turn_itemsN _ hdt) ⟨.none, .none, ?_⟩ q)
    rw [← hsz]
    exact Heap.get?_push_size _ rfl
  show wpAny _ _ (callWith cpos (.builtin "dict.items") [.ref d] [] []) _ X.xe s1
  exact method_meetsIn F.slot_dict_items F.entry_dict_items rfl (PySem.evalArgs_none ⟨rfl, raw.typeIs, F.args_dict_items_1 _, _, meets_dict_items_raw d hs, ⟨es, ep, raw⟩, fin⟩)
theorem pi_itemsNP {P : Program} {w : World} (hP : X.prog = P) (hw : X.w = w) (he : PE X e td) (hbase : attributeBase e "items" X.env (eval e X.env) = eval e X.env := by rfl) (hline : (apos.endLine == cpos.line) = true := by rfl) :
    PI X (.Tuple elts kk tpos) (.Call (.Attribute e "items" apos) [] [] cpos) (iItemsN P w td) := by
  subst hP hw
  exact pi_itemsN he hbase hline
theorem walk_itemsN {P : Program} {w : World} {d : Addr} {o : Obj} {kvs : List DnE} : Walk (ItiN P w d o kvs) kvs.length (fun H => H d = some (.frz o (DNo P w kvs d))) (fun i H x H' => ∃ (T : Addr) (e : DnE), kvs[i]? = some e ∧ x = .ref T ∧ H T = none ∧ H' = upd H T (.tup [.ref e.2.1, e.2.2])) :=
  ⟨fun _ _ hi q => ⟨q, hi⟩, fun _ q => ⟨q, Nat.le_refl _⟩, fun _ _ _ _ _ _ y => y⟩
end
/-! a store into such a dict, for comprehensions -/
def STn (P : Program) (w : World) : Addr → V → V → Hp → (Hp → Prop) → Prop := fun D y z H R => ∃ (b : Addr) (ks : NestedKey) (kvs : List DnE), y = .ref b ∧ NKey H b ks ∧ H D = some (DNo P w kvs D) ∧ NKeysAt H kvs ∧ kvs.length < sizeLine ∧ R (upd H D (DNo P w (dnPut kvs ks b z) D))
theorem store_n {P : Program} {w : World} {A : Around} (hu : A.units + 64 < cLine) : Store P w A (DNo P w []) (STn P w) where
  new := fun H h hb => dn_empty h hb
  put := by
    intro X pins σ H s D y z u r R Q E hP hw I ry rz h k
    subst hP hw
    obtain ⟨b, ks, kvs, rfl, kb, hd, ka, hl, q⟩ := h
    obtain rfl : u = Value.ref b := ry
    obtain ⟨zz, hsm, xs, rr, m⟩ := dn_of I.hok (.inl hd) ka
    have hz : xs.length ≤ sizeLine := by rw [← Paired.length rr]; exact zz
    have hl2 : (dnPut kvs ks b z).length ≤ sizeLine := by have := dnPut_len kvs ks b z; omega
    refine wpAny_dictSet_heap (hsz := hz) (knd := nestedKind X.prog X.w) (show A.units + 8 < cLine by omega) (nkey_is I.hok kb) m fun h' m' hsb => k _ _ ?_ q
    have he : ∃ q, h'.get? D = some q := let ⟨q, _, _, hq, _⟩ := m'; ⟨q, hq⟩
    exact d_write I (by rw [hd]; exact True.intro) hsb he (dn_new hl2 hsm (dn_put rr ks b rz) m')
end S
namespace S
open PySem PySem.Spec PyProof.Rows L2
/-! isinstance of a dict with tuple keys; its clear() -/
section
variable {X : Cx} {P : Program} {w : World} {K : Frag}
def rIsiN (P : Program) (w : World) (K : Frag) : List V → Hp → VK → Prop := fun xs H Q => ∃ (d : Addr) (c : V) (u : Value) (b : Bool) (kvs : List DnE), xs = [.ref d, c] ∧ ClsV c u ∧ H d = some (DNo P w kvs d) ∧ PySem.W.kitOne K (.type "dict") u = some b ∧ Q (.bl b) H
theorem isiNK (hK : X.K = K) (hP : X.prog = P) (hw : X.w = w) : CallR X (.builtin "isinstance") (rIsiN P w K) := by
  subst hK hP hw
  intro pins s σ H xs us Q I r h
  obtain ⟨d, c, u, b, kvs, rfl, k, hd, e, q⟩ := h
  obtain ⟨u1, u2, rfl, r1, r2⟩ := vals2 r
  have e2 := k.eq r2
  subst e2
  cases (show u1 = Value.ref d from r1)
  obtain ⟨⟨z, y, xs, rr, o, es, ep, h1, h2, _⟩, _⟩ := (show ObjOk X.prog X.w H s.heap d (DNo X.prog X.w kvs d) from I.hok d _ hd)
  exact PySem.W.kia_one PySem.W.kitx_dict I.kIn ⟨o, h1, h2.1⟩ e (fun z => nomatch z) fun tk => ⟨.bl b, H, I.tok tk, rfl, q⟩
theorem isiN2 (hK : X.K = K) (hP : X.prog = P) (hw : X.w = w) : CallR X (.builtin "isinstance") (fun xs H Q => rIsi K xs H Q ∨ rIsiN P w K xs H Q) := call_or (isiK hK) (isiNK hK hP hw)
def tClearN (P : Program) (w : World) (to : TE) : TE := fun σ H Q => to σ H fun x H1 => ∃ (d : Addr) (kvs : List DnE), x = .ref d ∧ H1 d = some (DNo P w kvs d) ∧ NKeysAt H1 kvs ∧ Q .non (upd H1 d (DNo P w [] d))
theorem pe_clearN {o : Expr} {to : TE} {apos cpos : Pos} (hP : X.prog = P) (hw : X.w = w) (ho : PE X o to) (hbase : attributeBase o "clear" X.env (eval o X.env) = eval o X.env := by rfl) (hline : (apos.endLine == cpos.line) = true := by rfl) :
    PE X (.Call (.Attribute o "clear" apos) [] [] cpos) (tClearN P w to) := by
  subst hP hw
  refine ⟨fun pins s σ H Q I h => ?_⟩
  refine wpAny_Call_method0_late hbase hline (thn (ho.run pins s σ H _ I h) fun v s1 ⟨x, H1, I1, r1, d, kvs, ex, hd, ka, q1⟩ => ?_)
  subst ex
  obtain rfl : v = Value.ref d := r1
  obtain ⟨z, hsm, xs, rr, m⟩ := dn_of I1.hok (.inl hd) ka
  refine ⟨"dict", "dict.clear", PySem.F.plainAttrs_dict, PySem.F.slot_dict_clear, PySem.F.type_dict_clear, m.typeIs, fun a q => ?_, Calls.callWith_builtin rfl (PySem.evalArgs_none ?_)⟩
  · cases q
    obtain ⟨ob, _, _, h1, h2, _⟩ := m
    exact ⟨ob, h1, h2.2.1⟩
  refine PySem.clear_keyed (knd := nestedKind X.prog X.w) ⟨xs, m, rfl⟩ (fun h' hk' hs' => ?_) (by rw [PySem.pairsH_length, ← Paired.length rr]; exact z)
  obtain ⟨ys, hy, ey⟩ := hk'
  have e0 : ys = [] := by
    have := congrArg List.length ey
    rw [PySem.pairsH_length] at this
    exact List.eq_nil_of_length_eq_zero this
  subst e0
  refine ⟨.non, _, ?_, rfl, q1⟩
  have he : ∃ q, h'.get? d = some q := let ⟨q, _, _, hq, _⟩ := hy; ⟨q, hq⟩
  exact d_write (t' := s1.toks) I1 (by rw [hd]; exact True.intro) hs' he (dn_new (Nat.zero_le _) hsm .nil hy)
end
end S
namespace S
open PySem PySem.Spec PyProof.Rows L2
/-! two rules for one node; min and max of a list -/
section
variable {X : Cx} {K : Frag}
def tEor (a b : TE) : TE := fun σ H Q => a σ H Q ∨ b σ H Q
def tTor (a b : TT) : TT := fun σ H Q => a σ H Q ∨ b σ H Q
def tSor (a b : TS) : TS := fun D σ H => a D σ H ∨ b D σ H
theorem pe_or2 {e : Expr} {a b : TE} (h1 : PE X e a) (h2 : PE X e b) : PE X e (tEor a b) := ⟨fun pins s σ H Q I h => h.elim (h1.run pins s σ H Q I) (h2.run pins s σ H Q I)⟩
theorem pt_or2 {e : Expr} {a b : TT} (h1 : PT X e a) (h2 : PT X e b) : PT X e (tTor a b) := ⟨fun pins s σ H Q I h => h.elim (h1.run pins s σ H Q I) (h2.run pins s σ H Q I)⟩
theorem ps_or2 {st : Stmt} {a b : TS} (h1 : PS X st a) (h2 : PS X st b) : PS X st (tSor a b) := ⟨fun pins s σ H D I h => h.elim (h1.run pins s σ H D I) (h2.run pins s σ H D I)⟩
theorem minK (hK : X.K = K) (hc : X.calm = true) : CallR X (.builtin "min") (rMin K) := hK ▸ cr_min hc
theorem maxK (hK : X.K = K) (hc : X.calm = true) : CallR X (.builtin "max") (rMax K) := hK ▸ cr_max hc
theorem boot_min : bootBuiltins "min" = some (.builtin "min") := by decide +kernel
theorem boot_max : bootBuiltins "max" = some (.builtin "max") := by decide +kernel
end
end S
namespace S
open PySem PySem.Spec PyProof.Rows L2
/-! name = {..} for a dict of any kind -/
theorem dcS_core {X : Cx} {pins : List (Addr × Obj)} {s : Shared} {σ : L2.St} {H : Hp} {Q : VK} {pos' : Pos} {use : Option (Value → Sem Unit)} {Qf : Value → Shared → Prop} {kx vx tg iter : Expr} {ifs : List Expr} {scope : Scope} {own : List (Str × Nat)} {pos : Pos} {wi : TI} {g : TG} {tt : TT} {tk tv : TE} {o0 : Addr → HO} {ST : Addr → V → V → Hp → (Hp → Prop) → Prop} (B : Store X.prog X.w X.A o0 ST)
    (hc : X.calm = true) (hN : X.N.Nodup) (hi : PI X tg iter wi) (ok : BlkOk X.N X.env.scope scope own)
    (hg : ∀ (s : Shared) (H : Hp) (C : Addr) (cl : List (Str × Addr)) (fp : List Addr), PG (X.blk s H scope (compEnvC scope cl C X.env) fp) tg g)
    (ht : ∀ (s : Shared) (H : Hp) (C : Addr) (cl : List (Str × Addr)) (fp : List Addr), PTs (X.blk s H scope (compEnvC scope cl C X.env) fp) ifs tt)
    (hk : ∀ (s : Shared) (H : Hp) (C : Addr) (cl : List (Str × Addr)) (fp : List Addr), PE (X.blk s H scope (compEnvC scope cl C X.env) fp) kx tk)
    (he : ∀ (s : Shared) (H : Hp) (C : Addr) (cl : List (Str × Addr)) (fp : List Addr), PE (X.blk s H scope (compEnvC scope cl C X.env) fp) vx tv) (hs : ∀ x, foldedSetIterable iter X.env x = pure x)
    (h : tDcS o0 ST wi g tt tk tv (own.map (·.2)) σ H Q) (I : Inv X pins σ H s)
    (hRR : ∀ D C s' m H', Inv X pins σ H' s' → Q (.ref D) H' → s'.heap.Ns C m → FpOk X pins H' C → compPost (model X.prog X.w) X.A X.xe use Qf (.ref D) C (.ok .next) s') :
    wpAny (model X.prog X.w) X.A (comprehension (.DictComp kx vx [⟨tg, iter, ifs, 0⟩] scope pos) scope X.env pos' newDict false (eval iter X.env) use) Qf X.xe s := by
  have clo : ∀ y ∈ scope.names, y.2 = .free → ∃ c, X.env.cells.lookup y.1 = some c := fun y hy e =>
    (ok.free y hy e).elim (fun k => I.ok.has _ (.inl k)) fun k => I.ok.has _ (.inr k)
  refine wpAny_comprehension_free (use := use) rfl hs (closure_ok clo) ok.kind (fun y hy e => by rw [ok.uniq y hy, e]) (thn (hi.run pins s σ H _ I h) fun _ s1 hx => thn hx fun _ s2 h2 => ?_)
  obtain ⟨it, fp, tn, J, H2, rfl, I2, T, t2, f2, q⟩ := h2
  refine wpAny_newObj_type (newEnv_comp ?_)
  generalize hD : s2.heap.objs.size = D
  obtain ⟨W, ⟨m0, w0⟩, turn⟩ := q D (I2.hok.fresh (Nat.le_of_eq hD))
  -- behind the new dict
  generalize hs3 : ({ s2 with heap := s2.heap.push { cls := .type "dict", data := .dict #[] } } : Shared) = s3
  have h3 : s3.heap = s2.heap.push { cls := .type "dict", data := .dict #[] } := by rw [← hs3]
  have keep3 : ∀ b o, s2.heap.get? b = some o → s3.heap.get? b = some o := fun b o e => by rw [h3]; exact Heap.get?_push_of_some _ e
  have I3 : Inv X pins σ (upd H2 D (o0 D)) s3 := by
    subst hD hs3
    exact I2.laid (t' := s2.toks) (fun b o e => Heap.get?_push_of_some _ e) (Nat.le_refl _) (B.new _ _ I2.big)
  have f3 : ∀ b ∈ fp, FpOk X pins (upd H2 D (o0 D)) b ∧ b < s3.heap.objs.size := fun b hb => by
    obtain ⟨o, e, _⟩ := T.obj _ _ t2 b hb
    have lt := Heap.lt_size e
    exact ⟨⟨by rw [upd_ne (by rw [← hD]; exact Nat.ne_of_lt lt)]; exact (f2 b hb).1, (f2 b hb).2⟩, by rw [h3, Heap.size_push]; exact Nat.lt_succ_of_lt lt⟩
  have I4 := block_start I3 ok hN f3
  show codeAny _ _ (.compStart _ 0 (.ref it) (.ref D) (compEnvC scope (cellsFrom (s3.heap.objs.size + 1) scope.names (cloFrom X.env.cells scope.names [])) s3.heap.objs.size X.env)) _ { s3 with heap := pushCells (s3.heap.push { cls := .type "dict", data := .dict #[] }) scope.names }
  generalize hH3 : upd H2 D (o0 D) = H3 at I3 f3 I4 w0
  generalize hcl : cellsFrom (s3.heap.objs.size + 1) scope.names (cloFrom X.env.cells scope.names []) = cl at I4 ⊢
  have pg := hg s3 H3 s3.heap.objs.size cl fp
  have pt := ht s3 H3 s3.heap.objs.size cl fp
  have pk := hk s3 H3 s3.heap.objs.size cl fp
  have pe := he s3 H3 s3.heap.objs.size cl fp
  have cL : (compEnvC scope cl s3.heap.objs.size X.env).locals = s3.heap.objs.size := rfl
  generalize compEnvC scope cl s3.heap.objs.size X.env = ce at I4 pg pt pk pe cL ⊢
  generalize hs4 : ({ s3 with heap := pushCells (s3.heap.push { cls := .type "dict", data := .dict #[] }) scope.names } : Shared) = s4 at I4 ⊢
  have t4 : tn 0 s4.heap := T.keep _ _ _ t2 fun b _ o e => by rw [← hs4]; exact pushCells_keeps _ _ _ _ (Heap.get?_push_of_some _ (keep3 b o e))
  -- the iterator's own objects, in the block
  have own_ : ∀ {σ' : L2.St} {H' : Hp} {s' : Shared}, Inv (X.blk s3 H3 scope ce fp) [] σ' H' s' → (∀ b ∈ fp, H' b = none) → ∀ b ∈ fp, FpOk (X.blk s3 H3 scope ce fp) [] H' b := fun I' hn b hb =>
    ⟨hn b hb, (I'.ok.exf b hb).1, I'.ok.exfs b hb, .inl hb, fun x c e => (I'.ok.exf b hb).2 x c e, fun p hp => absurd (show p ∈ ([] : List (Addr × Obj)) ++ [] from hp) (by simp)⟩
  let In : Nat → Shared → Prop := fun n s' => ∃ i H', Inv (X.blk s3 H3 scope ce fp) [] (wipe σ (own.map (·.2))) H' s' ∧ tn i s'.heap ∧ (∀ b ∈ fp, H' b = none) ∧ W i n H'
  have loop := compLoop_anyD (prog := X.prog) (w := X.w) (A := X.A) (R := compPost (model X.prog X.w) X.A X.xe use Qf (.ref D) s3.heap.objs.size) (kx := kx) (vx := vx) (target := tg) (iter := iter) (ifs := ifs) (scope := scope) (pos := pos) (it := .ref it) (D := D) (env := ce) In ?turn m0 ⟨0, H3, I4, t4, fun b hb => (f3 b hb).1.1, w0⟩ (s := s4)
  case turn =>
    rintro n s5 ⟨i, H5, I5, t5, n5, w5⟩
    rcases turn i n H5 w5 with ⟨st, qq⟩ | ⟨go, Nx, hNx, step⟩
    · refine thnF (T.done (X.blk s3 H3 scope ce fp) rfl rfl rfl hc i [] s5 _ H5 (fun _ _ => False) I5 (own_ I5 n5) t5 st) fun _ s6 ⟨hr, I6⟩ => ?_
      subst hr
      obtain ⟨m, hn, _⟩ := I6.loc
      have free : H5 ce.locals = none := I6.free
      rw [cL] at free
      have hn' : s6.heap.Ns ce.locals m := hn
      rw [cL] at hn'
      refine hRR D s3.heap.objs.size s6 m H5 (I3.call' (ch := fp) I6.os I6.base I6.hok I6.bare fun b hb => ?_) qq hn' (I3.fpOk (Nat.le_refl _) free)
      obtain ⟨_, g1, g2, g3, g4, g5⟩ := (f3 b hb).1
      exact ⟨g3, g1, g4, g5⟩
    · refine thnF (T.item (X.blk s3 H3 scope ce fp) rfl rfl rfl hc i [] s5 _ H5 (fun _ _ => False) I5 (own_ I5 n5) t5 go) fun _ s6 ⟨u, hr, h6⟩ => ?_
      subst hr
      refine thnF h6 fun _ s7 ⟨x, H7, I7, r7, y7, t7, n7⟩ => ?_
      have back : ∀ {σ8 : L2.St} {s' : Shared} {H' : Hp}, wipe σ8 (own.map (·.2)) = wipe σ (own.map (·.2)) → Inv (X.blk s3 H3 scope ce fp) ([] ++ pinsAt fp s7.heap) σ8 H' s' → Nx H' → ∃ m, m < n ∧ In m s' := fun {σ8 s' H'} hw I' nx => by
        obtain ⟨m', hm, w'⟩ := hNx H' nx
        have pin : ∀ b ∈ fp, ∀ o, s7.heap.get? b = some o → s'.heap.get? b = some o ∧ H' b = none := fun b hb o e =>
          let z := I'.pin (b, o) (List.mem_append_right _ (List.mem_append_right _ (mem_pinsAt hb e)))
          ⟨z.1, z.2.1⟩
        refine ⟨m', hm, i + 1, H', (I'.unpinned (pins := [])).weak (by rw [← hw, wipe_length]) (fun j v e => ?_), T.keep _ _ _ t7 fun b hb o e => (pin b hb o e).1, fun b hb => ?_, w'⟩
        · rw [← hw] at e
          exact (wipe_some e).1
        · obtain ⟨o, e, _⟩ := T.obj _ _ t7 b hb
          exact (pin b hb o e).2
      refine thnF (pg.run _ s7 _ H7 x u _ (I7.pinned (own_ I7 n7) (T.obj _ _ t7)) r7 (step x H7 y7)) fun _ s8 ⟨σ8, H8, I8, hw8, q8⟩ => ?_
      refine thnF (pt.run _ s8 σ8 H8 _ I8 q8) fun b s9 ⟨H9, I9, q9⟩ => ?_
      cases b with
      | false => exact back hw8 I9 q9
      | true => exact thnF (pk.run _ s9 σ8 H9 _ I9 q9) fun _ s10 ⟨yk, H10, I10, r10, q10⟩ => thnF (pe.run _ s10 σ8 H10 _ I10 q10) fun _ s11 ⟨yv, H11, I11, r11, q11⟩ => B.put (X := X.blk s3 H3 scope ce fp) rfl rfl I11 r10 r11 q11 fun s12 H12 I12 nx => back hw8 I12 nx
  exact codeAny_compStart_dict loop (T.self X.A 0 _ _ _ t4 loop)
section
variable {X : Cx}
theorem ps_setDcS {o0 : Addr → HO} {ST : Addr → V → V → Hp → (Hp → Prop) → Prop} {i : Nat} {y : Str} {py : Pos} {kx vx tg iter : Expr} {ifs : List Expr} {scope : Scope} {own : List (Str × Nat)} {pos spos : Pos} {wi : TI} {g : TG} {tt : TT} {tk tv : TE} (B : Store X.prog X.w X.A o0 ST) (hc : X.calm = true) (hN : X.N.Nodup) (hy : X.N[i]? = some y) (hyl : X.env.scope.names.lookup y = some .local)
    (hsw : swapsWith (.DictComp kx vx [⟨tg, iter, ifs, 0⟩] scope pos) (some (.Name y py)) spos.line X.env = pure true) (hi : PI X tg iter wi) (ok : BlkOk X.N X.env.scope scope own)
    (hg : ∀ (s : Shared) (H : Hp) (C : Addr) (cl : List (Str × Addr)) (fp : List Addr), PG (X.blk s H scope (compEnvC scope cl C X.env) fp) tg g) (ht : ∀ (s : Shared) (H : Hp) (C : Addr) (cl : List (Str × Addr)) (fp : List Addr), PTs (X.blk s H scope (compEnvC scope cl C X.env) fp) ifs tt)
    (hk : ∀ (s : Shared) (H : Hp) (C : Addr) (cl : List (Str × Addr)) (fp : List Addr), PE (X.blk s H scope (compEnvC scope cl C X.env) fp) kx tk)
    (he : ∀ (s : Shared) (H : Hp) (C : Addr) (cl : List (Str × Addr)) (fp : List Addr), PE (X.blk s H scope (compEnvC scope cl C X.env) fp) vx tv) (hs : ∀ x, foldedSetIterable iter X.env x = pure x := by intro _; rfl) :
    PS X (.Assign [.Name y py] (.DictComp kx vx [⟨tg, iter, ifs, 0⟩] scope pos) spos) (tAsg (tDcS o0 ST wi g tt tk tv (own.map (·.2))) (gName i)) := by
  refine ⟨fun pins s σ H D I h => ?_⟩
  rw [exec_Assign_Name_used _ _ _ _ hsw]
  refine wpAny_bind (wpAny_standAt (wpAny_bind ?_))
  show wpAny _ X.A (do let _ ← comprehension (.DictComp kx vx [⟨tg, iter, ifs, 0⟩] scope pos) scope X.env (firstIterPos [⟨tg, iter, ifs, 0⟩] pos) newDict false (eval iter X.env) (some (assign (.Name y py) X.env))) _ _ s
  have h : tDcS o0 ST wi g tt tk tv (own.map (·.2)) σ H (fun x H1 => gName i x σ H1 D.nx) := h
  refine wpAny_bind (thn (dcS_core (Qf := fun _ s' => SP X pins D .next s') B hc hN hi ok hg ht hk he hs h I fun L C s' m H' I' q hn f => ?_) fun _ s' hq => wpAny_pure (wpAny_pure hq))
  show wpAny _ _ (assign (.Name y py) X.env (.ref L)) _ _ _
  obtain ⟨f0, f1, f2, f3, f4, f5⟩ := f
  refine wpAny_assign_Name (store_ok2 (v := V.ref L) I' hN hy (.inl hyl) rfl (fun s2 I2 ⟨a, sb, ha⟩ => ?_) (.inr hyl))
  have haC : C ≠ a := ha.elim (fun z => by rw [z]; exact f1) fun z e => f4 y a z e.symm
  exact ⟨m, hn.sameBut sb haC, fun h3 sb3 => ⟨_, H', I2.turned (t' := s2.toks) (fun b o hb e => (sb3.2 b hb).trans e) f0 f1 f3 f4 f5, q⟩⟩
end
end S
namespace S
open PySem PySem.Spec PyProof.Rows L2 GenW
/-! for and if with a yield in their bodies -/
section
variable {prog : Program} {w : World} {A : Around} {R : GenEnd} {Y : Protocol} {n : Nat} {s₀ : Shared} {fs : List Frame} {s : Shared} {env : Env}
abbrev notes (env : Env) (x : Value) : Sem PySem.Fin := (do noteFrame x env; theTreesLotGoes x : Sem Unit).wrap (fun _ => .raise x) .raise id id
theorem seg_forLoop {target : Expr} {it : Value} {body : List Stmt}
    (h : wpAny (model prog w) (A.over (.forLoop target it body [] env) fs) (pyNext it) (fun r s' => match r with
        | none => Seg (model prog w) A R Y n s₀ (.block [] env) ((model prog w).den (.block [] env)) fs s'
        | some v => wpAny (model prog w) (A.over (.forLoop target it body [] env) fs) (letOwnedTupleGo target it v) (fun _ s1 =>
            wpAny (model prog w) (A.over (.forLoop target it body [] env) fs) (assign target env v) (fun _ s2 =>
              Seg (model prog w) A R Y n s₀ (.forLoop target it body [] env) ((execs body env).wrap (fun f => match f with
                | .next | .cont => .pure (.again (.forLoop target it body [] env))
                | .brk => .pure (.done .next)
                | .ret v => .pure (.done (.ret v))) (notes env) id id) fs s2)
              (fun x s' => Seg (model prog w) A R Y n s₀ (.forLoop target it body [] env) (notes env x) fs s') s1)
            (fun x s' => Seg (model prog w) A R Y n s₀ (.forLoop target it body [] env) (notes env x) fs s') s')
      (fun x s' => Seg (model prog w) A R Y n s₀ (.forLoop target it body [] env) (notes env x) fs s') s) :
    Seg (model prog w) A R Y n s₀ (.forLoop target it body [] env) ((model prog w).den (.forLoop target it body [] env)) fs s := by
  have hn : ∀ x, (do noteFrame x env; theTreesLotGoes x : Sem Unit).bind (fun _ => (.raise x : Sem PySem.Fin)) = notes env x := fun x => by
    first | exact Sem.bind_eq_wrap _ _ | (rw [Sem.bind_eq_wrap])
  show Seg _ A R Y n s₀ _ ((forTurn target it body [] env).onRaise (fun x => do noteFrame x env; theTreesLotGoes x)) fs s
  unfold forTurn
  rw [Sem.onRaise_eq_wrap]
  refine seg_bind_wrap (wpAny_standAt ?_)
  refine seg_bind_wrap (wpAny_onRaise (wpAny_mono h (fun r s' hr => ?_) fun x s' hx => wpAny_standAt ?_))
  · cases r with
    | none =>
      show Seg _ A R Y n s₀ _ (.pure (.again (.block [] env))) fs s'
      exact seg_again rfl hr
    | some v =>
      show Seg _ A R Y n s₀ _ ((letOwnedTupleGo target it v >>= fun _ => assign target env v >>= fun _ => execs body env >>= fun f => match f with
          | Flow.next => again (Code.forLoop target it body [] env)
          | Flow.cont => again (Code.forLoop target it body [] env)
          | Flow.brk => pure (Fin.done Flow.next)
          | Flow.ret v => pure (Fin.done (Flow.ret v)) : Sem PySem.Fin).wrap Sem.pure _ id id) fs s'
      refine seg_bind_wrap (wpAny_mono hr (fun _ s1 h1 => ?_) fun x s' hx => by rw [hn]; exact hx)
      refine seg_bind_wrap (wpAny_mono h1 (fun _ s2 h2 => ?_) fun x s' hx => by rw [hn]; exact hx)
      rw [Sem.bind_eq_wrap', Sem.wrap_wrap]
      rw [Sem.wrap_congr (execs body env) _ _ (K' := fun f => match f with
            | .next | .cont => .pure (.again (.forLoop target it body [] env))
            | .brk => .pure (.done .next)
            | .ret v => .pure (.done (.ret v))) (H' := notes env)
        (fun f => by cases f <;> rfl) (fun e => by exact hn e)]
      exact h2
  · rw [hn]
    exact hx
/-- a loop's own code, called -/
theorem seg_runOwn {M : Model} {c c' : Code} {K : Flow → Sem PySem.Fin} {H : Value → Sem PySem.Fin} {gd : Bool → Bool} {lv : List Value → List Value}
    (h : ∀ p, Seg M A R Y n s₀ c' (M.den c') (.ret (fun r => ((match r with | .ok f => (.pure f : Sem Flow) | .error e => .raise e).onRaise (cameBack env)).wrap K H gd lv) none (gd false) (lv []) c p [] :: fs) s) :
    Seg M A R Y n s₀ c ((runOwn c' env).wrap K H gd lv) fs s := seg_call h
theorem seg_For {M : Model} {c : Code} {K : Flow → Sem PySem.Fin} {H : Value → Sem PySem.Fin} {gd : Bool → Bool} {lv : List Value → List Value} {target iter : Expr} {body : List Stmt} {pos : Pos}
    (hs : ∀ x, foldedSetIterable iter env x = pure x)
    (h : wpAny M (A.over c fs) (eval iter env) (fun x s1 => wpAny M (A.over c fs) (pyIter x) (fun it s2 =>
      ∀ p, Seg M A R Y n s₀ (.forLoop target it body [] env) (M.den (.forLoop target it body [] env)) (.ret (fun r => ((match r with | .ok f => (.pure f : Sem Flow) | .error e => .raise e).onRaise (cameBack env)).wrap K H gd lv) none (gd false) (lv []) c p [] :: fs) s2)
      (fun x s' => Seg M A R Y n s₀ c (H x) fs s') s1) (fun x s' => Seg M A R Y n s₀ c (H x) fs s') s) :
    Seg M A R Y n s₀ c ((exec (.For target iter body [] pos) env).wrap K H gd lv) fs s := by
  rw [exec_For]
  refine seg_bind_wrap (wpAny_standAt ?_)
  refine seg_bind_wrap (wpAny_mono h (fun x s1 h1 => ?_) fun _ _ hx => hx)
  refine seg_bind_wrap (wpAny_of_eq (hs x) ?_)
  refine seg_bind_wrap (wpAny_standAt ?_)
  refine seg_bind_wrap (wpAny_holding (wpAny_mono h1 (fun it s2 h2 => ?_) fun _ _ hx => hx))
  exact seg_runOwn h2
end
section
variable {X : Cx}
def tGFor (wi : TI) (g : TG) (tb : TGn) : TGn := fun D ys σ H => wi σ H fun J H1 => ∃ W : Nat → Nat → List V → L2.St → Hp → Prop, (∃ m, W 0 m ys σ H1) ∧ ∀ i m ys σ H, W i m ys σ H →
  (J.stop i H ∧ D.nx ys σ H) ∨ (J.go i H ∧ ∃ N : List V → L2.St → Hp → Prop, (∀ ys' σ' H', N ys' σ' H' → ∃ m', m' < m ∧ W (i + 1) m' ys' σ' H') ∧ ∀ x H', J.yld i H x H' → g x σ H' fun σ2 H2 => tb { D with nx := N, ct := N, bk := D.nx } ys σ2 H2)
theorem gs_for {tg iter : Expr} {body : List Stmt} {wi : TI} {g : TG} {tb : TGn} {pos : Pos} (hp : PassesOwn (model X.prog X.w) X.A X.env X.xe) (hc : X.calm = true) (hi : PI X tg iter wi) (hg : PG X tg g) (hb : GSs X body tb)
    (hs : ∀ x, foldedSetIterable iter X.env x = pure x := by intro _; rfl) : GS X (.For tg iter body [] pos) (tGFor wi g tb) := by
  refine ⟨fun A S ip R n ys s₀ c fs K J gd lv s σ H D g0 hn k hI ht => ?_⟩
  obtain ⟨acc0, cc0, r0, I0⟩ := hI
  refine seg_For hs ?_
  rw [g0.over]
  refine wpAny_mono (hi.run _ s σ H _ I0 ht) (fun v s1 h1 => wpAny_mono h1 (fun itv s2 h2 => ?_) fun x s' hx => k.exc n s₀ x s' hx) fun x s' hx => k.exc n s₀ x s' hx
  obtain ⟨it, fp, tn, Jt, H2, e, I2, T, st2, f2, W, ⟨m0, w0⟩, turn⟩ := h2
  subst e
  intro p
  have stat : ∀ {H' : Hp} {acc : Array Value} {cc : Nat}, (∀ b ∈ fp, H' b = none) → ∀ b ∈ fp, FpOk X ((S, lstObj acc cc) :: ip) H' b := fun hn b hb => by
    obtain ⟨q1, q2, q3, q4, q5, q6⟩ := f2 b hb
    refine ⟨hn b hb, q2, q3, q4, q5, fun p hp => ?_⟩
    rcases List.mem_append.mp hp with hp | hp
    · exact q6 p (List.mem_append_left _ hp)
    · rcases List.mem_cons.mp hp with hp | hp
      · rw [hp]
        exact q6 (S, lstObj acc0 cc0) (List.mem_append_right _ List.mem_cons_self)
      · exact q6 p (List.mem_append_right _ (List.mem_cons_of_mem _ hp))
  have nS : ∀ b ∈ fp, b ≠ S := fun b hb e => by
    obtain ⟨_, _, _, _, _, q6⟩ := f2 b hb
    exact q6 (S, lstObj acc0 cc0) (List.mem_append_right _ List.mem_cons_self) e.symm
  have gl := fun (kk : Result → Sem PySem.Fin) => gc_loop (k := kk) (c' := .forLoop tg (.ref it) body [] X.env) (l := lv []) (kp := []) (p := p) g0 rfl rfl
  have loop : ∀ (m n : Nat) (i : Nat) (ys : List V) (s₀ s : Shared) (σ : L2.St) (H : Hp) (acc : Array Value) (cc : Nat), n + ys.length = sizeLine → W i m ys σ H → Vals ys acc.toList → Inv X ((S, lstObj acc cc) :: ip) σ H s → tn i s.heap → (∀ b ∈ fp, H b = none) →
      Seg (model X.prog X.w) A R (GY X S) n s₀ (.forLoop tg (.ref it) body [] X.env) ((model X.prog X.w).den (.forLoop tg (.ref it) body [] X.env))
        (.ret (fun r => ((match r with | .ok f => (.pure f : Sem Flow) | .error e => .raise e).onRaise (cameBack X.env)).wrap K J gd lv) none (gd false) (lv []) c p [] :: fs) s := by
    intro m
    induction m using Nat.strongRecOn with
    | ind m ih =>
      intro n i ys s₀ s σ H acc cc hn w r I st fr
      have ee : ∀ (n : Nat) (s₀ : Shared) (x : Value) (s' : Shared), X.xe x s' → Seg (model X.prog X.w) A R (GY X S) n s₀ (.forLoop tg (.ref it) body [] X.env) (notes X.env x)
          (.ret (fun r => ((match r with | .ok f => (.pure f : Sem Flow) | .error e => .raise e).onRaise (cameBack X.env)).wrap K J gd lv) none (gd false) (lv []) c p [] :: fs) s' := fun n s₀ x s' hx => by
        refine seg_wrap ?_
        rw [(gl _).over]
        refine wpAny_bind (wpAny_mono (hp x s' hx) (fun _ s'' hcb => wpAny_theTreesLotGoes ?_) fun y s'' hcb => ?_)
        · exact seg_leaf (.error x) (seg_cameBack g0 k hcb)
        · exact seg_leaf (.error y) (seg_cameBack g0 k hcb)
      refine seg_forLoop ?_
      rw [(gl _).over]
      rcases turn i m ys σ H w with ⟨stop, qn⟩ | ⟨go, N, hN, step⟩
      · refine wpAny_mono (T.done X rfl rfl rfl hc i _ s σ H X.xe I (stat fr) st stop) (fun r' s4 ⟨hr, I4⟩ => ?_) fun x s' hx => ee n s₀ x s' hx
        subst hr
        show Seg _ _ _ _ _ _ _ ((model X.prog X.w).den (.block [] X.env)) _ _
        show Seg _ _ _ _ _ _ _ (.pure (.done .next)) _ _
        exact seg_leaf (.ok .next) (k.ok n ys s₀ s4 .next hn ⟨σ, H, ⟨acc, cc, r, I4⟩, qn⟩)
      · refine wpAny_mono (T.item X rfl rfl rfl hc i _ s σ H X.xe I (stat fr) st go) (fun r' s4 ⟨u, hr, h4⟩ => ?_) fun x s' hx => ee n s₀ x s' hx
        subst hr
        refine wpAny_mono h4 (fun _ s5 ⟨x, H5, I5, r5, y5, st5, fr5⟩ => ?_) fun x s' hx => ee n s₀ x s' hx
        have I5' := I5.pinned (stat fr5) (T.obj _ _ st5)
        refine wpAny_mono (hg.run _ s5 σ H5 x u _ I5' r5 (step x H5 y5)) (fun _ s6 ⟨σ6, H6, I6, q6⟩ => ?_) fun x s' hx => ee n s₀ x s' hx
        refine hb.run A S (ip ++ pinsAt fp s5.heap) R n ys s₀ _ _ _ _ id id s6 σ6 H6 { D with nx := N, ct := N, bk := D.nx } ⟨g0.pn, fun p hp => ?_, g0.apart, (gl _).over, (gl _).split, (gl _).guard, rfl⟩ hn ⟨fun n' ys' s₀' s3 f hn' hs => ?_, fun n' s₀' x s3 hx => ee n' s₀' x s3 hx⟩ ⟨acc, cc, r, I6⟩ q6
        · rcases List.mem_append.mp hp with hp | hp
          · exact g0.ip p hp
          · exact nS _ (of_pinsAt hp).1
        have again : ∀ {σ7 : L2.St} {H7 : Hp}, GI X S (ip ++ pinsAt fp s5.heap) ys' σ7 H7 s3 → N ys' σ7 H7 → Seg (model X.prog X.w) A R (GY X S) n' s₀' (.forLoop tg (.ref it) body [] X.env) (.pure (.again (.forLoop tg (.ref it) body [] X.env)))
            (.ret (fun r => ((match r with | .ok f => (.pure f : Sem Flow) | .error e => .raise e).onRaise (cameBack X.env)).wrap K J gd lv) none (gd false) (lv []) c p [] :: fs) s3 := fun {σ7 H7} I7 n7 => by
          obtain ⟨acc7, cc7, r7, I7⟩ := I7
          obtain ⟨m', hm, w7⟩ := hN ys' σ7 H7 n7
          have pin7 : ∀ {b : Addr} {o : Obj}, b ∈ fp → s5.heap.get? b = some o → (b, o) ∈ X.pn ++ ((S, lstObj acc7 cc7) :: (ip ++ pinsAt fp s5.heap)) := fun hb e => List.mem_append_right _ (List.mem_cons_of_mem _ (List.mem_append_right _ (mem_pinsAt hb e)))
          have I8 : Inv X (((S, lstObj acc7 cc7) :: ip) ++ pinsAt fp s5.heap) σ7 H7 s3 := I7
          refine seg_again rfl (ih m' hm n' (i + 1) ys' s₀' s3 σ7 H7 acc7 cc7 hn' w7 r7 I8.unpinned (T.keep _ _ _ st5 fun b hb o e => (I7.pin (b, o) (pin7 hb e)).1) fun b hb => ?_)
          obtain ⟨o, e, d⟩ := T.obj _ _ st5 b hb
          exact (I7.pin (b, o) (pin7 hb e)).2.1
        cases f with
        | next =>
          obtain ⟨σ7, H7, I7, n7⟩ := hs
          exact again I7 n7
        | cont =>
          obtain ⟨σ7, H7, I7, n7⟩ := hs
          exact again I7 n7
        | brk =>
          obtain ⟨σ7, H7, ⟨acc7, cc7, r7, I7⟩, q7⟩ := hs
          have I8 : Inv X (((S, lstObj acc7 cc7) :: ip) ++ pinsAt fp s5.heap) σ7 H7 s3 := I7
          exact seg_leaf (.ok .next) (k.ok n' ys' s₀' s3 .next hn' ⟨σ7, H7, ⟨acc7, cc7, r7, I8.unpinned⟩, q7⟩)
        | ret v =>
          obtain ⟨v7, σ7, H7, ⟨acc7, cc7, r7, I7⟩, rv, q7⟩ := hs
          have I8 : Inv X (((S, lstObj acc7 cc7) :: ip) ++ pinsAt fp s5.heap) σ7 H7 s3 := I7
          exact seg_leaf (.ok (.ret v)) (k.ok n' ys' s₀' s3 (.ret v) hn' ⟨v7, σ7, H7, ⟨acc7, cc7, r7, I8.unpinned⟩, rv, q7⟩)
  exact loop m0 n 0 ys s₀ s2 σ H2 acc0 cc0 hn w0 r0 I2 st2 fun b hb => (f2 b hb).1
theorem gfor_list {K : Frag} {a : Addr} {xs : List V} {g : TG} {tb : TGn} {D : GEnds} {ys : List V} {σ : L2.St} {H : Hp} (Pv : Nat → List V → L2.St → Hp → Prop) (h0 : Pv 0 ys σ H) (hl : ∀ i ys σ H, i ≤ xs.length → Pv i ys σ H → SqL K H a xs)
    (hs : ∀ i x ys σ H, xs[i]? = some x → Pv i ys σ H → g x σ H fun σ2 H2 => tb { D with nx := Pv (i + 1), ct := Pv (i + 1), bk := D.nx } ys σ2 H2) (hd : ∀ ys σ H, Pv xs.length ys σ H → D.nx ys σ H) :
    ∃ W : Nat → Nat → List V → L2.St → Hp → Prop, (∃ m, W 0 m ys σ H) ∧ ∀ i m ys σ H, W i m ys σ H →
      ((Itl K a).stop i H ∧ D.nx ys σ H) ∨ ((Itl K a).go i H ∧ ∃ N : List V → L2.St → Hp → Prop, (∀ ys' σ' H', N ys' σ' H' → ∃ m', m' < m ∧ W (i + 1) m' ys' σ' H') ∧ ∀ x H', (Itl K a).yld i H x H' → g x σ H' fun σ2 H2 => tb { D with nx := N, ct := N, bk := D.nx } ys σ2 H2) := by
  refine ⟨fun i m ys σ H => m = xs.length - i ∧ i ≤ xs.length ∧ Pv i ys σ H, ⟨xs.length, by simp, Nat.zero_le _, h0⟩, ?_⟩
  rintro i m ys σ H ⟨rfl, hi, p⟩
  have q := hl i ys σ H hi p
  by_cases hlt : i < xs.length
  · refine .inr ⟨⟨xs, xs[i], q, by simp [hlt]⟩, Pv (i + 1), fun ys' σ' H' p' => ⟨xs.length - (i + 1), by omega, rfl, hlt, p'⟩, fun x H' y => ?_⟩
    obtain ⟨e, y⟩ := y
    subst e
    exact hs i x ys σ _ (y xs q) p
  · have e : i = xs.length := by omega
    subst e
    exact .inl ⟨⟨xs, q, Nat.le_refl _⟩, hd ys σ H p⟩
theorem gfor_range {lo : Int} {n : Nat} {g : TG} {tb : TGn} {D : GEnds} {ys : List V} {σ : L2.St} {H : Hp} (Pv : Nat → List V → L2.St → Hp → Prop) (h0 : Pv 0 ys σ H)
    (hs : ∀ i ys σ H, i < n → Pv i ys σ H → g (.int (lo + i)) σ H fun σ2 H2 => tb { D with nx := Pv (i + 1), ct := Pv (i + 1), bk := D.nx } ys σ2 H2) (hd : ∀ ys σ H, Pv n ys σ H → D.nx ys σ H) :
    ∃ W : Nat → Nat → List V → L2.St → Hp → Prop, (∃ m, W 0 m ys σ H) ∧ ∀ i m ys σ H, W i m ys σ H →
      ((Itr lo n).stop i H ∧ D.nx ys σ H) ∨ ((Itr lo n).go i H ∧ ∃ N : List V → L2.St → Hp → Prop, (∀ ys' σ' H', N ys' σ' H' → ∃ m', m' < m ∧ W (i + 1) m' ys' σ' H') ∧ ∀ x H', (Itr lo n).yld i H x H' → g x σ H' fun σ2 H2 => tb { D with nx := N, ct := N, bk := D.nx } ys σ2 H2) := by
  refine ⟨fun i m ys σ H => m = n - i ∧ i ≤ n ∧ Pv i ys σ H, ⟨n, by simp, Nat.zero_le _, h0⟩, ?_⟩
  rintro i m ys σ H ⟨rfl, hi, p⟩
  by_cases hlt : i < n
  · refine .inr ⟨hlt, Pv (i + 1), fun ys' σ' H' p' => ⟨n - (i + 1), by omega, rfl, hlt, p'⟩, fun x H' y => ?_⟩
    obtain ⟨e, y⟩ := y
    subst e y
    exact hs i ys σ _ hlt p
  · have e : i = n := by omega
    subst e
    exact .inl ⟨Nat.le_refl _, hd ys σ H p⟩
def tGIf (c : TT) (t u : TGn) : TGn := fun D ys σ H => c σ H fun b H1 => if b = true then t D ys σ H1 else u D ys σ H1
theorem gs_if {c : Expr} {a b : List Stmt} {tc : TT} {t u : TGn} {pos : Pos} (hc : PT X c tc) (ha : GSs X a t) (hb : GSs X b u) : GS X (.If c a b pos) (tGIf tc t u) := by
  refine ⟨fun A S ip R n ys s₀ cd fs K J gd lv s σ H D g hn k hI ht => ?_⟩
  obtain ⟨acc, cc, r, I⟩ := hI
  rw [exec_If]
  refine seg_bind_wrap (wpAny_standAt ?_)
  refine seg_bind_wrap ?_
  rw [g.over]
  refine wpAny_mono (hc.run _ s σ H _ I ht) (fun d s1 h1 => ?_) fun x s' hx => k.exc n s₀ x s' hx
  obtain ⟨H1, I1, q⟩ := h1
  cases d with
  | true => exact ha.run A S ip R n ys s₀ cd fs K J gd lv s1 σ H1 D g hn k ⟨acc, cc, r, I1⟩ q
  | false => exact hb.run A S ip R n ys s₀ cd fs K J gd lv s1 σ H1 D g hn k ⟨acc, cc, r, I1⟩ q
end
/-! a generator def's promise, by the number of its arguments -/
def SpG1 (f : V → Hp → (List V → Hp → Prop) → XK → Prop) : SpG := fun vs H Q E => ∃ x, vs = [x] ∧ f x H Q E
def SpG2 (f : V → V → Hp → (List V → Hp → Prop) → XK → Prop) : SpG := fun vs H Q E => ∃ x y, vs = [x, y] ∧ f x y H Q E
section
variable {vs : List V} {H : Hp} {Q : List V → Hp → Prop} {E : XK}
theorem sgplen1 {f} (h : SpG1 f vs H Q E) : vs.length = 1 := by obtain ⟨_, rfl, _⟩ := h; rfl
theorem sgplen2 {f} (h : SpG2 f vs H Q E) : vs.length = 2 := by obtain ⟨_, _, rfl, _⟩ := h; rfl
end
section
variable {P : Program} {w : World} {K : PySem.W.Frag} {mg : Str → Option Value} {base : Heap} {x qual : Str} {params : Arguments} {body : List Stmt} {scope : Scope} {dvs : List V} {kws : List (Str × V)} {f : Addr} {fd : FuncData}
theorem FunD.okG {N ps : List Str} {k : Nat} {sp : SpG} (F : FunD K x qual params body scope dvs kws f fd) (S : GScope N ps scope) (len : ∀ vs H Q E, sp vs H Q E → vs.length = ps.length)
    (hbody : ∀ (cdv : Value) (A : Around) (outer : List Env) (s : Shared) (H : Hp) (vs : List V) (Q : List V → Hp → Prop) (E : XK) (pn : List (Addr × Obj)), Room k (A.deeper (envOfC qual scope s.heap.objs.size f cdv)) → sp vs H Q E →
      ∃ t, GSs (gcxOf P w K mg base N qual scope f cdv A outer s H E pn) body t ∧ t { nx := fun ys _ H' => Q ys H', rt := fun ys v H' => v = .non ∧ Q ys H' } [] (L2.start N vs) H) : GFn P w K mg base (k + 1) f fd ps sp := by
  obtain ⟨oc, od, dV, kV, doc, pm, an, cdv, ct, osl, rfl, lk, hcd, _, _⟩ := F.ex
  exact gfn_of lk hcd S len fun A outer s H vs Q E pn hr hsp => hbody cdv A outer s H vs Q E pn hr hsp
end
/-! one def, two promises -/
def spOr (a b : Sp) : Sp := fun vs H Q E => a vs H Q E ∨ b vs H Q E
theorem fnOr {P : Program} {w : World} {K : PySem.W.Frag} {mg : Str → Option Value} {base : Heap} {CX : CXT} {k : Nat} {f : Addr} {fd : FuncData} {ps : List Str} {a b : Sp} (h1 : FnOk P w K mg base CX k f fd ps a) (h2 : FnOk P w K mg base CX k f fd ps b) : FnOk P w K mg base CX k f fd ps (spOr a b) where
  len := fun vs H Q E h => h.elim (h1.len vs H Q E) (h2.len vs H Q E)
  run := fun A outer s H args us vs Q E hr e0 hb r h => h.elim (h1.run A outer s H args us vs Q E hr e0 hb r) (h2.run A outer s H args us vs Q E hr e0 hb r)
/-! a def without arguments -/
def Sp0 (f : Hp → VK → XK → Prop) : Sp := fun vs H Q E => vs = [] ∧ f H Q E
theorem splen0 {f : Hp → VK → XK → Prop} {vs : List V} {H : Hp} {Q : VK} {E : XK} (h : Sp0 f vs H Q E) : vs.length = 0 := by obtain ⟨rfl, _⟩ := h; rfl
section
variable {X : Cx} {CX : CXT} {k : Nat} {f : Addr} {fd : FuncData} {ps ks : List Str} {sp : Sp} {E : L2.St → XK} {x : Str} {p pos : Pos} {kws : List Keyword} {tk : TA} {g : List Value → List Value → List Value} {gV : List V → List V → List V}
theorem pe_fnS0 (F : FnOk X.prog X.w X.K X.mg X.base CX k f fd ps sp) (hr : Room k X.A) (hg : Gl X x) (hm : X.mg x = some (.ref f)) (hk : PySem.W.keepIn X.K (.ref f) = true) (hb : KBn X.K fd ps 0 ks g gV) (hx : ∀ σ, PassesAt CX X σ (E σ))
    (hkw : PK X kws tk) (hall : (backToKw pos (keywordEach kws X.env)).all (·.1.isSome) = true) (hks : (backToKw pos (keywordEach kws X.env)).filterMap (·.1) = ks)
    (hdb : (x == ("__debug__" : Str)) = false := by decide)
    (hpl : ((backTo pos (starEach [] X.env)).any (·.1) || (backToKw pos (keywordEach kws X.env)).any (·.1.isNone)) = false := by rfl) :
    PE X (.Call (.Name x p) [] kws pos) (tFnS 0 ks.length sp gV E tNil tk) := ⟨fun pins s σ H Q I h =>
  wpAny_Call_Name_kw (ld_glob I hg hm (PySem.W.callWith_KW0 (first := []) (h₀ := X.base) I.ok.mod.kin hk hall
    (thn (hkw.run pos pins s σ H _ I h) fun ws s2 ⟨zs, H2, I2, rz, l1, l2, q2⟩ => ⟨I2.kIn, by rw [hks]; exact run_S (us := []) (vs := []) F hr hb (hx σ) I2 .nil rz l1 l2 q2⟩) hpl) hdb)⟩
end
theorem isiLT {X : Cx} {K : Frag} (hK : X.K = K) (u : Value) : CallR X (.builtin "isinstance") (SlX.rIsiSl K u) := hK ▸ SlX.call_isiSl u
end S
namespace S
open PySem PySem.Spec PyProof.Rows L2
/-! defs of seven arguments -/
def Sp7 (f : V → V → V → V → V → V → V → Hp → VK → XK → Prop) : Sp := fun vs H Q E => ∃ x y z u v w t, vs = [x, y, z, u, v, w, t] ∧ f x y z u v w t H Q E
theorem splen7 {vs : List V} {H : Hp} {Q : VK} {E : XK} {f} (h : Sp7 f vs H Q E) : vs.length = 7 := by obtain ⟨_, _, _, _, _, _, _, rfl, _⟩ := h; rfl
end S
namespace S
open PySem PySem.Spec PyProof.Rows L2 HT
/-! t[::-1] of a tuple -/
section
variable {prog : Program} {w : World} {A : Around} {E : Value → Shared → Prop} {s : Shared}
theorem rv_places (n : Nat) : Builtin.Slice.slicePlaces ((n : Int) - 1) (-1) (-1) = n := by
  unfold Builtin.Slice.slicePlaces
  rw [if_neg (by decide)]
  by_cases c : (n : Int) - 1 > -1
  · rw [if_pos c, show (- -1 : Int) = 1 by decide, Int.ediv_one]
    omega
  · rw [if_neg c]
    omega
theorem rv_part {v : Value} {o : Option Int} {Q : Option Int → Shared → Prop} (p : IsPart v o) (h : Q o s) : wpAny (model prog w) A (Builtin.Slice.slicePartIndex v) Q E s := slicePart_ p h
theorem rv_applied {sl : Addr} {vl vu vs : Value} {n : Nat} {Q : Int × Int × Nat → Shared → Prop} (hs : s.heap.IsSliceOf sl vl vu vs) (pl : IsPart vl none) (pu : IsPart vu none) (ps : IsPart vs (some (-1))) (h : Q ((n : Int) - 1, -1, n) s) :
    wpAny (model prog w) A (Builtin.Slice.sliceApplied (.ref sl) (pure (n : Int))) Q E s := by
  obtain ⟨ob, g1, g2, g3⟩ := id hs
  unfold Builtin.Slice.sliceApplied Builtin.Slice.sliceFields
  refine wpAny_bind (wpAny_bind (wpAny_field g1 g3 (x := vl) rfl (wpAny_bind (wpAny_field g1 g3 (x := vu) rfl (wpAny_bind (wpAny_field g1 g3 (x := vs) rfl (wpAny_pure ?_)))))))
  refine wpAny_bind (rv_part ps ?_)
  show wpAny _ _ (if ((-1 : Int) == 0) = true then _ else _) _ _ s
  rw [if_neg (show ¬ ((-1 : Int) == 0) = true by decide)]
  refine wpAny_bind (rv_part pl (wpAny_bind (rv_part pu (wpAny_bind (wpAny_pure ?_)))))
  show wpAny _ _ (pure ((n : Int) - 1, (-1 : Int), Builtin.Slice.slicePlaces ((n : Int) - 1) (-1) (-1))) _ _ s
  rw [rv_places]
  exact wpAny_pure h
theorem rv_pick (xs : Array Value) : ((List.range xs.size).filterMap fun (m : Nat) => xs[(((xs.size : Int) - 1) + (m : Int) * (-1)).toNat]?).toArray = xs.toList.reverse.toArray := by
  have e : ((List.range xs.size).filterMap fun (m : Nat) => xs[(((xs.size : Int) - 1) + (m : Int) * (-1)).toNat]?) = ((List.range xs.size).map fun m => xs.size - 1 - m).filterMap (xs[·]?) := by
    rw [List.filterMap_map]
    congr 1
    funext m
    have : (((xs.size : Int) - 1) + (m : Int) * (-1)).toNat = xs.size - 1 - m := by omega
    rw [this]
    rfl
  rw [e, PySem.W.krv_range, List.filterMap_reverse, PySem.W.krv_all]
theorem rv_get {t sl : Addr} {its : Array Value} {vl vu vs : Value} {Q : Value → Shared → Prop} (ht : IsTup s.heap t its) (hs : s.heap.IsSliceOf sl vl vu vs) (pl : IsPart vl none) (pu : IsPart vu none) (ps : IsPart vs (some (-1)))
    (h : Q (.ref s.heap.objs.size) { s with heap := s.heap.push { cls := .type "tuple", data := .seq its.toList.reverse.toArray } }) (hz : its.size ≤ sizeLine) : wpAny (model prog w) A (getItem (.ref t) (.ref sl)) Q E s := by
  have hk : sizeOk (.seq its.toList.reverse.toArray) := by
    show its.toList.reverse.toArray.size ≤ sizeLine
    rw [List.size_toArray, List.length_reverse, Array.length_toList]; exact hz
  obtain ⟨ob, g1, g2, g3⟩ := id hs
  have tS : s.TypeIs (.ref sl) "slice" := ⟨ob, g1, g2⟩
  unfold getItem
  first | (with_reducible refine wpAny_holding ?_; refine wpAny_bind (wpAny_pure ?_)) | (with_reducible refine wpAny_holding ?_) | refine wpAny_bind (wpAny_pure ?_) | skip
  refine wpAny_bind (wpAny_sequenceKey ht.typeIs (by decide) (wpAny_bind (wpAny_callSpecial?_slot (name := Str.ofString "__getitem__") ht.typeIs PyProof.Rows.slot_tuple_getitem (wpAny_call_entry PyProof.Rows.slot_tuple_getitem ht.typeIs entry_tuple_getitem ?_ (args_tuple_getitem _ _)))))
  show wpAny _ _ (Builtin.Tuple.tupleItemsOf (.ref t) >>= _) _ _ _
  refine wpAny_bind (tupleItemsOf_ ht (wpAny_bind (wpAny_typeOf tS ?_)))
  rw [if_pos (show _ from by decide)]
  refine wpAny_bind (rv_applied hs pl pu ps ?_)
  have hno : ¬ ((((its.size : Int) - 1) == 0 && (-1 : Int) == 1 && its.size == its.size) = true) := by simp
  show wpAny _ _ (if (((its.size : Int) - 1) == 0 && (-1 : Int) == 1 && its.size == its.size) = true then _ else _) _ _ s
  rw [if_neg hno, rv_pick]
  first | exact wpAny_bind (m := Builtin.Tuple.tupleExact _) (wpAny_newObj_type (wpAny_pure ⟨_, rfl, wpAny_pure h⟩) hk) | exact wpAny_bind (m := Builtin.Tuple.tupleExact _) (wpAny_newObj_type (wpAny_bind (wpAny_pure (wpAny_pure ⟨_, rfl, wpAny_pure h⟩))) hk) | exact wpAny_bind (wpAny_bind (m := Builtin.Tuple.tupleExact _) (wpAny_newObj_type (wpAny_pure (wpAny_pure ⟨_, rfl, wpAny_pure h⟩)) hk)) | exact wpAny_bind (wpAny_bind (m := Builtin.Tuple.tupleExact _) (wpAny_newObj_type (wpAny_pure ⟨_, rfl, wpAny_pure h⟩) hk))
end
section
variable {X : Cx} {K : Frag}
def tRevT (K : Frag) (te : TE) : TE := fun σ H Q => te σ H fun x H1 => ∃ a xs, x = .ref a ∧ SqT K H1 a xs ∧ ∀ p, H1 p = none → Q (.ref p) (upd H1 p (.tup xs.reverse))
theorem pe_revTK (hK : X.K = K) {e : Expr} {te : TE} {k : Nat} {p1 p2 p3 pos : Pos} (he : PE X e te) : PE X (.Subscript e (.Slice none none (some (.UnaryOp .USub (.Constant (.int 1) k p1) p2)) p3) pos) (tRevT K te) := by
  subst hK
  refine ⟨fun pins s σ H Q I h => ?_⟩
  refine Subscript_ (thn (he.run pins s σ H _ I h) fun v s1 ⟨x, H1, I1, r1, q1⟩ => ?_)
  obtain ⟨a, xs, rfl, hx, q⟩ := q1
  cases r1
  have hst : PO X (some (.UnaryOp .USub (.Constant (.int 1) k p1) p2)) (tPart (tUn (rU fun i => .int (-i)) (tC (.int 1)))) := po_some (pe_un un_neg pe_int)
  refine wpAny_Slice (thn (po_none.run pins s1 σ H1 (fun o Hx => o = none ∧ Hx = H1) I1 ⟨rfl, rfl⟩) fun vl s2 ⟨l, H2, I2, pl, el, e2⟩ => thn (po_none.run pins s2 σ H2 (fun o Hx => o = none ∧ Hx = H2) I2 ⟨rfl, rfl⟩) fun vu s3 ⟨u, H3, I3, pu, eu, e3⟩ => thn (hst.run pins s3 σ H3 (fun o Hx => o = some (-1) ∧ Hx = H3) I3 ⟨1, rfl, -1, rfl, rfl, rfl⟩) fun vs s4 ⟨o, H4, I4, ps, eo, e4⟩ => ?_)
  subst el e2 eu e3 eo e4
  have I5 : Inv X pins σ H4 { s4 with heap := s4.heap.push { cls := .type "slice", data := .fields #[vl, vu, vs] } } := I4.kept (t' := s4.toks) fun b ob y => Heap.get?_push_of_some _ y
  obtain ⟨its, r, ht, hz⟩ := I5.tuple hx
  have hl := r.length
  refine tail_any (ops := [.ref a, .ref s4.heap.objs.size]) ht.typeIs PyProof.Rows.slot_tuple_getitem.lookup ?_ (by with_unfolding_all rfl)
  refine rv_get ht (Heap.IsSliceOf.new _ vl vu vs) pl pu ps ?_ (by rw [List.size_toArray]; omega)
  refine ⟨.ref _, _, I5.laid (t' := s4.toks) (o := .tup xs.reverse) (fun b ob y => Heap.get?_push_of_some _ y) (Nat.le_refl _) ?_, rfl, q _ (I5.hok.fresh (Nat.le_refl _))⟩
  exact ⟨by rw [List.length_reverse]; exact hz, _, r.reverse, IsTup.new _ _⟩
end
end S
namespace S
open PySem PySem.Spec PyProof.Rows L2
/-! ### tuples whose items are compared by an own == and an own < -/
section
open PySem.SeqAt
open AutoSeq1 (wpAny_loadPart')
open MeetsSeq MeetsSeq2 MeetsSeq3 SeqRoads2
variable {prog : Program} {w : World} {A : Around} {R : Result → Shared → Prop}
theorem tupB_eq (l b : Addr) (items items2 : Array Value) (n n2 : Nat) (dd dd2 : Option Addr) (sl sl2 : Array (Option Value)) (hsz : items.size = items2.size) (I : Nat → Shared → Prop)
    (turn : ∀ i (h1 : i < items.size) (h2 : i < items2.size) s, I i s → wpAny (model prog w) A.in1 (eqBool items[i] items2[i]) (fun r s' => if r = true then I (i + 1) s' else R (.ok (.ret (.bool false))) s') (fun e s' => R (.error e) s') s)
    (fin : ∀ s, I items.size s → R (.ok (.ret (.bool true))) s) {s : Shared} (hl1 : s.heap.get? l = some { cls := .type "tuple", dict := dd, data := .seq items n, slots := sl }) (hb1 : s.heap.get? b = some { cls := .type "tuple", dict := dd2, data := .seq items2 n2, slots := sl2 }) (h : I 0 s) :
    wpAny (model prog w) A.in1 (Builtin.«tuple.__eq__» ⟨[.ref l, .ref b], []⟩) (GQ.FinOf prog w A R) (fun e s' => R (.error e) s') s := by
  have f2 := AutoSeq1.sub_tuple_tuple
  have hZ : (items.toList.zip items2.toList).length = items.size := by simp [hsz]
  have h0 := h
  obtain ⟨hp, g, d, tk, os⟩ := s
  wp_walk using wpAny_loadPart' hl1, wpAny_loadPart' hb1, wpAny_forIn_list _ (fun rest b s' => b.1 = none ∧ ∃ i, rest = (items.toList.zip items2.toList).drop i ∧ i ≤ items.size ∧ I i s') _
  case turn =>
    rintro ⟨y, x⟩ rest b s' ⟨hb', i, hz, hi, hI⟩
    have hlt : i < (items.toList.zip items2.toList).length := by
      rcases Nat.lt_or_ge i (items.toList.zip items2.toList).length with h' | h'
      · exact h'
      · rw [List.drop_of_length_le h'] at hz; cases hz
    have h1 : i < items.size := hZ ▸ hlt
    have h2 : i < items2.size := hsz ▸ h1
    rw [List.drop_eq_getElem_cons hlt] at hz
    injection hz with hyx hrest
    have hy : y = items[i] := by have := congrArg Prod.fst hyx; simpa using this
    have hx : x = items2[i] := by have := congrArg Prod.snd hyx; simpa using this
    subst hy hx
    refine wpAny_bind (wpAny_mono (turn i h1 h2 s' hI) (fun r s2 q2 => ?_) fun _ _ x => x)
    cases r with
    | true =>
      rw [if_pos rfl] at q2
      wp_walk
      exact ⟨rfl, i + 1, hrest, h1, q2⟩
    | false =>
      rw [if_neg Bool.false_ne_true] at q2
      obtain ⟨hp2, g2, d2, tk2, os2⟩ := s2
      wp_walk
      exact q2
  case fin =>
    rintro ⟨b1, b2⟩ s' ⟨hb', i, hz, hi, hI⟩
    simp only at hb'
    subst hb'
    have hge : items.size ≤ i := by
      rcases Nat.lt_or_ge i (items.toList.zip items2.toList).length with h' | h'
      · rw [List.drop_eq_getElem_cons h'] at hz; cases hz
      · exact hZ ▸ h'
    have hi' : i = items.size := by omega
    have hR : R (.ok (.ret (.bool true))) s' := fin s' (hi' ▸ hI)
    wp_walk
    simpa [Builtin.Tuple.tupleCompareSizes, hsz] using hR
  case h =>
    exact ⟨rfl, 0, rfl, Nat.zero_le _, h0⟩
theorem tupB_lt (l b : Addr) (items items2 : Array Value) (n n2 : Nat) (dd dd2 : Option Addr) (sl sl2 : Array (Option Value)) (hsz : items.size = items2.size) (I : Nat → Shared → Prop)
    (turn : ∀ i (h1 : i < items.size) (h2 : i < items2.size) s, I i s → wpAny (model prog w) A.in1 (eqBool items[i] items2[i]) (fun r s' => if r = true then I (i + 1) s' else wpAny (model prog w) A.in1 (richCompare .Lt items[i] items2[i]) (fun v s2 => R (.ok (.ret v)) s2) (fun e s2 => R (.error e) s2) s') (fun e s' => R (.error e) s') s)
    (fin : ∀ s, I items.size s → R (.ok (.ret (.bool false))) s) {s : Shared} (hl1 : s.heap.get? l = some { cls := .type "tuple", dict := dd, data := .seq items n, slots := sl }) (hb1 : s.heap.get? b = some { cls := .type "tuple", dict := dd2, data := .seq items2 n2, slots := sl2 }) (h : I 0 s) :
    wpAny (model prog w) A.in1 (Builtin.«tuple.__lt__» ⟨[.ref l, .ref b], []⟩) (GQ.FinOf prog w A R) (fun e s' => R (.error e) s') s := by
  have f2 := AutoSeq1.sub_tuple_tuple
  have hZ : (items.toList.zip items2.toList).length = items.size := by simp [hsz]
  have h0 := h
  obtain ⟨hp, g, d, tk, os⟩ := s
  wp_walk using wpAny_loadPart' hl1, wpAny_loadPart' hb1, wpAny_forIn_list _ (fun rest b s' => b.1 = none ∧ ∃ i, rest = (items.toList.zip items2.toList).drop i ∧ i ≤ items.size ∧ I i s') _
  case turn =>
    rintro ⟨y, x⟩ rest b s' ⟨hb', i, hz, hi, hI⟩
    have hlt : i < (items.toList.zip items2.toList).length := by
      rcases Nat.lt_or_ge i (items.toList.zip items2.toList).length with h' | h'
      · exact h'
      · rw [List.drop_of_length_le h'] at hz; cases hz
    have h1 : i < items.size := hZ ▸ hlt
    have h2 : i < items2.size := hsz ▸ h1
    rw [List.drop_eq_getElem_cons hlt] at hz
    injection hz with hyx hrest
    have hy : y = items[i] := by have := congrArg Prod.fst hyx; simpa using this
    have hx : x = items2[i] := by have := congrArg Prod.snd hyx; simpa using this
    subst hy hx
    refine wpAny_bind (wpAny_mono (turn i h1 h2 s' hI) (fun r s2 q2 => ?_) fun _ _ x => x)
    cases r with
    | true =>
      rw [if_pos rfl] at q2
      wp_walk
      exact ⟨rfl, i + 1, hrest, h1, q2⟩
    | false =>
      rw [if_neg Bool.false_ne_true] at q2
      obtain ⟨hp2, g2, d2, tk2, os2⟩ := s2
      generalize richCompare CmpOp.Lt items[i] items2[i] = rc at q2 ⊢
      wp_walk
      refine wpAny_mono q2 (fun v s3 q3 => ?_) fun _ _ x => x
      obtain ⟨hp3, g3, d3, tk3, os3⟩ := s3
      wp_walk
      exact q3
  case fin =>
    rintro ⟨b1, b2⟩ s' ⟨hb', i, hz, hi, hI⟩
    simp only at hb'
    subst hb'
    have hge : items.size ≤ i := by
      rcases Nat.lt_or_ge i (items.toList.zip items2.toList).length with h' | h'
      · rw [List.drop_eq_getElem_cons h'] at hz; cases hz
      · exact hZ ▸ h'
    have hi' : i = items.size := by omega
    have hR : R (.ok (.ret (.bool false))) s' := fin s' (hi' ▸ hI)
    wp_walk
    simpa [Builtin.Tuple.tupleCompareSizes, hsz] using hR
  case h =>
    exact ⟨rfl, 0, rfl, Nat.zero_le _, h0⟩
end
section
open PySem.SeqAt
open MeetsSeq MeetsSeq2 MeetsSeq3 SeqRoads2
variable {prog : Program} {w : World} {A : Around} {E : Value → Shared → Prop} {s : Shared} {l b : Addr} {items items2 : Array Value} {Q : Value → Shared → Prop}
theorem rc_tupB (hsz : items.size = items2.size) (hu : A.units < cLine) (I : Nat → Shared → Prop) (hl : s.heap.IsTuple l items) (hb : s.heap.IsTuple b items2)
    (turn : ∀ i (h1 : i < items.size) (h2 : i < items2.size) s, I i s → wpAny (model prog w) A.in1 (eqBool items[i] items2[i]) (fun r s' => if r = true then I (i + 1) s' else Q (.bool false) s') E s)
    (fin : ∀ s, I items.size s → Q (.bool true) s) (h : I 0 s) : wpAny (model prog w) A (richCompare .Eq (.ref l) (.ref b)) Q E s := by
  obtain ⟨⟨cls, dd, data, sl⟩, ho, hc, n, hd⟩ := id hl
  obtain ⟨⟨cls2, dd2, data2, sl2⟩, ho2, hc2, n2, hd2⟩ := id hb
  simp only at hc hd hc2 hd2
  subst hc hd hc2 hd2
  refine wpAny_richCompare_same_room (op := .Eq) ⟨_, ho, rfl⟩ ⟨_, ho2, rfl⟩ F.slot_tuple_eq (GQ.call_here F.slot_tuple_eq ⟨_, ho, rfl⟩ F.entry_tuple_eq (F.args_tuple_eq_2 _ _) ?_) hu
  exact tupB_eq (R := wants (fun v s' => v ≠ .notImplemented ∧ Q v s') E) l b items items2 n n2 dd dd2 sl sl2 hsz I (fun i h1 h2 s' q => wpAny_mono (turn i h1 h2 s' q) (fun r s2 q2 => by
    cases r with
    | true => exact q2
    | false => exact ⟨(fun x => nomatch x), q2⟩) fun _ _ x => x) (fun s' q => ⟨(fun x => nomatch x), fin s' q⟩) ho ho2 h
theorem rc_tupL (hsz : items.size = items2.size) (hu : A.units < cLine) (I : Nat → Shared → Prop) (hl : s.heap.IsTuple l items) (hb : s.heap.IsTuple b items2)
    (turn : ∀ i (h1 : i < items.size) (h2 : i < items2.size) s, I i s → wpAny (model prog w) A.in1 (eqBool items[i] items2[i]) (fun r s' => if r = true then I (i + 1) s' else wpAny (model prog w) A.in1 (richCompare .Lt items[i] items2[i]) (fun v s2 => v ≠ .notImplemented ∧ Q v s2) E s') E s)
    (fin : ∀ s, I items.size s → Q (.bool false) s) (h : I 0 s) : wpAny (model prog w) A (richCompare .Lt (.ref l) (.ref b)) Q E s := by
  obtain ⟨⟨cls, dd, data, sl⟩, ho, hc, n, hd⟩ := id hl
  obtain ⟨⟨cls2, dd2, data2, sl2⟩, ho2, hc2, n2, hd2⟩ := id hb
  simp only at hc hd hc2 hd2
  subst hc hd hc2 hd2
  refine wpAny_richCompare_same_room (op := .Lt) ⟨_, ho, rfl⟩ ⟨_, ho2, rfl⟩ F.slot_tuple_lt (GQ.call_here F.slot_tuple_lt ⟨_, ho, rfl⟩ F.entry_tuple_lt (F.args_tuple_lt_2 _ _) ?_) hu
  exact tupB_lt (R := wants (fun v s' => v ≠ .notImplemented ∧ Q v s') E) l b items items2 n n2 dd dd2 sl sl2 hsz I turn (fun s' q => ⟨(fun x => nomatch x), fin s' q⟩) ho ho2 h
end
/-- x == y inside a builtin: flat values, one object, or instances of C by their own == -/
def ElE (C : Addr) (sp : Sp) (x y : V) (H : Hp) (e : Bool) : Prop :=
  (flatV x = true ∧ flatV y = true ∧ eqV x y = e) ∨ (∃ a, x = .ref a ∧ y = .ref a ∧ e = true) ∨
  (∃ a b dx vs dy ws, x = .ref a ∧ y = .ref b ∧ a ≠ b ∧ SlX.Slt H a C dx vs ∧ SlX.Slt H b C dy ws ∧ ∀ Z : VK, Z (.bl e) H → sp [x, y] H Z E0)
/-- x < y inside a builtin: like data, or instances of C by their own < -/
def ElL (K : Frag) (C : Addr) (sp : Sp) (x y : V) (H : Hp) (e : Bool) : Prop :=
  (∃ d d', Dp K H x d ∧ Dp K H y d' ∧ PySem.W.alike d d' = true ∧ d ≠ .none ∧ d.depth ≤ 20 ∧ PySem.W.dataLt d d' = e) ∨
  (∃ a b dx vs dy ws, x = .ref a ∧ y = .ref b ∧ SlX.Slt H a C dx vs ∧ SlX.Slt H b C dy ws ∧ ∀ Z : VK, Z (.bl e) H → sp [x, y] H Z E0)
section
variable {X : Cx} {n : Nat} {C g g2 : Addr} {sp sp2 : Sp} {A : Around} {pins : List (Addr × Obj)} {s : Shared} {σ : L2.St} {H : Hp} {x y : V} {u v : Value} {e : Bool}
theorem Sub.env0 (sb : Sub X n A) (I : Inv X pins σ H s) : Env0 X.prog X.w X.K X.mg X.base A X.stack s H := by
  have e := I.env0
  exact ⟨by rw [sb.fr]; exact e.frames, e.mod, e.bs, e.bsz, e.funs, e.frf, e.hok, e.bare⟩
theorem own_rc {op : CmpOp} (hs : PySem.W.findIn X.K (.ref C) (cmpInfo op).2.1 = some (some (.ref g))) (hf : PySem.W.isFn X.K (.ref g) = true) (F : FnR X.prog X.w X.K X.mg X.base (L2.CX X.prog X.w) n g sp) (sb : Sub X n A) (I : Inv X pins σ H s)
    {a b : Addr} {dx dy : Addr} {vs ws : List (Option V)} (ha : SlX.Slt H a C dx vs) (hb : SlX.Slt H b C dy ws) (hsp : ∀ Z : VK, Z (.bl e) H → sp [.ref a, .ref b] H Z E0) {Q : Value → Shared → Prop} (q : ∀ s', Inv X pins σ H s' → Q (.bool e) s') :
    wpAny (model X.prog X.w) A (richCompare op (.ref a) (.ref b)) Q X.xe s := by
  obtain ⟨sl, od, _, J, _⟩ := SlX.slt_inst I ha
  obtain ⟨sl', od', _, J', _⟩ := SlX.slt_inst I hb
  obtain ⟨m, hF⟩ := I.fr
  refine PySem.W.cmp_K (op := op) (tb := .ref C) sb.room.units0 hF I.ok.mod.kin J J'.type (by simp [PySem.W.notFirst]) hs hf ?_
  refine wpAny_mono (wpAny_call (SlX.run_at (us := [.ref a, .ref b]) (ws := [.ref a, .ref b]) (Q := fun z H2 => z = .bl e ∧ H2 = H) F sb.room (Sub.env0 sb I) passL I (.cons rfl (.cons rfl .nil)) (hsp _ ⟨rfl, rfl⟩))) (fun z s2 hz2 => ?_) fun _ _ x => x
  obtain ⟨z2, H2, I2, rz, rfl, rfl⟩ := hz2
  cases (show z = Value.bool e from rz)
  exact q s2 I2
theorem el_eq (hs : PySem.W.findIn X.K (.ref C) "__eq__" = some (some (.ref g))) (hf : PySem.W.isFn X.K (.ref g) = true) (F : FnR X.prog X.w X.K X.mg X.base (L2.CX X.prog X.w) n g sp) (sb : Sub X n A) (I : Inv X pins σ H s)
    (rx : RelV x u) (ry : RelV y v) (d : ElE C sp x y H e) {Q : Bool → Shared → Prop} (q : ∀ s', Inv X pins σ H s' → Q e s') : wpAny (model X.prog X.w) A (eqBool u v) Q X.xe s := by
  rcases d with ⟨fx, fy, ee⟩ | ⟨a, rfl, rfl, rfl⟩ | ⟨a, b, dx, vs, dy, ws, rfl, rfl, hab, ha, hb, hsp⟩
  · have z := eqAt_V (A := A) (s := s) rx ry fx fy
    rw [ee] at z
    exact z X.prog X.w X.xe _ (q s I)
  · cases rx
    cases ry
    exact SeqAt.EqAt.same (A := A) (s := s) (.ref a) X.prog X.w X.xe _ (q s I)
  · cases rx
    cases ry
    exact GQ.eqBool_refG hab (own_rc (op := .Eq) hs hf F sb I ha hb hsp fun s' I' => ⟨e, rfl, q s' I'⟩)
theorem el_lt (hs : PySem.W.findIn X.K (.ref C) "__lt__" = some (some (.ref g))) (hf : PySem.W.isFn X.K (.ref g) = true) (F : FnR X.prog X.w X.K X.mg X.base (L2.CX X.prog X.w) n g sp) (sb : Sub X n A) (hu : A.units + 60 < cLine) (I : Inv X pins σ H s)
    (rx : RelV x u) (ry : RelV y v) (d : ElL X.K C sp x y H e) {Q : Value → Shared → Prop} (q : ∀ s', Inv X pins σ H s' → Q (.bool e) s') : wpAny (model X.prog X.w) A (richCompare .Lt u v) Q X.xe s := by
  rcases d with ⟨d, d', hd, hd', al, nn, dp, rfl⟩ | ⟨a, b, dx, vs, dy, ws, rfl, rfl, ha, hb, hsp⟩
  · obtain ⟨as, r1⟩ := Dp.reads I d x u hd rx
    obtain ⟨bs, r2⟩ := Dp.reads I d' y v hd' ry
    exact PySem.W.rcLt_alike d d' A s u v as bs r1 r2 al nn (by omega) X.prog X.w _ _ (q s I)
  · cases rx
    cases ry
    exact own_rc (op := .Lt) hs hf F sb I ha hb hsp q
/-- what is known of two tuples' items -/
def Tys (C : Addr) (sp : Sp) (xs ys : List V) (es : Nat → Bool) (H : Hp) : Prop := xs.length = ys.length ∧ ∀ (i : Nat) x y, xs[i]? = some x → ys[i]? = some y → (∀ j < i, es j = true) → ElE C sp x y H (es i)
theorem its_get {its : List Value} {xs : List V} (r : Vals xs its) {i : Nat} (h1 : i < its.toArray.size) : ∃ x, xs[i]? = some x ∧ RelV x its.toArray[i] := by
  have g1 : its[i]? = some its.toArray[i] := by
    have h1' : i < its.length := by simpa using h1
    rw [List.getElem?_eq_getElem h1'] <;> simp
  have k1 : i < xs.length := by rw [r.length]; simpa using h1
  obtain ⟨u, hu, ru⟩ := r.get (List.getElem?_eq_getElem k1)
  rw [g1] at hu
  rw [Option.some.inj hu]
  exact ⟨_, List.getElem?_eq_getElem k1, ru⟩
theorem tys_rc (hs : PySem.W.findIn X.K (.ref C) "__eq__" = some (some (.ref g))) (hf : PySem.W.isFn X.K (.ref g) = true) (F : FnR X.prog X.w X.K X.mg X.base (L2.CX X.prog X.w) n g sp) (sb : Sub X (n + 1) A) (I : Inv X pins σ H s)
    {a b : Addr} {xs ys : List V} {es : Nat → Bool} (ha : SqT X.K H a xs) (hb : SqT X.K H b ys) (d : Tys C sp xs ys es H) {Q : Value → Shared → Prop} (q : ∀ s', Inv X pins σ H s' → Q (.bool ((List.range xs.length).all es)) s') :
    wpAny (model X.prog X.w) A (richCompare .Eq (.ref a) (.ref b)) Q X.xe s := by
  obtain ⟨its, r, e, z⟩ := I.tuple ha
  obtain ⟨its2, r2, e2, z2⟩ := I.tuple hb
  have sz : its.toArray.size = xs.length := by rw [List.size_toArray, ← r.length]
  have hsz : its.toArray.size = its2.toArray.size := by rw [sz, List.size_toArray, ← r2.length]; exact d.1
  refine rc_tupB hsz sb.room.units0 (fun i s' => Inv X pins σ H s' ∧ ∀ j < i, es j = true) e e2 (fun i h1 h2 s' hI => ?_) (fun s' hI => ?_) ⟨I, fun _ h => by omega⟩
  · obtain ⟨x, ex, rx⟩ := its_get r h1
    obtain ⟨y, ey, ry⟩ := its_get r2 h2
    refine el_eq hs hf F sb.in1 hI.1 rx ry (d.2 i x y ex ey hI.2) fun s2 I2 => ?_
    cases ee : es i with
    | true =>
      rw [if_pos rfl]
      exact ⟨I2, fun j hj => by
        by_cases c : j = i
        · rw [c]; exact ee
        · exact hI.2 j (by omega)⟩
    | false =>
      rw [if_neg Bool.false_ne_true]
      have hq := q s2 I2
      rwa [show (List.range xs.length).all es = false from Bool.eq_false_iff.mpr fun h => by
        have := List.all_eq_true.mp h i (List.mem_range.mpr (by rw [← sz]; exact h1))
        rw [ee] at this
        cases this] at hq
  · have hq := q s' hI.1
    rwa [show (List.range xs.length).all es = true from List.all_eq_true.mpr fun j hj => hI.2 j (by rw [sz]; exact List.mem_range.mp hj)] at hq
/-- a < b, the first items that differ decide -/
def rLtT (K : Frag) (C : Addr) (spE spL : Sp) : R2 := fun x y H Q => ∃ (a b : Addr) (xs ys : List V) (es ls : Nat → Bool), x = .ref a ∧ y = .ref b ∧ SqT K H a xs ∧ SqT K H b ys ∧ Tys C spE xs ys es H ∧
  (∀ (i : Nat) x y, xs[i]? = some x → ys[i]? = some y → (∀ j < i, es j = true) → es i = false → ElL K C spL x y H (ls i)) ∧ Q (.bl (PySem.SeqAt.firstLt es ls false (List.range xs.length))) H
theorem firstLt_at {es ls : Nat → Bool} {fin : Bool} : ∀ (l : List Nat) {i : Nat} {t : List Nat}, (∀ j ∈ l, es j = true) → es i = false → PySem.SeqAt.firstLt es ls fin (l ++ i :: t) = ls i
  | [], _, _, _, h => PySem.SeqAt.firstLt_no h
  | j :: l, _, _, hl, h => by
    rw [List.cons_append, PySem.SeqAt.firstLt_yes (hl j List.mem_cons_self)]
    exact firstLt_at l (fun k hk => hl k (List.mem_cons_of_mem _ hk)) h
theorem firstLt_all {es ls : Nat → Bool} {fin : Bool} : ∀ (l : List Nat), (∀ j ∈ l, es j = true) → PySem.SeqAt.firstLt es ls fin l = fin
  | [], _ => rfl
  | j :: l, hl => by
    rw [PySem.SeqAt.firstLt_yes (hl j List.mem_cons_self)]
    exact firstLt_all l fun k hk => hl k (List.mem_cons_of_mem _ hk)
theorem range_at {n i : Nat} (h : i < n) : ∃ t, List.range n = List.range i ++ i :: t := by
  refine ⟨(List.range n).drop (i + 1), ?_⟩
  have h1 : (List.range n).take i = List.range i := by rw [List.take_range]; congr 1; omega
  have h2 : (List.range n).drop i = i :: (List.range n).drop (i + 1) := by
    rw [List.drop_eq_getElem_cons (by simpa using h)]
    simp
  rw [← h1, ← h2, List.take_append_drop]
theorem ltTK {P : Program} {w : World} {K : Frag} {mg : Str → Option Value} {base : Heap} (hP : X.prog = P) (hw : X.w = w) (hK : X.K = K) (hm : X.mg = mg) (hb : X.base = base)
    (hs : PySem.W.findIn K (.ref C) "__eq__" = some (some (.ref g))) (hf : PySem.W.isFn K (.ref g) = true) (F : FnR P w K mg base (L2.CX P w) n g sp)
    (hs2 : PySem.W.findIn K (.ref C) "__lt__" = some (some (.ref g2))) (hf2 : PySem.W.isFn K (.ref g2) = true) (F2 : FnR P w K mg base (L2.CX P w) n g2 sp2) (hr : Room (n + 1) X.A) (hu : X.A.units + 64 < cLine) : OpR X (compareOp .Lt) (rLtT K C sp sp2) := by
  subst hP hw hK hm hb
  intro pins s σ H x y v u Q I rx ry h
  obtain ⟨a, b, xs, ys, es, ls, rfl, rfl, ha, hb, d, dl, q⟩ := h
  cases (show v = Value.ref a from rx)
  cases (show u = Value.ref b from ry)
  obtain ⟨its, r, e, z⟩ := I.tuple ha
  obtain ⟨its2, r2, e2, z2⟩ := I.tuple hb
  have sz : its.toArray.size = xs.length := by rw [List.size_toArray, ← r.length]
  have hsz : its.toArray.size = its2.toArray.size := by rw [sz, List.size_toArray, ← r2.length]; exact d.1
  have sb : Sub X (n + 1) X.A := ⟨hr, rfl⟩
  show wpAny _ _ (richCompare .Lt (.ref a) (.ref b)) _ _ _
  refine rc_tupL hsz hr.units0 (fun i s' => Inv X pins σ H s' ∧ ∀ j < i, es j = true) e e2 (fun i h1 h2 s' hI => ?_) (fun s' hI => ?_) ⟨I, fun _ h => by omega⟩
  · obtain ⟨x, ex, rx⟩ := its_get r h1
    obtain ⟨y, ey, ry⟩ := its_get r2 h2
    refine el_eq hs hf F sb.in1 hI.1 rx ry (d.2 i x y ex ey hI.2) fun s2 I2 => ?_
    cases ee : es i with
    | true =>
      rw [if_pos rfl]
      exact ⟨I2, fun j hj => by
        by_cases c : j = i
        · rw [c]; exact ee
        · exact hI.2 j (by omega)⟩
    | false =>
      rw [if_neg Bool.false_ne_true]
      refine el_lt hs2 hf2 F2 sb.in1 (by have := (show X.A.in1.units = X.A.units + 1 from rfl); omega) I2 rx ry (dl i x y ex ey hI.2 ee) fun s3 I3 => ⟨(fun x => nomatch x), .bl (ls i), H, I3, rfl, ?_⟩
      obtain ⟨t, et⟩ := range_at (show i < xs.length by rw [← sz]; exact h1)
      rwa [et, firstLt_at _ (fun j hj => hI.2 j (List.mem_range.mp hj)) ee] at q
  · refine ⟨.bl false, H, hI.1, rfl, ?_⟩
    rwa [firstLt_all _ fun j hj => hI.2 j (by rw [sz]; exact List.mem_range.mp hj)] at q
/-- x in a list of tuples -/
def rInT (K : Frag) (C : Addr) (sp : Sp) (neg : Bool) : R2 := fun x y H Q => ∃ (a l : Addr) (xs : List V) (bs : List (Addr × List V)) (e : Addr → Bool), x = .ref a ∧ y = .ref l ∧ H l = some (.lst (bs.map fun b => .ref b.1)) ∧ SqT K H a xs ∧
  (∀ b ∈ bs, b.1 ≠ a → SqT K H b.1 b.2 ∧ ∃ es : Nat → Bool, e b.1 = (List.range b.2.length).all es ∧ Tys C sp b.2 xs es H) ∧
  Q (.bl (if neg then !(bs.any fun b => decide (b.1 = a) || e b.1) else bs.any fun b => decide (b.1 = a) || e b.1)) H
theorem contT (hs : PySem.W.findIn X.K (.ref C) "__eq__" = some (some (.ref g))) (hf : PySem.W.isFn X.K (.ref g) = true) (F : FnR X.prog X.w X.K X.mg X.base (L2.CX X.prog X.w) n g sp) (hr : Room (n + 2) X.A)
    {a l : Addr} {xs : List V} {bs : List (Addr × List V)} {e : Addr → Bool} (I : Inv X pins σ H s) (hl : H l = some (.lst (bs.map fun b => .ref b.1))) (ha : SqT X.K H a xs)
    (hb : ∀ b ∈ bs, b.1 ≠ a → SqT X.K H b.1 b.2 ∧ ∃ es : Nat → Bool, e b.1 = (List.range b.2.length).all es ∧ Tys C sp b.2 xs es H) {Q : Bool → Shared → Prop}
    (q : ∀ s', Inv X pins σ H s' → Q (bs.any fun b => decide (b.1 = a) || e b.1) s') : wpAny (model X.prog X.w) X.A (contains (.ref l) (.ref a)) Q X.xe s := by
  refine contains_G (N := bs.length) (fun i s' => Inv X pins σ H s' ∧ (bs.take i).any (fun b => decide (b.1 = a) || e b.1) = false) ?_ ?_ ⟨I, rfl⟩
  · rintro i s1 ⟨I1, no⟩
    obtain ⟨hz, its, m, rv, hg⟩ := (show ObjOk X.prog X.w H s1.heap l (.lst (bs.map fun b => V.ref b.1)) from I1.hok l _ hl)
    have hlen : its.length = bs.length := by rw [← rv.length, List.length_map]
    refine ⟨its.toArray, m, hg, by simp [hlen], fun h1 => ?_⟩
    have hi : i < bs.length := by simpa [hlen] using h1
    obtain ⟨x, ex, rx⟩ := its_get rv h1
    have eb := List.getElem?_eq_getElem hi
    generalize bs[i] = b at eb
    rw [List.getElem?_map, eb] at ex
    cases ex
    have mem := List.mem_of_getElem? eb
    rw [show its.toArray[i] = Value.ref b.1 from rx]
    have step : ∀ r : Bool, (decide (b.1 = a) || e b.1) = r → ∀ s2, Inv X pins σ H s2 → (if r = true then wants (fun v s' => ∃ b, v = .bool b ∧ Q b s') X.xe (.ok (.ret (.bool true))) s2 else Inv X pins σ H s2 ∧ (bs.take (i + 1)).any (fun b => decide (b.1 = a) || e b.1) = false) := by
      intro r er s2 I2
      have tk : bs.take (i + 1) = bs.take i ++ [b] := by rw [List.take_add_one, eb]; rfl
      cases r with
      | true =>
        rw [if_pos rfl]
        refine ⟨true, rfl, ?_⟩
        have hq := q s2 I2
        rw [show (bs.any fun b => decide (b.1 = a) || e b.1) = true from List.any_eq_true.mpr ⟨_, mem, er⟩] at hq
        exact hq
      | false =>
        rw [if_neg Bool.false_ne_true]
        refine ⟨I2, ?_⟩
        rw [tk, List.any_append, no, List.any_cons, er]
        rfl
    by_cases hab : b.1 = a
    · rw [hab]
      exact SeqAt.EqAt.same (A := X.A.in1) (s := s1) (.ref a) X.prog X.w _ _ (step true (by simp [hab]) s1 I1)
    · obtain ⟨hbt, es, ee, d⟩ := hb b mem hab
      refine GQ.eqBool_refG hab (tys_rc hs hf F (A := X.A.in1) (Sub.in1 ⟨hr, rfl⟩) I1 hbt ha d fun s2 I2 => ⟨_, rfl, ?_⟩)
      rw [← ee]
      exact step (e b.1) (by simp [hab]) s2 I2
  · rintro s1 ⟨I1, no⟩
    have hq := q s1 I1
    rw [List.take_length] at no
    rw [no] at hq
    exact hq
theorem inTK {P : Program} {w : World} {K : Frag} {mg : Str → Option Value} {base : Heap} (hP : X.prog = P) (hw : X.w = w) (hK : X.K = K) (hm : X.mg = mg) (hb : X.base = base)
    (hs : PySem.W.findIn K (.ref C) "__eq__" = some (some (.ref g))) (hf : PySem.W.isFn K (.ref g) = true) (F : FnR P w K mg base (L2.CX P w) n g sp) (hr : Room (n + 2) X.A) : OpR X (compareOp .In) (rInT K C sp false) := by
  subst hP hw hK hm hb
  intro pins s σ H x y v u Q I rx ry h
  obtain ⟨a, l, xs, bs, e, rfl, rfl, hl, ha, hb, q⟩ := h
  cases (show v = Value.ref a from rx)
  cases (show u = Value.ref l from ry)
  show wpAny _ _ (do return Value.bool (← contains (.ref l) (.ref a))) _ _ _
  exact wpAny_bind (contT hs hf F hr I hl ha hb fun s' I' => wpAny_pure ⟨.bl _, H, I', rfl, q⟩)
theorem notInTK {P : Program} {w : World} {K : Frag} {mg : Str → Option Value} {base : Heap} (hP : X.prog = P) (hw : X.w = w) (hK : X.K = K) (hm : X.mg = mg) (hb : X.base = base)
    (hs : PySem.W.findIn K (.ref C) "__eq__" = some (some (.ref g))) (hf : PySem.W.isFn K (.ref g) = true) (F : FnR P w K mg base (L2.CX P w) n g sp) (hr : Room (n + 2) X.A) : OpR X (compareOp .NotIn) (rInT K C sp true) := by
  subst hP hw hK hm hb
  intro pins s σ H x y v u Q I rx ry h
  obtain ⟨a, l, xs, bs, e, rfl, rfl, hl, ha, hb, q⟩ := h
  cases (show v = Value.ref a from rx)
  cases (show u = Value.ref l from ry)
  show wpAny _ _ (do return Value.bool (!(← contains (.ref l) (.ref a)))) _ _ _
  exact wpAny_bind (contT hs hf F hr I hl ha hb fun s' I' => wpAny_pure ⟨.bl _, H, I', rfl, q⟩)
end
end S
namespace S
open PySem PySem.Spec PyProof.Rows L2
/-! ### < <= > >= with an int at the left, by the right side's own reflected def -/
section
open PySem.W PySem.Calls
variable {prog : Program} {w : World} {A : Around} {E : Value → Shared → Prop} {s : Shared} {K : Frag} {x C f : Addr} {ox : Obj} {od : Option Obj}
/-- what is known of int's own slot for a comparison -/
structure IntCmp (op : CmpOp) (idl : String) (B : Builtin) : Prop where
  sl : Slot "int" (cmpInfo op).2.1 idl
  en : entryFor table idl = some B
  ar : ∀ a b : Value, argsOk idl ⟨[a, b], []⟩
  de : ∀ (a : Int) (t : Tok) (x : Addr), GivesAt (NoInt x) (B ⟨[.int a t, .ref x], []⟩) (.val (Value.notImplemented))
  hop : ∀ a b, compareOp op a b = richCompare op a b
theorem ic_lt : IntCmp .Lt "int.__lt__" Builtin.«int.__lt__» := ⟨PySem.F.slot_int_lt, PySem.F.entry_int_lt, PySem.F.args_int_lt_2, fun _ _ _ _ _ _ _ _ h q => decl_bin h q, fun _ _ => rfl⟩
theorem ic_gt : IntCmp .Gt "int.__gt__" Builtin.«int.__gt__» := ⟨PySem.F.slot_int_gt, PySem.F.entry_int_gt, PySem.F.args_int_gt_2, fun _ _ _ _ _ _ _ _ h q => decl_bin h q, fun _ _ => rfl⟩
theorem cmp_refl {op : CmpOp} {idl : String} {B : Builtin} {i : Int} {t : Tok} {Q : Value → Shared → Prop} (c : IntCmp op idl B) (hu : A.units < cLine) (X : K.In s.heap) (I : InstAt s.heap x ox C od) (hno : NoInt x s)
    (hsR : findIn K (.ref C) (cmpInfo op).2.2 = some (some (.ref f))) (hf : isFn K (.ref f) = true) (hsub : subIn K (.ref C) (.type "int") = some false)
    (h : wpAny (model prog w) A (call (.ref f) [.ref x, .int i t]) (PySem.W.CmpBack Q) E s) : wpAny (model prog w) A (richCompare op (.int i t) (.ref x)) Q E s := by
  have ha := typeIs_int s i t
  unfold richCompare
  simp only [ha.oneThing_none]
  refine wpAny_holding (wpAny_bind (wpAny_cRoomFor hu ?_))
  refine wpAny_bind (wpAny_typeOf ha (wpAny_bind (I.type.here ?_)))
  have hne : (Value.type "int" != Value.ref C) = true := rfl
  simp only [hne, if_true]
  refine wpAny_bind ((looks_subIn X hsub).here ?_)
  simp only [Bool.false_eq_true, if_false]
  refine wpAny_bind (wpAny_tryCompare_declines ha c.sl (call_givesAt (Q := fun v s1 => v = .notImplemented ∧ _) c.sl ha c.en (c.ar _ _) (c.de i t x) hno ⟨rfl, ?_⟩))
  simp only [Bool.not_false, if_true]
  unfold tryCompare
  refine wpAny_bind (wpAny_bind (ifBound_K X I hsR hf (wpAny_mono h (fun v s' hv => ?_) fun _ _ e => e)))
  cases v <;> first | exact hv.elim | exact wpAny_pure (wpAny_pure hv)
end
section
variable {X : Cx} {n k : Nat} {C f g : Addr} {sp spR : Sp} {op : CmpOp} {idl : String} {B : Builtin}
/-- a comparison by an own def, or by the reflected one where an int stands at the left -/
def rCmpB (K : Frag) (C : Addr) (sp spR : Sp) : R2 := fun x y H Q => rCmpL K C sp x y H Q ∨ ∃ b dy ws i, x = .int i ∧ y = .ref b ∧ SlX.Slt H b C dy ws ∧ spR [y, x] H Q E0
theorem op_cmpB (c : IntCmp op idl B) (hs : PySem.W.findIn X.K (.ref C) (cmpInfo op).2.1 = some (some (.ref f))) (hf : PySem.W.isFn X.K (.ref f) = true) (F : FnR X.prog X.w X.K X.mg X.base (L2.CX X.prog X.w) n f sp)
    (hsR : PySem.W.findIn X.K (.ref C) (cmpInfo op).2.2 = some (some (.ref g))) (hg : PySem.W.isFn X.K (.ref g) = true) (G : FnR X.prog X.w X.K X.mg X.base (L2.CX X.prog X.w) k g spR)
    (hsub : PySem.W.subIn X.K (.ref C) (.type "int") = some false) (hr : Room n X.A) (hr2 : Room k X.A) : OpR X (compareOp op) (rCmpB X.K C sp spR) := by
  intro pins s σ H x y v u Q I rx ry h
  rcases h with h | ⟨b, dy, ws, i, rfl, rfl, h1, q⟩
  · exact op_cmpL c.hop hs hf F hr pins s σ H x y v u Q I rx ry h
  · obtain ⟨t, rfl⟩ := (show ∃ t, v = Value.int i t from rx)
    cases (show u = Value.ref b from ry)
    obtain ⟨sl, od, _, J, _⟩ := SlX.slt_inst I h1
    rw [c.hop]
    refine cmp_refl c hr.units0 I.kIn J ⟨_, J.at_, fun _ _ => by intro z; cases z⟩ hsR hg hsub ?_
    refine wpAny_mono (wpAny_call (run_fnR (us := [.ref b, .int i t]) (vs := [.ref b, .int i]) G hr2 passL I (.cons rfl (.cons ⟨t, rfl⟩ .nil)) q)) (fun w s' z => ?_) fun _ _ x => x
    obtain ⟨z2, H2, I2, rz, qz⟩ := z
    exact SlX.cmpback rz ⟨z2, H2, I2, rz, qz⟩
end
end S
namespace S
open PySem PySem.Spec PyProof.Rows L2
/-! defs of eight arguments -/
def Sp8 (f : V → V → V → V → V → V → V → V → Hp → VK → XK → Prop) : Sp := fun vs H Q E => ∃ x y z u v w t r, vs = [x, y, z, u, v, w, t, r] ∧ f x y z u v w t r H Q E
theorem splen8 {vs : List V} {H : Hp} {Q : VK} {E : XK} {f} (h : Sp8 f vs H Q E) : vs.length = 8 := by obtain ⟨_, _, _, _, _, _, _, _, rfl, _⟩ := h; rfl
end S
namespace S
open PySem PySem.Spec PyProof.Rows L2
/-! ### o[i] = v and x += y by an own method; a def with a starred and a keyword-only parameter -/
section
variable {X : Cx} {n : Nat} {C g : Addr} {sp : Sp} {E : XK}
def rSetO (C : Addr) (sp : Sp) (E : XK) : TSet := fun o i v H Q => ∃ a dx fs, o = .ref a ∧ H a = some (.ins C dx fs) ∧ sp [o, i, v] H (fun _ H2 => Q H2) E
theorem set_own (hq : PySem.W.noSeq X.K C = true) (hs : PySem.W.findIn X.K (.ref C) "__setitem__" = some (some (.ref g))) (hf : PySem.W.isFn X.K (.ref g) = true)
    (F : FnR X.prog X.w X.K X.mg X.base (L2.CX X.prog X.w) n g sp) (hr : Room n X.A) (hx : Passes (L2.CX X.prog X.w) X E) : PSet X (rSetO C sp E) := by
  intro pins s σ H o i v ov iv u Q I ro ri rv h
  obtain ⟨a, dx, fs, rfl, ha, q⟩ := h
  cases (show ov = Value.ref a from ro)
  obtain ⟨mA, O, _⟩ := ins_get I.hok ha
  obtain ⟨od, J, _⟩ := O.look
  obtain ⟨m, hF⟩ := I.fr
  refine PySem.W.ksp_setItem hF I.ok.mod.kin J hq hs hf ?_
  refine wpAny_mono (wpAny_call (run_fnR (us := [.ref a, iv, u]) (vs := [.ref a, i, v]) F hr hx I (.cons rfl (.cons ri (.cons rv .nil))) q)) (fun w s' z => ?_) fun _ _ x => x
  obtain ⟨z2, H2, I2, rz, qz⟩ := z
  exact ⟨H2, I2, qz⟩
def rIpO (C : Addr) (sp : Sp) (E : XK) : TIp := fun x y H Q => ∃ a dx fs, x = .ref a ∧ H a = some (.ins C dx fs) ∧ sp [x, y] H Q E
theorem ip_own {op : Operator} (hc : PySem.W.selfFirst X.K C = true) (hs : PySem.W.findIn X.K (.ref C) (dunderI op.info.2) = some (some (.ref g))) (hf : PySem.W.isFn X.K (.ref g) = true)
    (F : FnR X.prog X.w X.K X.mg X.base (L2.CX X.prog X.w) n g sp) (hr : Room n X.A) (hx : Passes (L2.CX X.prog X.w) X E) : PIp X op (rIpO C sp E) := by
  intro pins s σ H x y v u Q I rx ry h
  obtain ⟨a, dx, fs, rfl, ha, q⟩ := h
  cases (show v = Value.ref a from rx)
  obtain ⟨mA, O, _⟩ := ins_get I.hok ha
  obtain ⟨od, J, _⟩ := O.look
  obtain ⟨m, hF⟩ := I.fr
  refine PySem.W.ksp_inplace hF I.ok.mod.kin J hc hs hf ?_
  refine wpAny_mono (wpAny_call (run_fnR (us := [.ref a, u]) (vs := [.ref a, y]) F hr hx I (.cons rfl (.cons ry .nil)) q)) (fun w s' z => ?_) fun _ _ x => x
  obtain ⟨z2, H2, I2, rz, qz⟩ := z
  exact SlX.cmpback rz ⟨z2, H2, I2, rz, qz⟩
end
/-- the binding of a def with one parameter, a starred one and a keyword-only one that is left out -/
def StarK (D : Addr) (p1 pk pv : Str) (a mv : Value) (rest : List Value) (t : Sem (List (Str × Value))) : Prop :=
  ∃ (β γ : Type) (k1 : Option Value → Sem β) (k2 : β → Sem γ) (k3 : γ → Sem (List (Str × Value))) (b : β), t = ((nsGet D pk >>= k1) >>= k2) >>= k3 ∧ k1 (some mv) = pure b ∧ (k2 b >>= k3) = (newTuple rest >>= fun t => pure [(p1, a), (pk, mv), (pv, t)])
section
variable {P : Program} {w : World} {K : PySem.W.Frag} {mg : Str → Option Value} {base : Heap} {k : Nat} {f : Addr} {fd : FuncData} {x qual : Str} {params : Arguments} {body : List Stmt} {scope : Scope} {N : List Str} {sp : Sp} {p1 pk pv : Str} {dv : V}
def spStar (sp : Sp) (dv : V) : Sp := fun vs H Q E => ∃ w rest, vs = w :: rest ∧ rest.length ≤ sizeLine ∧ ∀ p o, H p = Option.none → o.dict = Option.none → sp [w, dv, V.ref p] (upd H p (.frz o (.tup rest))) Q E
theorem FunD.star1K (F : FunD K x qual params body scope [] [(pk, dv)] f fd) (S : FnScope N [p1, pk, pv] scope)
    (hb : ∀ (D : Addr) (doc pm : Value) (an : Option Addr) (cdv ct : Value) (a mv : Value) (rest : List Value), StarK D p1 pk pv a mv rest (bindArgs (PySem.W.fnOf x qual params body scope .none (.ref D) doc pm an cdv ct) ⟨a :: rest, []⟩))
    (hbody : ∀ (cdv : Value) (A : Around) (outer : List Env) (s : Shared) (H : Hp) (vs : List V) (Q : VK) (E : XK), Room k (A.deeper (envOfC qual scope s.heap.objs.size f cdv)) → sp vs H Q E →
      ∃ t, PSs (cxOf (L2.CX P w) P w K mg base N qual scope f cdv A outer s H E) body t ∧ t { nx := fun _ H' => Q .non H', rt := Q } (start N vs) H) :
    FnR P w K mg base (L2.CX P w) (k + 1) f (spStar sp dv) := by
  obtain ⟨oc, od, dV, kV, doc, pm, an, cdv, ct, osl, rfl, lk, hcd, hD, hK⟩ := F.ex
  rcases hD with ⟨_, rfl⟩ | ⟨e, _⟩
  · rcases hK with e | ⟨D, rfl, hq⟩
    · cases e
    · obtain ⟨mv, hmv, rmv⟩ := hq _ List.mem_cons_self
      intro A outer s H us vs Q E hr e0 r hsp
      obtain ⟨w0, rest, ev, hz, hq'⟩ := hsp
      subst ev
      cases r with
      | @cons _ u1 _ u2 r1 r2 =>
      have hn : H s.heap.objs.size = Option.none := e0.hok.fresh (Nat.le_refl _)
      have hl2 : u2.length ≤ sizeLine := by rw [← r2.length]; exact hz
      have KX : K.In s.heap := e0.mod.kin.keeps fun b o e => (e0.bs b o e).1
      refine StX.run_bnd (ps := [p1, pk, pv]) lk hcd S hr e0 (G := fun xs H2 => ∃ p o, H p = Option.none ∧ o.dict = Option.none ∧ xs = [w0, dv, V.ref p] ∧ H2 = upd H p (.frz o (.tup rest))) (fun A' Ex Q' h => ?_) fun s2 H2 xs ⟨p, o, hp, ho, ex, eH⟩ hr' => ?_
      · obtain ⟨β, γ, k1, k2, k3, b, e1, e2, e3⟩ := hb D doc pm an cdv ct u1 mv u2
        rw [e1, bind_assoc]
        refine wpAny_bind (((PySem.W.looks_nsIn KX hmv).andThen (PySem.W.Looks.of_pure e2)).here ?_)
        rw [e3]
        refine wpAny_bind (wpAny_newTuple (wpAny_pure ?_) hl2)
        have new : ObjOk P w (upd H s.heap.objs.size (.frz ({ cls := .type "tuple", data := .seq u2.toArray } : Obj) (.tup rest))) (s.heap.push ({ cls := .type "tuple", data := .seq u2.toArray } : Obj)) s.heap.objs.size (.frz ({ cls := .type "tuple", data := .seq u2.toArray } : Obj) (.tup rest)) := ⟨Heap.get?_push_size _ rfl, hz, u2, r2, ⟨_, Heap.get?_push_size _ rfl, rfl, _, rfl⟩⟩
        have un := StX.un_laid (fs := frs outer) (s := s) (o := ({ cls := .type "tuple", data := .seq u2.toArray } : Obj)) (u := .frz ({ cls := .type "tuple", data := .seq u2.toArray } : Obj) (.tup rest)) hn
        exact h _ _ [w0, dv, V.ref s.heap.objs.size] [u1, mv, Value.ref s.heap.objs.size] (StX.env0_laid e0 new) un rfl (fun e s' => StX.cxUp outer s H _ _ E e s' un (fun b o q => Heap.get?_push_of_some _ q) rfl) (.cons r1 (.cons rmv (.cons rfl .nil))) rfl ⟨_, _, hn, rfl, rfl, rfl⟩
      · subst ex eH
        exact hbody cdv A outer s2 _ _ Q E hr' (hq' p o hp ho)
  · exact absurd rfl e
end
end S
namespace S
open PySem PySem.Spec PyProof.Rows L2
/-! ### making an instance by a promise for any row of arguments; o[i] = v and x += y by own methods, where they may raise; t.count(x) -/
def tMkR (C : Addr) (sp : Sp) (E : L2.St → XK) (t : TA) : TE := fun σ H Q => t σ H fun vs H1 => ∀ x dx, H1 x = Option.none → H1 dx = Option.none → dx ≠ x →
  sp (V.ref x :: vs) (upd (upd H1 dx (.own x)) x (.ins C dx [])) (fun v H2 => v = .non ∧ Q (.ref x) H2) (E σ)
section
variable {X : Cx} {k : Nat} {f C g : Addr} {sp : Sp} {E : L2.St → XK} {x : Str} {e o i : Expr} {es : List Expr} {t : TA} {p pos : Pos}
theorem run_mkR {pins : List (Addr × Obj)} {σ : L2.St} {H : Hp} {s : Shared} {Q : VK} {us : List Value} {vs : List V} (M : Mk X.K C f) (F : FnR X.prog X.w X.K X.mg X.base (L2.CX X.prog X.w) k f sp) (hr : Room (k + 1) X.A) (hx : PassesAt (L2.CX X.prog X.w) X σ (E σ)) (I : Inv X pins σ H s) (r : Vals vs us)
    (h : ∀ x dx, H x = Option.none → H dx = Option.none → dx ≠ x → sp (V.ref x :: vs) (upd (upd H dx (.own x)) x (.ins C dx [])) (fun v H2 => v = .non ∧ Q (.ref x) H2) (E σ)) :
    wpAny (model X.prog X.w) X.A (call (.ref C) us) (EP X pins σ Q) X.xe s := by
  have hq := h (s.heap.objs.size + 1) s.heap.objs.size (I.hok.fresh (Nat.le_succ _)) (I.hok.fresh (Nat.le_refl _)) (Nat.ne_of_lt (Nat.lt_succ_self _))
  have I2 := Inv.made (C := C) I
  have r2 : Vals (V.ref (s.heap.objs.size + 1) :: vs) (Value.ref (s.heap.objs.size + 1) :: us) := .cons rfl r
  refine wpAny_call (make_map (f := f) I.kIn M.makes M.init (beq_iff_eq.mp M.fn) (codeAny_mono (F _ X.stack _ _ (Value.ref (s.heap.objs.size + 1) :: us) _ _ (E σ) (hr.make C us []) (I2.env0.make C us []) r2 hq) fun r s' hq' => ?_))
  cases r with
  | error e => exact hx pins _ _ e s' I2 hq'
  | ok fl =>
    cases fl with
    | ret u =>
      obtain ⟨v, H', I3, rv, ev, q3⟩ := I2.after hq'
      subst ev
      exact ⟨rv, ⟨V.ref (s.heap.objs.size + 1), H', I3, rfl, q3⟩⟩
    | next => exact False.elim hq'
    | brk => exact False.elim hq'
    | cont => exact False.elim hq'
theorem pe_mkR (M : Mk X.K C f) (F : FnR X.prog X.w X.K X.mg X.base (L2.CX X.prog X.w) k f sp) (hr : Room (k + 1) X.A) (hg : Gl X x) (hm : X.mg x = some (.ref C)) (hx : ∀ σ, PassesAt (L2.CX X.prog X.w) X σ (E σ)) (ha : PA X (e :: es) t) (hdb : (x == ("__debug__" : Str)) = false := by decide)
    (he : starEach (e :: es) X.env = (false, eval e X.env) :: starEach es X.env := by rfl) (hpl : (backTo pos (starEach es X.env)).any (·.1) = false := by rfl) : PE X (.Call (.Name x p) (e :: es) [] pos) (tMkR C sp E t) := by
  refine ⟨fun pins s σ H Q I h => ?_⟩
  refine wpAny_Call_Name_kw (ld_glob I hg hm ?_ hdb)
  refine PySem.W.callWith_K (h₀ := X.base) I.ok.mod.kin M.kp (thn (ha.run pos pins s σ H _ I h) fun us s1 ⟨vs, H1, I1, r, q⟩ => ⟨I1.kIn, ?_⟩) he hpl
  exact run_mkR M F hr (hx σ) I1 r q
theorem pe_mkR0 (M : Mk X.K C f) (F : FnR X.prog X.w X.K X.mg X.base (L2.CX X.prog X.w) k f sp) (hr : Room (k + 1) X.A) (hg : Gl X x) (hm : X.mg x = some (.ref C)) (hx : ∀ σ, PassesAt (L2.CX X.prog X.w) X σ (E σ)) (hdb : (x == ("__debug__" : Str)) = false := by decide)
    (hpl : ((backTo pos (starEach [] X.env)).any (·.1) || (backToKw pos (keywordEach [] X.env)).any (·.1.isNone)) = false := by rfl) (hall : (backToKw pos (keywordEach [] X.env)).all (·.1.isSome) = true := by rfl) :
    PE X (.Call (.Name x p) [] [] pos) (tMkR C sp E tNil) := by
  refine ⟨fun pins s σ H Q I h => ?_⟩
  refine wpAny_Call_Name_kw (ld_glob I hg hm ?_ hdb)
  refine PySem.W.callWith_KW0 (first := []) (h₀ := X.base) I.ok.mod.kin M.kp hall ?_ hpl
  refine wpAny_evalAll_nil ⟨I.kIn, ?_⟩
  exact run_mkR (us := []) (vs := []) M F hr (hx σ) I .nil h
/-- o[i] = v by an own def -/
def sSetO (C : Addr) (sp : Sp) (E : L2.St → XK) (tv to ti : TE) : TS := fun D σ H => tv σ H fun v H1 => to σ H1 fun x H2 => ti σ H2 fun y H3 => ∃ a dx fs, x = .ref a ∧ H3 a = some (.ins C dx fs) ∧ sp [.ref a, y, v] H3 (fun _ H4 => D.nx σ H4) (E σ)
theorem ps_setO {value : Expr} {tv to ti : TE} {pos' : Pos} (hq : PySem.W.noSeq X.K C = true) (hs : PySem.W.findIn X.K (.ref C) "__setitem__" = some (some (.ref g))) (hf : PySem.W.isFn X.K (.ref g) = true)
    (F : FnR X.prog X.w X.K X.mg X.base (L2.CX X.prog X.w) k g sp) (hr : Room k X.A) (hx : ∀ σ, PassesAt (L2.CX X.prog X.w) X σ (E σ)) (ho : PE X o to) (hi : PE X i ti) (hv : PE X value tv)
    (hsw : swapsWith value (some (.Subscript o i pos')) pos.line X.env = pure false := by rfl) : PS X (.Assign [.Subscript o i pos'] value pos) (sSetO C sp E tv to ti) := by
  refine ⟨fun pins s σ H D I h => ?_⟩
  refine wpAny_Assign_Subscript (thn (hv.run pins s σ H _ I h) fun u s1 ⟨v, H1, I1, rv, q1⟩ => thn (ho.run pins s1 σ H1 _ I1 q1) fun ov s2 ⟨x, H2, I2, rx, q2⟩ => thn (hi.run pins s2 σ H2 _ I2 q2) fun iv s3 ⟨y, H3, I3, ry, a, dx, fs, ex, ea, q3⟩ => ?_) hsw
  subst ex
  obtain rfl : ov = Value.ref a := rx
  obtain ⟨mA, O, _⟩ := ins_get I3.hok ea
  obtain ⟨od, J, _⟩ := O.look
  obtain ⟨m, hF⟩ := I3.fr
  refine PySem.W.ksp_setItem hF I3.ok.mod.kin J hq hs hf ?_
  refine wpAny_mono (wpAny_call (run_at0 (us := [.ref a, iv, u]) (vs := [.ref a, y, v]) F hr I3 (hx σ) (.cons rfl (.cons ry (.cons rv .nil))) q3)) (fun w s' z => ?_) fun _ _ x => x
  obtain ⟨z2, H4, I4, rz, qz⟩ := z
  exact ⟨σ, H4, I4, qz⟩
/-- x += y by an own def -/
def sIpO (j : Nat) (C : Addr) (sp : Sp) (E : L2.St → XK) (te : TE) : TS := fun D σ H => ∃ v, σ[j]? = some (some v) ∧ te σ H fun y H1 => ∃ a dx fs, v = .ref a ∧ H1 a = some (.ins C dx fs) ∧ sp [v, y] H1 (fun z H2 => D.nx (σ.set j (some z)) H2) (E σ)
theorem ps_augO {op : Operator} {j : Nat} {te : TE} {pos' : Pos} (hN : X.N.Nodup) (hi : X.N[j]? = some x) (hl : Loc X.env.scope x) (he : PE X e te) (hc : PySem.W.selfFirst X.K C = true) (hs : PySem.W.findIn X.K (.ref C) (dunderI op.info.2) = some (some (.ref g))) (hf : PySem.W.isFn X.K (.ref g) = true)
    (F : FnR X.prog X.w X.K X.mg X.base (L2.CX X.prog X.w) k g sp) (hr : Room k X.A) (hx : ∀ σ, PassesAt (L2.CX X.prog X.w) X σ (E σ)) (hfn : X.fn x = true ∨ X.env.scope.names.lookup x = some .local := by first | exact .inl rfl | exact .inr rfl | assumption) :
    PS X (.AugAssign (.Name x pos') op e pos) (sIpO j C sp E te) := by
  refine ⟨fun pins s σ H D I h => ?_⟩
  obtain ⟨v, e1, h⟩ := h
  obtain ⟨m, hn, hl2⟩ := I.loc
  have vis : Vis X.env.scope x := by rcases hl with k | k; exact .inl k; exact .inr (.inl k)
  obtain ⟨u, r, l⟩ := hl2 j x v hi e1 vis
  refine wpAny_AugAssign_Name ?_
  have go : wpAny (model X.prog X.w) X.A (eval e X.env) (fun w s₂ => wpAny (model X.prog X.w) X.A (inplaceOp op u w) (fun r s₃ => wpAny (model X.prog X.w) X.A (storeName X.env x r) (fun _ => SP X pins D .next) X.xe s₃) X.xe s₂) X.xe s := by
    refine thn (he.run pins s σ H _ I h) fun w s1 ⟨y, H1, I1, r1, a, dx, fs, ev, ea, q1⟩ => ?_
    subst ev
    cases (show u = Value.ref a from r)
    obtain ⟨mA, O, _⟩ := ins_get I1.hok ea
    obtain ⟨od, J, _⟩ := O.look
    obtain ⟨mf, hF⟩ := I1.fr
    refine PySem.W.ksp_inplace hF I1.ok.mod.kin J hc hs hf ?_
    refine wpAny_mono (wpAny_call (run_at0 (us := [.ref a, w]) (vs := [.ref a, y]) F hr I1 (hx σ) (.cons rfl (.cons r1 .nil)) q1)) (fun rr s' z => ?_) fun _ _ x => x
    obtain ⟨zv, H2, I2, r2, q2⟩ := z
    exact SlX.cmpback r2 (store_ok I2 hN hi hl r2 (fun s3 I3 => ⟨_, H2, I3, q2⟩) hfn)
  rcases l with ⟨hk, hm⟩ | ⟨hk, c, hc2, hcell⟩
  · exact wpAny_loadName_local I.ok.kind hk hn hm go
  · rcases hk with hk | hk
    · exact wpAny_loadName_cell I.ok.kind hk hc2 hcell go
    · rcases hl with k | k
      · have : X.env.scope.names.lookup x = some .free := hk
        rw [k] at this; cases this
      · have : X.env.scope.names.lookup x = some .free := hk
        rw [k] at this; cases this
/-! t.count(x), texts -/
theorem dp_strs {K : PySem.W.Frag} {H : Hp} : ∀ ws : List Str, DpAll K H (ws.map V.str) (ws.map .str)
  | [] => .nil
  | _ :: ws => .cons (.str _) (dp_strs ws)
theorem plain_strs : ∀ ws : List Str, PyData.plainAll (ws.map .str) = true
  | [] => by simp [PyData.plainAll]
  | _ :: ws => by
    have := plain_strs ws
    simp [PyData.plainAll, PyData.plain, this]
theorem count_strs (z : Str) : ∀ ws : List Str, (((ws.map PyData.str).countP fun y => PyData.eqv y (.str z) : Nat)) = ws.count z
  | [] => rfl
  | w :: ws => by
    rw [List.map_cons, List.countP_cons, count_strs z ws, List.count_cons]
    have : PyData.eqv (.str w) (.str z) = (w == z) := by simp [PyData.eqv]
    rw [this]
def rCountT (K : PySem.W.Frag) : V → List V → Hp → VK → Prop := fun x xs H Q => ∃ (a : Addr) (ws : List Str) (z : Str), x = V.ref a ∧ xs = [.str z] ∧ SqT K H a (ws.map V.str) ∧ Q (.int (ws.count z : Nat)) H
theorem mt_countT (hu : X.A.units + 64 < cLine) : MtR X "tuple.count" (rCountT X.K) := by
  intro pins s σ H x xs v us Q I rx rxs h
  obtain ⟨a, ws, z, rfl, rfl, hs, q⟩ := h
  cases rx
  cases rxs with
  | cons ry rt =>
    rename_i uy ut
    cases rt
    obtain ⟨its, rv, ht, _⟩ := I.tuple hs
    obtain ⟨as, r1⟩ := Dp.readsAll I (ws.map .str) _ its (dp_strs ws) rv
    obtain ⟨bs, r2⟩ := Dp.reads I (.str z) _ uy (.str z) ry
    refine PySem.SeqAt.count_tuple_data (vs := its.toArray) ht (by simpa using r1) r2 (plain_strs ws) rfl ?_ ?_
    · have : PyData.depth (.str z) = 0 := by simp [PyData.depth]
      rw [this]
      omega
    · rw [count_strs]
      exact ⟨.int _, H, I.tok _, ⟨_, rfl⟩, q⟩
def rCountL (K : PySem.W.Frag) : V → List V → Hp → VK → Prop := fun x xs H Q => ∃ (a : Addr) (ws : List Str) (z : Str), x = V.ref a ∧ xs = [.str z] ∧ SqL K H a (ws.map V.str) ∧ Q (.int (ws.count z : Nat)) H
end
end S
namespace S
open PySem PySem.Spec PyProof.Rows L2
theorem hop_le : ∀ a b, compareOp .LtE a b = richCompare .LtE a b := fun _ _ => rfl
end S
namespace S
open PySem PySem.Spec PyProof.Rows L2
theorem mt_countK {X : Cx} {K : PySem.W.Frag} (hK : X.K = K) (hu : X.A.units + 64 < cLine) : MtR X "tuple.count" (rCountT K) := hK ▸ mt_countT hu
/-- t.count(x), a tuple of texts -/
def tTCnt (K : PySem.W.Frag) (to te : TE) : TE := fun σ H Q => to σ H fun x H1 => ∃ (a : Addr) (o : Obj) (ws : List Str), x = V.ref a ∧ H1 a = some (.frz o (.tup (ws.map V.str))) ∧ o.dict = none ∧ te σ H1 fun y H2 => ∃ z : Str, y = .str z ∧ SqT K H2 a (ws.map V.str) ∧ Q (.int (ws.count z : Nat)) H2
theorem pe_tcount {X : Cx} {K : PySem.W.Frag} {o e : Expr} {apos cpos : Pos} {to te : TE} (hK : X.K = K) (hu : X.A.units + 64 < cLine) (ho : PE X o to) (he : PE X e te) (m : M1 X o "count" apos e cpos) : PE X (.Call (.Attribute o "count" apos) [e] [] cpos) (tTCnt K to te) := by
  subst hK
  refine ⟨fun pins s σ H Q I h => ?_⟩
  refine wpAny_Call_method m.base m.few m.line PySem.F.plainAttrs_tuple PySem.F.slot_tuple_count PySem.F.type_tuple_count (thn (ho.run pins s σ H _ I h) fun u s1 ⟨x, H1, I1, rx, a, ob, ws, ex, ha, hdn, q1⟩ => ?_)
  subst ex
  obtain rfl : u = Value.ref a := rx
  obtain ⟨its, rv, ht, _⟩ := I1.tuple (X := X) (.inl (.inr ⟨ob, ha⟩))
  refine ⟨Heap.IsTuple.typeIs ht, fun b e => ?_, ?_⟩
  · cases e
    exact ⟨ob, (I1.hok a _ ha).1, hdn⟩
  rw [m.trees]
  refine PySem.Calls.callWith_builtin rfl (PySem.Calls.evalArgs_plain (PySem.Calls.spliced_cons (thn (he.run pins s1 σ H1 _ I1 q1) fun iv s2 ⟨y, H2, I2, ry, z, ey, ha2, q2⟩ => PySem.Calls.spliced_nil ?_)))
  subst ey
  exact mt_countT hu pins s2 σ H2 (.ref a) [.str z] (.ref a) [iv] Q I2 rfl (.cons ry .nil) ⟨a, ws, z, rfl, rfl, ha2, q2⟩
end S
namespace S
open PySem PySem.Spec PyProof.Rows L2
/-! ### a def with a starred and a keyword-only parameter that is given; own operators of plain classes -/
def FnRK (P : Program) (w : World) (K : PySem.W.Frag) (mg : Str → Option Value) (base : Heap) (CX : CXT) (k : Nat) (f : Addr) (pk : Str) (sp : Sp) : Prop :=
  ∀ (A : Around) (outer : List Env) (s : Shared) (H : Hp) (u1 u2 : Value) (w0 tv : V) (Q : VK) (E : XK), Room k A → Env0 P w K mg base A outer s H → RelV w0 u1 → RelV tv u2 → sp [w0, tv] H Q E →
    codeAny (model P w) A (.call (.ref f) ⟨[u1], [(pk, u2)]⟩) (CR CX outer P w H s Q E) s
section
variable {P : Program} {w : World} {K : PySem.W.Frag} {mg : Str → Option Value} {base : Heap} {k : Nat} {f : Addr} {fd : FuncData} {x qual : Str} {params : Arguments} {body : List Stmt} {scope : Scope} {N : List Str} {sp : Sp} {p1 pk pv : Str} {dv : V}
def spStarK (sp : Sp) : Sp := fun vs H Q E => ∃ w tv, vs = [w, tv] ∧ ∀ p o, H p = Option.none → o.dict = Option.none → sp [w, tv, V.ref p] (upd H p (.frz o (.tup []))) Q E
theorem FunD.star2K (F : FunD K x qual params body scope [] [(pk, dv)] f fd) (S : FnScope N [p1, pk, pv] scope)
    (hb : ∀ (D : Addr) (doc pm : Value) (an : Option Addr) (cdv ct : Value) (a mv : Value), bindArgs (PySem.W.fnOf x qual params body scope .none (.ref D) doc pm an cdv ct) ⟨[a], [(pk, mv)]⟩ = (newTuple [] >>= fun t => pure [(p1, a), (pk, mv), (pv, t)]))
    (hbody : ∀ (cdv : Value) (A : Around) (outer : List Env) (s : Shared) (H : Hp) (vs : List V) (Q : VK) (E : XK), Room k (A.deeper (envOfC qual scope s.heap.objs.size f cdv)) → sp vs H Q E →
      ∃ t, PSs (cxOf (L2.CX P w) P w K mg base N qual scope f cdv A outer s H E) body t ∧ t { nx := fun _ H' => Q .non H', rt := Q } (start N vs) H) :
    FnRK P w K mg base (L2.CX P w) (k + 1) f pk (spStarK sp) := by
  obtain ⟨oc, od, dV, kV, doc, pm, an, cdv, ct, osl, rfl, lk, hcd, hD, hK⟩ := F.ex
  rcases hD with ⟨_, rfl⟩ | ⟨e, _⟩
  · rcases hK with e | ⟨D, rfl, hq⟩
    · cases e
    · intro A outer s H u1 u2 w0 tv Q E hr e0 r1 r2 hsp
      obtain ⟨w0', tv', ev, hq'⟩ := hsp
      cases ev
      have hn : H s.heap.objs.size = Option.none := e0.hok.fresh (Nat.le_refl _)
      refine StX.run_bnd (ps := [p1, pk, pv]) lk hcd S hr e0 (G := fun xs H2 => ∃ p o, H p = Option.none ∧ o.dict = Option.none ∧ xs = [w0, tv, V.ref p] ∧ H2 = upd H p (.frz o (.tup []))) (fun A' Ex Q' h => ?_) fun s2 H2 xs ⟨p, o, hp, ho, ex, eH⟩ hr' => ?_
      · rw [hb D doc pm an cdv ct u1 u2]
        refine wpAny_bind (wpAny_newTuple (wpAny_pure ?_) (Nat.zero_le _))
        have new : ObjOk P w (upd H s.heap.objs.size (.frz ({ cls := .type "tuple", data := .seq ([] : List Value).toArray } : Obj) (.tup []))) (s.heap.push ({ cls := .type "tuple", data := .seq ([] : List Value).toArray } : Obj)) s.heap.objs.size (.frz ({ cls := .type "tuple", data := .seq ([] : List Value).toArray } : Obj) (.tup [])) := ⟨Heap.get?_push_size _ rfl, Nat.zero_le _, [], .nil, ⟨_, Heap.get?_push_size _ rfl, rfl, _, rfl⟩⟩
        have un := StX.un_laid (fs := frs outer) (s := s) (o := ({ cls := .type "tuple", data := .seq ([] : List Value).toArray } : Obj)) (u := .frz ({ cls := .type "tuple", data := .seq ([] : List Value).toArray } : Obj) (.tup [])) hn
        exact h _ _ [w0, tv, V.ref s.heap.objs.size] [u1, u2, Value.ref s.heap.objs.size] (StX.env0_laid e0 new) un rfl (fun e s' => StX.cxUp outer s H _ _ E e s' un (fun b o q => Heap.get?_push_of_some _ q) rfl) (.cons r1 (.cons r2 (.cons rfl .nil))) rfl ⟨_, _, hn, rfl, rfl, rfl⟩
      · subst ex eH
        exact hbody cdv A outer s2 _ _ Q E hr' (hq' p o hp ho)
  · exact absurd rfl e
end
def tMkRK (C : Addr) (sp : Sp) (E : L2.St → XK) (tk : TA) : TE := fun σ H Q => tk σ H fun zs H1 => ∃ tv, zs = [tv] ∧ ∀ x dx, H1 x = Option.none → H1 dx = Option.none → dx ≠ x →
  sp [V.ref x, tv] (upd (upd H1 dx (.own x)) x (.ins C dx [])) (fun v H2 => v = .non ∧ Q (.ref x) H2) (E σ)
section
variable {X : Cx} {k : Nat} {f C : Addr} {sp spR : Sp} {E : L2.St → XK} {x pk : Str} {kws : List Keyword} {tk : TA} {p pos : Pos}
theorem pe_mkRK (M : Mk X.K C f) (F : FnRK X.prog X.w X.K X.mg X.base (L2.CX X.prog X.w) k f pk sp) (hr : Room (k + 1) X.A) (hg : Gl X x) (hm : X.mg x = some (.ref C)) (hx : ∀ σ, PassesAt (L2.CX X.prog X.w) X σ (E σ)) (hkw : PK X kws tk)
    (hall : (backToKw pos (keywordEach kws X.env)).all (·.1.isSome) = true) (hks : (backToKw pos (keywordEach kws X.env)).filterMap (·.1) = [pk]) (hdb : (x == ("__debug__" : Str)) = false := by decide)
    (hpl : ((backTo pos (starEach [] X.env)).any (·.1) || (backToKw pos (keywordEach kws X.env)).any (·.1.isNone)) = false := by rfl) : PE X (.Call (.Name x p) [] kws pos) (tMkRK C sp E tk) := by
  refine ⟨fun pins s σ H Q I h => ?_⟩
  refine wpAny_Call_Name_kw (ld_glob I hg hm ?_ hdb)
  refine PySem.W.callWith_KW0 (first := []) (h₀ := X.base) I.ok.mod.kin M.kp hall (thn (hkw.run pos pins s σ H _ I h) fun ws s2 ⟨zs, H2, I2, rz, tv, ez, q⟩ => ⟨I2.kIn, ?_⟩) hpl
  subst ez
  rw [hks]
  cases rz with
  | @cons _ u _ us r1 r2 =>
  cases r2
  have hq := q (s2.heap.objs.size + 1) s2.heap.objs.size (I2.hok.fresh (Nat.le_succ _)) (I2.hok.fresh (Nat.le_refl _)) (Nat.ne_of_lt (Nat.lt_succ_self _))
  have J := Inv.made (C := C) I2
  refine wpAny_call (make_map (f := f) I2.kIn M.makes M.init (beq_iff_eq.mp M.fn) (codeAny_mono (F _ X.stack _ _ (Value.ref (s2.heap.objs.size + 1)) u (V.ref (s2.heap.objs.size + 1)) tv _ (E σ) (hr.make C [] [(pk, u)]) (J.env0.make C [] [(pk, u)]) rfl r1 hq) fun r s' hq' => ?_))
  match r, hq' with
  | .error e, hq' => exact hx σ pins _ _ e s' J hq'
  | .ok (.ret u), hq' =>
    obtain ⟨v, H', I3, rv, ev, q3⟩ := J.after hq'
    subst ev
    exact ⟨rv, ⟨V.ref (s2.heap.objs.size + 1), H', I3, rfl, q3⟩⟩
  | .ok .next, hq' => exact hq'.elim
  | .ok .brk, hq' => exact hq'.elim
  | .ok .cont, hq' => exact hq'.elim
end
/-- x op y, both instances of a plain class -/
def tBinI (C : Addr) (sp : Sp) (E : L2.St → XK) (ta tb : TE) : TE := fun σ H Q => ta σ H fun x H1 => tb σ H1 fun y H2 => ∃ a dx fs b dy gs, x = .ref a ∧ y = .ref b ∧ H2 a = some (.ins C dx fs) ∧ H2 b = some (.ins C dy gs) ∧ sp [x, y] H2 Q (E σ)
/-- x op y, one of them an instance of a plain class, the other an int -/
def tBinIN (C : Addr) (sp spR : Sp) (E : L2.St → XK) (ta tb : TE) : TE := fun σ H Q => ta σ H fun x H1 => tb σ H1 fun y H2 => (∃ a dx fs i, x = .ref a ∧ y = .int i ∧ H2 a = some (.ins C dx fs) ∧ sp [x, y] H2 Q (E σ)) ∨ (∃ b dy gs i, x = .int i ∧ y = .ref b ∧ H2 b = some (.ins C dy gs) ∧ spR [y, x] H2 Q (E σ))
section
variable {X : Cx} {C f g : Addr} {n k : Nat} {sp spR : Sp} {E : L2.St → XK} {op : Operator} {idl : String} {B : Builtin} {a b : Expr} {ta tb : TE} {pos : Pos}
theorem pe_binII (sf : PySem.W.selfFirst X.K C = true) (at_ : PySem.W.findIn X.K (.ref C) (PySem.dunder op.info.2) = some (some (.ref f))) (fn : PySem.W.isFn X.K (.ref f) = true)
    (F : FnR X.prog X.w X.K X.mg X.base (L2.CX X.prog X.w) n f sp) (hr : Room n X.A) (hx : ∀ σ, PassesAt (L2.CX X.prog X.w) X σ (E σ)) (ha : PE X a ta) (hb : PE X b tb) : PE X (.BinOp a op b pos) (tBinI C sp E ta tb) := by
  refine ⟨fun pins s σ H Q I h => wpAny_BinOp (binT ha hb I h fun v u s2 x y H2 I2 rx ry q => ?_)⟩
  obtain ⟨m, hF⟩ := I2.fr
  obtain ⟨a, dx, fs, b, dy, gs, rfl, rfl, h1, h2, q⟩ := q
  cases (show v = Value.ref a from rx)
  cases (show u = Value.ref b from ry)
  obtain ⟨mA, O, _⟩ := ins_get I2.hok h1
  obtain ⟨od, J, _⟩ := O.look
  obtain ⟨mB, O', _⟩ := ins_get I2.hok h2
  obtain ⟨od', J', _⟩ := O'.look
  exact PySem.W.binop_K hF I2.ok.mod.kin J J'.type sf at_ fn (wpAny_mono (wpAny_call (run_fnAt (us := [.ref a, .ref b]) (ws := [.ref a, .ref b]) F hr (hx σ) I2 (.cons rfl (.cons rfl .nil)) q)) (fun w s' z => cb_of z) fun _ _ x => x)
theorem pe_binIN (io : IntOp op idl B) (c : BinC X.K C op.info.2 f g) (F : FnR X.prog X.w X.K X.mg X.base (L2.CX X.prog X.w) n f sp) (hr : Room n X.A) (G : FnR X.prog X.w X.K X.mg X.base (L2.CX X.prog X.w) k g spR) (hr2 : Room k X.A)
    (hx : ∀ σ, PassesAt (L2.CX X.prog X.w) X σ (E σ)) (ha : PE X a ta) (hb : PE X b tb) : PE X (.BinOp a op b pos) (tBinIN C sp spR E ta tb) := by
  refine ⟨fun pins s σ H Q I h => wpAny_BinOp (binT ha hb I h fun v u s2 x y H2 I2 rx ry q => ?_)⟩
  obtain ⟨m, hF⟩ := I2.fr
  rcases q with ⟨a, dx, vs, i, rfl, rfl, h1, q⟩ | ⟨b, dy, ws, i, rfl, rfl, h1, q⟩
  · cases (show v = Value.ref a from rx)
    obtain ⟨t, rfl⟩ := (show ∃ t, u = Value.int i t from ry)
    obtain ⟨mA, O, _⟩ := ins_get I2.hok h1
    obtain ⟨od, J, _⟩ := O.look
    obtain ⟨fo, e1⟩ := c.i1
    obtain ⟨ro, e2⟩ := c.i2
    exact PySem.W.ksp_binT (T := "int") hF I2.ok.mod.kin J rfl c.sf c.at_ c.fn c.atR (.inr ⟨_, rfl⟩) e1 e2 c.us (wpAny_mono (wpAny_call (run_fnAt (us := [.ref a, .int i t]) (ws := [.ref a, .int i]) F hr (hx σ) I2 (.cons rfl (.cons ⟨t, rfl⟩ .nil)) q)) (fun w s' z => cb_of z) fun _ _ x => x)
  · obtain ⟨t, rfl⟩ := (show ∃ t, v = Value.int i t from rx)
    cases (show u = Value.ref b from ry)
    obtain ⟨mA, O, _⟩ := ins_get I2.hok h1
    obtain ⟨od, J, _⟩ := O.look
    exact bin_refl io I2.kIn J ⟨_, J.at_, fun _ _ => by intro z; cases z⟩ c.sf c.at_ c.atR c.fnR c.su (wpAny_mono (wpAny_call (run_fnAt (us := [.ref b, .int i t]) (ws := [.ref b, .int i]) G hr2 (hx σ) I2 (.cons rfl (.cons ⟨t, rfl⟩ .nil)) q)) (fun w s' z => cb_of z) fun _ _ x => x)
end
theorem sortedSK {X : Cx} {K : PySem.W.Frag} (hK : X.K = K) : CallR X (.builtin "sorted") (rSortedS K) := hK ▸ cr_sortedS
theorem boot_sorted : bootBuiltins "sorted" = some (.builtin "sorted") := by decide +kernel
end S
namespace S
open PySem PySem.Spec PyProof.Rows L2
/-! l.count(x), a list of texts -/
theorem mt_countL {X : Cx} (hu : X.A.units + 64 < cLine) : MtR X "list.count" (rCountL X.K) := by
  intro pins s σ H x xs v us Q I rx rxs h
  obtain ⟨a, ws, z, rfl, rfl, hs, q⟩ := h
  cases rx
  cases rxs with
  | cons ry rt =>
    rename_i uy ut
    cases rt
    obtain ⟨its, rv, ht, _⟩ := I.list hs
    obtain ⟨as, r1⟩ := Dp.readsAll I (ws.map .str) _ its (dp_strs ws) rv
    obtain ⟨bs, r2⟩ := Dp.reads I (.str z) _ uy (.str z) ry
    refine PySem.SeqAt.count_list_data (vs := its.toArray) ht.isList (by simpa using r1) r2 (plain_strs ws) rfl ?_ ?_
    · have : PyData.depth (.str z) = 0 := by simp [PyData.depth]
      rw [this]
      omega
    · rw [count_strs]
      exact ⟨.int _, H, I.tok _, ⟨_, rfl⟩, q⟩
theorem mt_countLK {X : Cx} {K : PySem.W.Frag} (hK : X.K = K) (hu : X.A.units + 64 < cLine) : MtR X "list.count" (rCountL K) := hK ▸ mt_countL hu
end S
namespace S
open PySem PySem.Spec PyProof.Rows L2 StX
/-! texts: starred items, methods of texts, l[::2] of seven -/
section
variable {X : Cx} {K : Frag} {e o : Expr} {es : List Expr} {te to : TE} {t : TA} {p pos apos : Pos}
theorem pa_starK (hK : X.K = K) (he : PE X e te) (hr : PA X es t) (hs : starEach (.Starred e p :: es) X.env = (true, eval e X.env) :: starEach es X.env := by rfl) : PA X (.Starred e p :: es) (tStar K te t) := hK ▸ pa_star he hr hs
theorem pe_joinK (hK : X.K = K) (ho : PE X o to) (he : PE X e te) (hs : starEach [e] X.env = [(false, eval e X.env)] := by rfl) (hbase : attributeBase o "join" X.env (eval o X.env) = eval o X.env := by rfl) (hline : (apos.endLine == pos.line) = true := by rfl) :
    PE X (.Call (.Attribute o "join" apos) [e] [] pos) (tM1 (fun x xs H Q => ∃ a p, ∃ ys : List Str, x = .str a ∧ xs = [.ref p] ∧ (SqL K H p (ys.map V.str) ∨ SqT K H p (ys.map V.str)) ∧
      (ys.map (·.length)).sum + ys.length * a.length ≤ 16777216 ∧ Q (.str (Txt.join a ys)) H) to te) := hK ▸ pe_join ho he hs hbase hline
theorem pe_swith (ho : PE X o to) (he : PE X e te) (hs : starEach [e] X.env = [(false, eval e X.env)] := by rfl) (hbase : attributeBase o "startswith" X.env (eval o X.env) = eval o X.env := by rfl) (hline : (apos.endLine == pos.line) = true := by rfl) :
    PE X (.Call (.Attribute o "startswith" apos) [e] [] pos) (tM1 (fun x xs H Q => ∃ a b, x = .str a ∧ xs = [.str b] ∧ Q (.bl (Txt.startswith a b)) H) to te) :=
  pe_m1 PySem.F.slot_str_startswith PySem.F.type_str_startswith mt_startswith ho he hs hbase hline
theorem pe_find (ho : PE X o to) (he : PE X e te) (hs : starEach [e] X.env = [(false, eval e X.env)] := by rfl) (hbase : attributeBase o "find" X.env (eval o X.env) = eval o X.env := by rfl) (hline : (apos.endLine == pos.line) = true := by rfl) :
    PE X (.Call (.Attribute o "find" apos) [e] [] pos) (tM1 (fun x xs H Q => ∃ a b, x = .str a ∧ xs = [.str b] ∧ Q (.int (Txt.find a b)) H) to te) :=
  pe_m1 PySem.F.slot_str_find PySem.F.type_str_find mt_find ho he hs hbase hline
theorem pe_rmpre (ho : PE X o to) (he : PE X e te) (hs : starEach [e] X.env = [(false, eval e X.env)] := by rfl) (hbase : attributeBase o "removeprefix" X.env (eval o X.env) = eval o X.env := by rfl) (hline : (apos.endLine == pos.line) = true := by rfl) :
    PE X (.Call (.Attribute o "removeprefix" apos) [e] [] pos) (tM1 (fun x xs H Q => ∃ a b, x = .str a ∧ xs = [.str b] ∧ a.length ≤ sizeLine ∧ Q (.str (Txt.removeprefix a b)) H) to te) :=
  pe_m1 PySem.F.slot_str_removeprefix PySem.F.type_str_removeprefix mt_removeprefix ho he hs hbase hline
/-- l[::2], seven items -/
def tStep2 (K : Frag) (te : TE) : TE := fun σ H Q => te σ H fun x H1 => ∃ a, ∃ x0 x1 x2 x3 x4 x5 x6 : V, x = .ref a ∧ SqL K H1 a [x0, x1, x2, x3, x4, x5, x6] ∧ ∀ p, H1 p = none → Q (.ref p) (upd H1 p (.lst [x0, x2, x4, x6]))
theorem pick2 (a b c d e f g : Value) : slicePick #[a, b, c, d, e, f, g] none none (some 2) = #[a, c, e, g] := by
  have h : sliceRange 0 7 2 = [0, 2, 4, 6] := by decide
  unfold slicePick
  show ((sliceRange 0 7 2).filterMap (#[a, b, c, d, e, f, g][·]?)).toArray = _
  rw [h]
  rfl
theorem pe_step2K (hK : X.K = K) {k : Nat} {p1 p3 : Pos} (he : PE X e te) : PE X (.Subscript e (.Slice none none (some (.Constant (.int 2) k p1)) p3) pos) (tStep2 K te) := by
  subst hK
  refine ⟨fun pins s σ H Q I h => ?_⟩
  refine Subscript_ (thn (he.run pins s σ H _ I h) fun v s1 ⟨x, H1, I1, r1, q1⟩ => ?_)
  obtain ⟨a, x0, x1, x2, x3, x4, x5, x6, ex, hx, q⟩ := q1
  subst ex
  cases r1
  have hst : PO X (some (.Constant (.int 2) k p1)) (tPart (tC (.int 2))) := po_some pe_int
  refine wpAny_Slice (thn (po_none.run pins s1 σ H1 (fun o H2 => o = none ∧ H2 = H1) I1 ⟨rfl, rfl⟩) fun vl s2 ⟨l, H2, I2, pl, el, e2⟩ => ?_)
  subst el e2
  refine thn (po_none.run pins s2 σ H2 (fun o H3 => o = none ∧ H3 = H2) I2 ⟨rfl, rfl⟩) fun vu s3 ⟨u, H3, I3, pu, eu, e3⟩ => ?_
  subst eu e3
  refine thn (hst.run pins s3 σ H3 (fun o H4 => o = some 2 ∧ H4 = H3) I3 ⟨2, rfl, rfl, rfl⟩) fun vs s4 ⟨o, H4, I4, ps, eo, e4⟩ => ?_
  subst eo e4
  have I5 : Inv X pins σ H4 { s4 with heap := s4.heap.push { cls := .type "slice", data := .fields #[vl, vu, vs] } } := I4.kept (t' := s4.toks) fun b ob q => Heap.get?_push_of_some _ q
  obtain ⟨its, r, ht, hz⟩ := I5.list hx
  show wpAny (model X.prog X.w) X.A (subscriptTail e (.Slice none none (some (.Constant (.int 2) k p1)) p3) (.ref a) (.ref s4.heap.objs.size)) (EP X pins σ Q) X.xe { s4 with heap := s4.heap.push { cls := .type "slice", data := .fields #[vl, vu, vs] } }
  refine tail_any (ops := [.ref a, .ref s4.heap.objs.size]) ht.isList.typeIs (PySem.slot_list_getitem.lookup) ?_ (by with_unfolding_all rfl)
  refine wpAny_getItem_list_slice ht.isList (Heap.IsSliceOf.new _ vl vu vs) pl pu ps (by decide) ?_ (by rw [List.size_toArray, ← r.length]; exact hz)
  cases r with | cons r0 r => cases r with | cons r1 r => cases r with | cons r2 r => cases r with | cons r3 r => cases r with | cons r4 r => cases r with | cons r5 r => cases r with | cons r6 r =>
  cases r
  rw [show ∀ a b c d e f g : Value, ([a, b, c, d, e, f, g] : List Value).toArray = #[a, b, c, d, e, f, g] from fun _ _ _ _ _ _ _ => rfl, pick2]
  refine ⟨.ref _, _, I5.laid (t' := s4.toks) (o := .lst [x0, x2, x4, x6]) (fun b ob q => Heap.get?_push_of_some _ q) (Nat.le_refl _) ?_, rfl, q _ (I5.hok.fresh (Nat.le_refl _))⟩
  exact ⟨by show 4 ≤ sizeLine; decide, _, 0, .cons r0 (.cons r2 (.cons r4 (.cons r6 .nil))), Heap.get?_push_size _ rfl⟩
end
end S
namespace S
open PySem PySem.Spec PyProof.Rows L2
/-! l[i] += x -/
def rGetL (K : Frag) : V → V → Hp → VK → Prop := fun o i H Q => ∃ p xs k v, o = .ref p ∧ i = .int k ∧ 0 ≤ k ∧ SqL K H p xs ∧ atI xs k = some v ∧ Q v H
theorem get_listK {X : Cx} {K : Frag} (hK : X.K = K) : PGet X (rGetL K) := by
  subst hK
  intro pins s σ H o i ov iv Q I ro ri h
  obtain ⟨p, xs, k, z, rfl, rfl, h0, hq, he, q⟩ := h
  cases ro
  obtain ⟨t, rfl⟩ := ri
  obtain ⟨its, r, pl, hz⟩ := I.list hq
  obtain ⟨j, h1, h2, h3, h4, h5⟩ := atI_get he
  obtain ⟨w, ew, rw'⟩ := r.get h2
  have hl := r.length
  have hn := line63
  have hj : k.toNat = j := by
    rw [seqIndex_of h0 h5] at h1
    exact Option.some.inj h1
  exact wpAny_getItem_list pl.isList (by omega) (by omega) (by rw [hj]; simpa using ew) ⟨z, H, I, rw', q⟩
end S
namespace S
open PySem PySem.Spec PyProof.Rows L2 LamX NdefX
/-! a lambda with parameters that captures nothing: made, held by a name, called there -/
/-- its words, its code object -/
structure LF where
  qual : Str
  params : Arguments
  body : Expr
  scope : Scope
  c : Addr
abbrev LF.nf (F : LF) : NF := ⟨"<lambda>", F.qual, F.params, [], F.scope, [], F.c⟩
abbrev LF.fd (F : LF) (pm ctv : Value) : FuncData := PySem.W.kla_fn "<lambda>" F.qual F.params F.body F.scope [] pm (.ref F.c) ctv
/-- the object at f is the lambda F -/
def LmO (f : Addr) (F : LF) : HO := .ext fun h => ∃ (pm ctv : Value), h.get? f = some (PySem.W.kla_obj "<lambda>" F.qual F.params F.body F.scope [] pm F.c ctv)
theorem lmO_ne {f : Addr} {F : LF} (ps : Array Value) : LmO f F ≠ .tbl ps := fun z => by
  unfold LmO at z
  cases z
theorem lmO_at {P : Program} {w : World} {H : Hp} {h : Heap} {f : Addr} {F : LF} (hok : HOk P w H h) (e : H f = some (LmO f F)) : ∃ (pm ctv : Value), h.get? f = some (PySem.W.kla_obj "<lambda>" F.qual F.params F.body F.scope [] pm F.c ctv) := by
  obtain ⟨z, _, _⟩ := hok f _ e
  exact z
theorem clo_nil {cells : List (Str × Addr)} : ∀ {names : List (Str × NameKind)}, (∀ y ∈ names, y.2 ≠ .free) → cloFrom cells names [] = [] := by
  intro names h
  cases e : cloFrom cells names [] with
  | nil => rfl
  | cons p r =>
    obtain ⟨x, c⟩ := p
    have hm : (x, c) ∈ cloFrom cells names [] := by rw [e]; exact List.mem_cons_self
    rcases cloFrom_mem hm with hm | ⟨h1, _⟩
    · cases hm
    · exact absurd rfl (h _ h1)
section
variable {X : Cx} {pins : List (Addr × Obj)} {σ : L2.St} {H : Hp} {s : Shared}
theorem inv_lm {F : LF} {h' : Heap} {t' : Nat} {pm ctv : Value} (I : Inv X pins σ H { s with heap := h', toks := t' }) :
    Inv X pins σ (upd H h'.objs.size (LmO h'.objs.size F)) { s with heap := h'.push (PySem.W.kla_obj "<lambda>" F.qual F.params F.body F.scope [] pm F.c ctv), toks := t' } := by
  refine I.laid (t' := t') (a := h'.objs.size) (fun b u e => Heap.get?_push_of_some _ e) (Nat.le_refl _) ?_
  have e : (h'.push (PySem.W.kla_obj "<lambda>" F.qual F.params F.body F.scope [] pm F.c ctv)).get? h'.objs.size = some (PySem.W.kla_obj "<lambda>" F.qual F.params F.body F.scope [] pm F.c ctv) := Heap.get?_push_size _ rfl
  exact ⟨⟨pm, ctv, e⟩, ⟨_, e⟩, fun h1 h2 ⟨p, t, z⟩ st => ⟨p, t, st _ z⟩⟩
/-- the lambda is made: its code object is new, or found in the table -/
theorem lam_mk {c P : Addr} {q : Str} {params : Arguments} {body : Expr} {scope : Scope} {pos : Pos} {E : Value → Shared → Prop} {Q : Value → Shared → Prop} (I : Inv X pins σ H s) (TB : TabB X.base X.mg c P) (hcode : X.env.code = .ref c)
    (hq : X.env.qual ++ "<lambda>" = q) (hT : TabS H P q) (hdef : defaultsOf params X.env = ([], [])) (hfree : ∀ y ∈ scope.names, y.2 ≠ .free)
    (h : ∀ (f c' : Addr) (H1 : Hp) (s' : Shared), Inv X pins σ H1 s' → ExtN H H1 → (∀ b, H1 b = Option.none → H b = Option.none) → TabS H1 P q → H f = none → H1 f = some (LmO f ⟨q, params, body, scope, c'⟩) → H1 c' = some (CodeO c' q) → Q (.ref f) s') :
    wpAny (model X.prog X.w) X.A (eval (.Lambda params body scope pos) X.env) Q E s := by
  subst hq
  obtain ⟨ps, hP, ht, ha⟩ := hT
  have hfr : ∀ y ∈ scope.names, y.2 = .free → ∃ c, X.env.cells.lookup y.1 = some c := fun y hy e => absurd e (hfree y hy)
  have cn : cloFrom X.env.cells scope.names [] = [] := clo_nil hfree
  refine PySem.W.kla_eval hdef ?_
  have bP : s.heap.BuiltinsAt X.mg P := TB.bm.keeps I.bk
  have hP' : s.heap.get? P = some { cls := .none, data := .fields ps } := I.hok P _ hP
  cases hc : codeAmong pos ps.toList with
  | none =>
    refine PySem.W.kla_makeFunction (mg := X.mg) (c := c) (P := P) (ps := ps) (closure_ok hfr) I.ok.glob (I.mod.glob.keeps I.bk) hcode (TB.code.keeps I.bk) hP' ht hc TB.gP bP fun c' ctv h' tk hx hge hlt hrec htb => ?_
    obtain ⟨c2, oc, vs, t, e2, hoc, hd, hv⟩ := hrec
    cases e2
    rw [cn]
    have nC : H c' = none := I.hok.fresh hge
    have I1 := inv_table (t' := tk) (more := #[rawInt pos.line, rawInt pos.col, .ref c']) (h' := h') I hP (fun b o hb e => hx b o hb e) htb hge ⟨oc, vs, t, hoc, hd, hv⟩
    have hE : ExtN H (upd (upd H P (.tbl (ps ++ #[rawInt pos.line, rawInt pos.col, .ref c']))) c' (CodeO c' (X.env.qual ++ "<lambda>"))) := fun b o e n => by
      rw [upd_ne (ne_of_none e nC), upd_ne (fun z => n ps (Option.some.inj (e.symm.trans (by rw [z]; exact hP))))]
      exact e
    have eL : (ps ++ #[rawInt pos.line, rawInt pos.col, .ref c']).toList = ps.toList ++ [rawInt pos.line, rawInt pos.col, .ref c'] := by simp
    have T1 : TabS (upd (upd H P (.tbl (ps ++ #[rawInt pos.line, rawInt pos.col, .ref c']))) c' (CodeO c' (X.env.qual ++ "<lambda>"))) P (X.env.qual ++ "<lambda>") := by
      refine ⟨_, by rw [upd_ne (ne_of_none hP nC), upd_same], by rw [eL]; exact PySem.TriplesOk_snoc _ _ _ _ ht, fun p' cv hcv => ?_⟩
      rw [eL] at hcv
      rcases among_app _ ht hcv with z | z
      · obtain ⟨c0, e1, e2⟩ := ha p' cv z
        exact ⟨c0, e1, hE _ _ e2 codeO_ne⟩
      · exact ⟨c', z, upd_same⟩
    have nF := I1.hok.fresh (Nat.le_refl _)
    have I2 := inv_lm (F := ⟨X.env.qual ++ "<lambda>", params, body, scope, c'⟩) (pm := (X.mg "__name__").getD .none) (ctv := ctv) I1
    refine h h'.objs.size c' _ _ I2 (fun b o e n => ?_) (fun b e => upd_none (upd_none (upd_none e))) (T1.ext fun b o e => ?_) (I.hok.fresh (Nat.le_trans hge (Nat.le_of_lt hlt))) upd_same ?_
    · have e1 := hE b o e n
      exact (upd_ne (ne_of_none e1 nF)).trans e1
    · exact (upd_ne (ne_of_none e nF)).trans e
    · exact (upd_ne (Nat.ne_of_lt hlt)).trans upd_same
  | some cv =>
    obtain ⟨c', e, hco⟩ := ha pos cv hc
    subst e
    refine PySem.W.kla_makeFunctionHit (mg := X.mg) (c := c) (P := P) (ps := ps) (closure_ok hfr) I.ok.glob (I.mod.glob.keeps I.bk) hcode (TB.code.keeps I.bk) hP' ht hc bP fun ctv h' tk hx hsz => ?_
    rw [cn]
    have I1 : Inv X pins σ H { s with heap := h', toks := tk } := I.kept hx
    have nF : H h'.objs.size = none := I1.hok.fresh (Nat.le_refl _)
    have I2 := inv_lm (F := ⟨X.env.qual ++ "<lambda>", params, body, scope, c'⟩) (pm := (X.mg "__name__").getD .none) (ctv := ctv) I1
    refine h h'.objs.size c' _ _ I2 (fun b o e n => ?_) (fun b e => upd_none e) (TabS.ext ⟨ps, hP, ht, ha⟩ fun b o e => ?_) nF upd_same ?_
    · exact (upd_ne (ne_of_none e nF)).trans e
    · exact (upd_ne (ne_of_none e nF)).trans e
    · exact (upd_ne (ne_of_none hco nF)).trans hco
end
/-- the reading of a lambda that captures nothing -/
def tLm (P : Addr) (q : Str) (mk : Addr → LF) : TE := fun _ H Q => TabS H P q ∧ ∀ (f c' : Addr) (H1 : Hp), ExtN H H1 → (∀ b, H1 b = Option.none → H b = Option.none) → TabS H1 P q → H f = none → H1 f = some (LmO f (mk c')) → H1 c' = some (CodeO c' q) → Q (.ref f) H1
theorem pe_lm {X : Cx} {c P : Addr} {q : Str} {params : Arguments} {body : Expr} {scope : Scope} {pos : Pos} (TB : X.Ok → TabB X.base X.mg c P) (hcode : X.env.code = .ref c) (hq : X.env.qual ++ "<lambda>" = q) (hdef : defaultsOf params X.env = ([], [])) (hfree : ∀ y ∈ scope.names, y.2 ≠ .free) :
    PE X (.Lambda params body scope pos) (tLm P q fun c' => ⟨q, params, body, scope, c'⟩) := by
  refine ⟨fun pins s σ H Q I h => ?_⟩
  obtain ⟨hT, h⟩ := h
  exact lam_mk I (TB I.ok) hcode hq hT hdef hfree fun f c' H1 s' I1 eN nn T1 f0 f1 c1 => ⟨.ref f, H1, I1, rfl, h f c' H1 eN nn T1 f0 f1 c1⟩
/-- the promise of the lambda F at f -/
structure LOk (P : Program) (w : World) (K : PySem.W.Frag) (mg : Str → Option Value) (base : Heap) (CX : CXT) (k : Nat) (f : Addr) (F : LF) (sp : Sp) : Prop where
  run : ∀ (A : Around) (outer : List Env) (s : Shared) (H : Hp) (us : List Value) (vs : List V) (Q : VK) (E : XK), Room k A → Env0 P w K mg base A outer s H → H f = some (LmO f F) → H F.c = some (CodeO F.c F.qual) →
    Vals vs us → sp vs H Q E → codeAny (model P w) A (.call (.ref f) ⟨us, []⟩) (CR CX outer P w H s Q E) s
section
variable {CX : CXT} {P : Program} {w : World} {K : PySem.W.Frag} {mg : Str → Option Value} {base : Heap} {N ps : List Str} {F : LF} {f : Addr} {k j : Nat} {sp : Sp}
theorem lok_of (S : NScope N ps [] F.scope) (hb : ∀ (pm ctv : Value) (us : List Value), us.length = ps.length → bindArgs (F.fd pm ctv) ⟨us, []⟩ = pure (ps.zip us)) (len : ∀ vs H Q E, sp vs H Q E → vs.length = ps.length)
    (hbody : ∀ (A : Around) (outer : List Env) (s : Shared) (H : Hp) (vs : List V) (Q : VK) (E : XK), Room k (A.deeper (envF F.nf f s.heap.objs.size)) → sp vs H Q E → ∃ t, PE (ncx CX P w K mg base N F.nf f A outer s H E) F.body t ∧ t (startF N vs []) H Q) :
    LOk P w K mg base CX (k + 1) f F sp := by
  refine ⟨fun A outer s H us vs Q E hr e0 hf hc r hsp => ?_⟩
  have hl := len _ _ _ _ hsp
  have lim : s.heap.NoLimit := e0.mod.nolimit.keeps fun b o e => (e0.bs b o e).1
  obtain ⟨pm, ctv, ho⟩ := lmO_at e0.hok hf
  refine PySem.W.kla_callFunE hr.depth ho rfl S.co S.gen rfl (codeO_at e0.hok hc) ?_
  show wpAny _ _ (bindArgs (F.fd pm ctv) ⟨us, []⟩) _ _ _
  rw [hb pm ctv us (by rw [← r.length]; exact hl)]
  refine wpAny_pure (wpAny_newFunctionEnv S.nocell (fun ⟨n, _⟩ hy => S.par n (List.of_mem_zip hy).1) (fun h₁ hns hsb => ⟨lim.fresh _ hsb, ?_⟩) S.kind)
  show codeAny _ _ (.expr F.body (envF F.nf f s.heap.objs.size)) _ _
  have kp : ∀ b o, s.heap.get? b = some o → h₁.get? b = some o := fun b o e => hsb.extBut b o (Nat.ne_of_lt (Heap.lt_size e)) (Heap.get?_push_of_some _ e)
  obtain ⟨t, ht, hq⟩ := hbody A outer s H vs Q E (hr.deeper _) hsp
  have C : CellsAt F.nf.cl [] [] s.heap H := ⟨rfl, (fun y c e => nomatch e), (fun x y c e => nomatch e), (fun i y e => by simp at e)⟩
  have I : Inv (ncx CX P w K mg base N F.nf f A outer s H E) [] (startF N vs []) H { s with heap := h₁, toks := s.toks + (ps.zip us).length } := inv_startN S hr.hd e0 hl r C hns kp
  refine PySem.W.kla_codeExpr (wpAny_mono (ht.run [] _ (startF N vs []) H Q I hq) (fun v s' hq => ?_) fun e s' hq => hq)
  obtain ⟨w', H', J', rv, q⟩ := hq
  exact ⟨w', H', J'.os, J'.bare, J'.base, J'.hok, rv, q⟩
end
/-- f(..), f a name that holds a lambda made by mk -/
def tCallLm (mk : Addr → LF) (i : Nat) (sp : Sp) (E : XK) (t : TA) : TE := fun σ H Q => ∃ f c', σ[i]? = some (some (.ref f)) ∧ H f = some (LmO f (mk c')) ∧ t σ H fun vs H1 => H1 f = some (LmO f (mk c')) ∧ H1 (mk c').c = some (CodeO (mk c').c (mk c').qual) ∧ sp vs H1 Q E
section
variable {X : Cx} {CX : CXT} {mk : Addr → LF} {i j k : Nat} {x : Str} {sp : Sp} {E : XK} {t : TA} {e : Expr} {es : List Expr} {p pos : Pos}
theorem lmAt_of {pins : List (Addr × Obj)} {σ : L2.St} {H : Hp} {s : Shared} {f : Addr} {F : LF} (I : Inv X pins σ H s) (e : H f = some (LmO f F)) : PySem.W.FnAt f s.heap := by
  obtain ⟨pm, ctv, ho⟩ := lmO_at I.hok e
  exact ⟨_, _, _, _, ho⟩
theorem pe_callLm (Fn : ∀ f c', LOk X.prog X.w X.K X.mg X.base CX k f (mk c') sp) (hr : Room j X.A) (hk : k ≤ j) (hx : Passes CX X E) (hN : X.N[i]? = some x) (hv : Vis X.env.scope x) (ha : PA X (e :: es) t)
    (hd : (x == ("__debug__" : Str)) = false := by decide) (hcd : (x == ("__classdict__" : Str)) = false := by decide)
    (he : starEach (e :: es) X.env = (false, eval e X.env) :: starEach es X.env := by rfl) (hpl : (backTo pos (starEach es X.env)).any (·.1) = false := by rfl) :
    PE X (.Call (.Name x p) (e :: es) [] pos) (tCallLm mk i sp E t) := by
  refine ⟨fun pins s σ H Q I h => ?_⟩
  obtain ⟨f, c', hs, hf, ht⟩ := h
  refine wpAny_Call_Name_kw (thn ((pe_var (pos := p) hN hv hd hcd).run pins s σ H (fun v H1 => v = .ref f ∧ H1 = H) I ⟨.ref f, hs, rfl, rfl⟩) fun u s1 ⟨v, H1, I1, r1, q1⟩ => ?_)
  obtain ⟨ev, eH⟩ := q1
  subst ev
  rw [eH] at I1
  obtain rfl : u = Value.ref f := r1
  refine PySem.W.callWith_F (first := []) (lmAt_of I1 hf) (thn (ha.run pos pins s1 σ H _ I1 ht) fun us s2 ⟨vs, H2, I2, r, h1, h2, q⟩ => ⟨lmAt_of I2 h1, ?_⟩) he hpl
  show wpAny _ _ (call (.ref f) us) _ _ _
  refine wpAny_call (codeAny_mono ((Fn f c').run X.A X.stack s2 H2 us vs Q E (hr.mono hk) I2.env0 h1 h2 r q) fun r s' hq => ?_)
  cases r with
  | error e => exact hx pins σ H2 s2 e s' I2 hq
  | ok fl =>
    cases fl with
    | ret u => exact I2.after hq
    | next => exact False.elim hq
    | brk => exact False.elim hq
    | cont => exact False.elim hq
end
/-! the maker's code object and its table of code objects, told of K -/
def codC (K : Frag) (p : Str × Option Str) : Addr := match (fdA K p).code with
  | .ref c => c
  | _ => 0
def codT (K : Frag) (p : Str × Option Str) : Addr := match K.lookup (codC K p) with
  | some ⟨_, _, .fields vs, _⟩ => (match (vs[11]? : Option Value) with
    | some (.ref P) => P
    | _ => 0)
  | _ => 0
def codB (K : Frag) (p : Str × Option Str) : Bool := (match (fdA K p).code with
  | .ref _ => true
  | _ => false) && (PySem.W.codeHdIn K (codC K p) (codT K p) && ((K.lookup (codT K p)).isNone && !decide (mainGlobals = codT K p)))
structure CodOk (K : Frag) (p : Str × Option Str) : Prop where
  code : (fdA K p).code = .ref (codC K p)
  hd : PySem.W.codeHdIn K (codC K p) (codT K p) = true
  out : K.lookup (codT K p) = none
  ne : mainGlobals ≠ codT K p
theorem codB_ok {K : Frag} {p : Str × Option Str} (h : codB K p = true) : CodOk K p := by
  unfold codB at h
  simp only [Bool.and_eq_true] at h
  obtain ⟨h1, h2, h3, h4⟩ := h
  refine ⟨?_, h2, Option.isNone_iff_eq_none.mp h3, by simpa using h4⟩
  unfold codC
  cases e : (fdA K p).code <;> rw [e] at h1 <;> first | rfl | cases h1
/-- the rules may make lambdas in the def at p -/
class HasTab (K : Frag) (mg : Str → Option Value) (base : Heap) (p : Str × Option Str) : Prop where
  tb : TabB base mg (codC K p) (codT K p)
/-- FunD.ok, the def's code object told -/
theorem FunD.okC {CX : CXT} {P : Program} {w : World} {K : PySem.W.Frag} {mg : Str → Option Value} {base : Heap} {x qual : Str} {params : Arguments} {body : List Stmt} {scope : Scope} {dvs : List V} {kws : List (Str × V)} {f : Addr} {fd : FuncData} {N ps : List Str} {k : Nat} {sp : Sp} {c : Addr}
    (F : FunD K x qual params body scope dvs kws f fd) (hc : fd.code = .ref c) (S : FnScope N ps scope) (len : ∀ vs H Q E, sp vs H Q E → vs.length = ps.length)
    (hbody : ∀ (cdv : Value) (hcd : cdv = .ref c) (A : Around) (outer : List Env) (s : Shared) (H : Hp) (vs : List V) (Q : VK) (E : XK), Room k (A.deeper (envOfC qual scope s.heap.objs.size f cdv)) → sp vs H Q E →
      ∃ t, PSs (cxOf CX P w K mg base N qual scope f cdv A outer s H E) body t ∧ t { nx := fun _ H' => Q .non H', rt := Q } (start N vs) H) : FnOk P w K mg base CX (k + 1) f fd ps sp := by
  obtain ⟨oc, od, dV, kV, doc, pm, an, cdv, ct, osl, rfl, lk, hcd, _, _⟩ := F.ex
  exact fn_of lk hcd S len fun A outer s H vs Q E hr hsp => hbody cdv hc A outer s H vs Q E hr hsp
/-- the lambda of such a test: if not f(x, lambda ..: ..): .. -/
def lamArg : List Stmt → Expr
  | .If (.UnaryOp _ (.Call _ [_, l] _ _) _) _ _ _ :: r => (match l with
    | .Lambda _ _ _ _ => l
    | _ => lamArg r)
  | _ :: r => lamArg r
  | [] => .Constant .none 0 ⟨0, 0, 0, 0⟩
def lamF (q : Str) (e : Expr) (c : Addr) : LF := match e with
  | .Lambda p b s _ => ⟨q, p, b, s, c⟩
  | _ => ⟨q, ⟨[], [], none, [], [], none, []⟩, e, ⟨.function, [], false, false, []⟩, c⟩
end S
namespace S
open PySem PySem.Spec PyProof.Rows L2
/-! with e as y: an instance of a plain class with its own __enter__ and __exit__; nothing is let out of the body -/
structure CtxO (K : PySem.W.Frag) (C fe fx : Addr) : Prop where
  en : PySem.W.findIn K (.ref C) "__enter__" = some (some (.ref fe))
  enf : PySem.W.isFn K (.ref fe) = true
  ex : PySem.W.findIn K (.ref C) "__exit__" = some (some (.ref fx))
  exf : PySem.W.isFn K (.ref fx) = true
def tWith (C : Addr) (spE spX : Sp) (E : XK) (tc : TE) (g : TG) (tb : TS) : TS := fun D σ H => tc σ H fun x H1 => ∃ a dx fs, x = V.ref a ∧ H1 a = some (.ins C dx fs) ∧ spE [V.ref a] H1 (fun v H2 => g v σ H2 fun σ3 H3 => tb
  { nx := fun σ4 H4 => spX [V.ref a, .non, .non, .non] H4 (fun _ H5 => D.nx σ4 H5) E, rt := fun w H4 => spX [V.ref a, .non, .non, .non] H4 (fun _ H5 => D.rt w H5) E,
    bk := fun σ4 H4 => spX [V.ref a, .non, .non, .non] H4 (fun _ H5 => D.bk σ4 H5) E, ct := fun σ4 H4 => spX [V.ref a, .non, .non, .non] H4 (fun _ H5 => D.ct σ4 H5) E } σ3 H3) E
theorem own_nox {M : Model} {A : Around} {env : Env} : PassesOwn M A env (fun _ _ => False) := fun _ _ h => h.elim
theorem ps_with {X : Cx} {C fe fx : Addr} {k k2 : Nat} {spE spX : Sp} {E : XK} {ctx : Expr} {y : Str} {py pos : Pos} {body : List Stmt} {tc : TE} {g : TG} {tb : TS} (hc : PE X ctx tc) (c : CtxO X.K C fe fx)
    (Fe : FnR X.prog X.w X.K X.mg X.base (L2.CX X.prog X.w) k fe spE) (Fx : FnR X.prog X.w X.K X.mg X.base (L2.CX X.prog X.w) k2 fx spX) (hr : Room k X.A) (hr2 : Room k2 X.A) (hx : ∀ σ, PassesAt (L2.CX X.prog X.w) X σ E) (hg : PG X.nox (.Name y py) g) (hb : PSs X.nox body tb) :
    PS X (.With [⟨ctx, some (.Name y py)⟩] body pos) (tWith C spE spX E tc g tb) := by
  refine ⟨fun pins s σ H D I h => PySem.W.kw_execN (thn (hc.run pins s σ H _ I h) fun u s1 ⟨x, H1, I1, rx, a, dx, fs, ex, ea, q⟩ => ?_)⟩
  subst ex
  obtain rfl : u = Value.ref a := rx
  obtain ⟨ox, od, J, hd⟩ := StX.insC_at (X := X) I1 (.inr ⟨dx, fs, ea⟩)
  have ext : ∀ {s4 : Shared} {σ4 : L2.St} {H4 : Hp} {Q : VK}, Inv X pins σ4 H4 s4 → spX [V.ref a, .non, .non, .non] H4 Q E →
      wpAny (model X.prog X.w) X.A (call (.ref fx) [.ref a, .none, .none, .none]) (fun v s5 => EP X pins σ4 Q v s5) X.xe s4 := fun {s4 σ4 H4 Q} I4 q4 =>
    wpAny_call (run_at0 (E := fun _ => E) (us := [.ref a, .none, .none, .none]) (vs := [.ref a, .non, .non, .non]) Fx hr2 I4 (hx σ4) (.cons rfl (.cons rfl (.cons rfl (.cons rfl .nil)))) q4)
  unfold PySem.W.KwIn
  refine PySem.W.kw_core (C := C) I1.kIn J c.en c.enf c.ex c.exf (thn (wpAny_call (run_at0 (E := fun _ => E) (us := [.ref a]) (vs := [.ref a]) Fe hr I1 (hx σ) (.cons rfl .nil) q)) fun v s2 ⟨xv, H2, I2, rv, q2⟩ => ?_)
  refine wpAny_mono (hg.run pins s2 σ H2 xv v _ (I2.wish _) rv q2) (fun _ s3 ⟨σ3, H3, I3, q3⟩ => ?_) fun _ _ z => z
  refine wpAny_mono (hb.run pins s3 σ3 H3 _ I3 q3) (fun f s4 hf => ?_) fun _ _ z => z
  have hf' := hf.unwish
  cases f with
  | next =>
    obtain ⟨σ4, H4, I4, q4⟩ := hf'
    exact thn (ext I4 q4) fun _ s5 ⟨w5, H5, I5, _, q5⟩ => ⟨σ4, H5, I5, q5⟩
  | brk =>
    obtain ⟨σ4, H4, I4, q4⟩ := hf'
    exact thn (ext I4 q4) fun _ s5 ⟨w5, H5, I5, _, q5⟩ => ⟨σ4, H5, I5, q5⟩
  | cont =>
    obtain ⟨σ4, H4, I4, q4⟩ := hf'
    exact thn (ext I4 q4) fun _ s5 ⟨w5, H5, I5, _, q5⟩ => ⟨σ4, H5, I5, q5⟩
  | ret z =>
    obtain ⟨v4, σ4, H4, I4, r4, q4⟩ := hf'
    exact thn (ext I4 q4) fun _ s5 ⟨w5, H5, I5, _, q5⟩ => ⟨v4, σ4, H5, I5, r4, q5⟩
end S
namespace S
open PySem PySem.Spec PyProof.Rows L2
/-! with e as y whose body may raise: the own __exit__ is called with the exception handled, gives None, and on it goes -/
/-- a promise that holds while an exception is handled, too: the def lets nothing out; p: some object that stands -/
structure FnC (P : Program) (w : World) (K : PySem.W.Frag) (mg : Str → Option Value) (base : Heap) (k : Nat) (f : Addr) (fd : FuncData) (ps : List Str) (sp : Sp) : Prop where
  len : ∀ vs H Q E, sp vs H Q E → vs.length = ps.length
  run : ∀ (A : Around) (outer : List Env) (s : Shared) (H : Hp) (args : Args) (us : List Value) (vs : List V) (Q : VK) (p : Addr × Obj), L2H.RoomH k A → L2H.PinOk outer H s p → Env0 P w K mg base A outer s H → BindsTo s fd args (ps.zip us) → Vals vs us → sp vs H Q E0 →
    codeAny (model P w) A (.call (.ref f) args) (CR (L2.CX P w) outer P w H s Q E0) s
theorem FunD.okHot {P : Program} {w : World} {K : PySem.W.Frag} {mg : Str → Option Value} {base : Heap} {x qual : Str} {params : Arguments} {body : List Stmt} {scope : Scope} {dvs : List V} {kws : List (Str × V)} {f : Addr} {fd : FuncData} {N ps : List Str} {k : Nat} {sp : Sp} (F : L2.FunD K x qual params body scope dvs kws f fd) (S : FnScope N ps scope) (len : ∀ vs H Q E, sp vs H Q E → vs.length = ps.length)
    (hbody : ∀ (cdv : Value) (A : Around) (outer : List Env) (s : Shared) (H : Hp) (vs : List V) (Q : VK) (p : Addr × Obj), L2H.RoomH k (A.deeper (envOfC qual scope s.heap.objs.size f cdv)) → sp vs H Q E0 →
      ∃ t, PSs (L2H.cxH (L2.CX P w) P w K mg base N qual scope f cdv A outer s H E0 p) body t ∧ t { nx := fun _ H' => Q .non H', rt := Q } (L2.start N vs) H) : FnC P w K mg base (k + 1) f fd ps sp := by
  obtain ⟨oc, od, dV, kV, doc, pm, an, cdv, ct, osl, rfl, lk, hcd, _, _⟩ := F.ex
  refine ⟨len, fun A outer s H args us vs Q p hr hpin e0 hb r hsp => ?_⟩
  have hl := len _ _ _ _ hsp
  have up : ∀ {b : Addr} {o : Obj}, base.get? b = some o → s.heap.get? b = some o := fun {b o} e => (e0.bs b o e).1
  refine codeAny_call_function hr.depth ((e0.mod.kin.keeps fun b o e => up e) _ _ lk) rfl S.co S.gen rfl (PySem.W.codeRec_of (e0.mod.kin.keeps fun b o e => up e) hcd) (hb _ _ _ _ ?_)
  refine wpAny_newFunctionEnv_cells S.kind (fun ⟨n, v⟩ hy => ?_) fun env he s1 y => ?_
  · rcases S.par n (List.of_mem_zip hy).1 with q | q
    · exact .inl q
    · exact .inr ⟨q, PySem.W.cellsFrom_some _ _ _ (.inl q)⟩
  subst he
  refine ⟨(e0.mod.nolimit.keeps fun b o e => up e).keeps y.toInCall.keep, codeAny_func ?_⟩
  obtain ⟨t, ht, hq⟩ := hbody cdv A outer s H vs Q p (hr.deeper _) hsp
  refine wpAny_mono (ht.run [] s1 (L2.start N vs) H _ (L2H.inv_startH S hpin e0 hl r y) hq) (fun fl s' hs => ?_) fun e s' hs => hs
  cases fl with
  | ret u =>
    obtain ⟨v, σ', H', J, rv, q⟩ := hs
    exact ⟨v, H', J.os, J.bare, J.base, J.hok, rv, q⟩
  | next =>
    obtain ⟨σ', H', J, q⟩ := hs
    exact ⟨V.non, H', J.os, J.bare, J.base, J.hok, rfl, q⟩
  | brk =>
    obtain ⟨_, _, _, q⟩ := hs
    exact False.elim q
  | cont =>
    obtain ⟨_, _, _, q⟩ := hs
    exact False.elim q
/-- the code of such a call -/
theorem run_codeC {X : Cx} {k : Nat} {f : Addr} {fd : FuncData} {ps : List Str} {sp : Sp} {pins : List (Addr × Obj)} {σ : L2.St} {H : Hp} {s : Shared} {Q : VK} {us : List Value} {vs : List V} (F : FnC X.prog X.w X.K X.mg X.base k f fd ps sp) (hr : L2H.RoomH k X.A) (hc : ∃ p, p ∈ X.pn) (hb : L2.Binds X.K fd ps [])
    (I : Inv X pins σ H s) (r : Vals vs us) (h : sp vs H Q E0) : codeAny (model X.prog X.w) X.A (.call (.ref f) ⟨us, []⟩) (fun r s' => match r with | .ok (.ret v) => EP X pins σ Q v s' | .ok _ => False | .error _ => False) s := by
  obtain ⟨p, hp⟩ := hc
  have hl : us.length = ps.length := by rw [← r.length]; exact F.len _ _ _ _ h
  have b := hb s us I.kIn (by rw [List.append_nil]; exact hl)
  rw [List.append_nil] at b
  have P1 := I.pin p (List.mem_append_left _ hp)
  have hpin : L2H.PinOk X.stack H s p := ⟨P1.1, P1.2.1, fun hm => (List.mem_cons.mp (I.stkSub p.1 hm)).elim P1.2.2.1 P1.2.2.2.1, P1.2.2.2.2⟩
  refine codeAny_mono (F.run X.A X.stack s H ⟨us, []⟩ us vs Q p hr hpin I.env0 b r h) fun r s' hq => ?_
  cases r with
  | error e =>
    obtain ⟨_, _, _, _, _, _, _, z⟩ := hq
    exact False.elim z.2.2.2.2.2
  | ok fl =>
    cases fl with
    | ret u => exact I.after hq
    | next => exact False.elim hq
    | brk => exact False.elim hq
    | cont => exact False.elim hq
section
open PySem.W PySem.Calls
variable {prog : Program} {w : World} {A : Around} {E : Value → Shared → Prop} {s : Shared} {env : Env} {K : Frag} {x C fe fx : Addr} {ox : Obj} {od : Option Obj} {pos : Pos}
/-- what is to be done with an error of the body -/
def WRaised (prog : Program) (w : World) (A : Around) (E : Value → Shared → Prop) (env : Env) (x fx : Addr) (Q : Flow → Shared → Prop) (e : Value) (s : Shared) : Prop :=
  wpAny (model prog w) A (noteFrame e env) (fun _ s2 => wpAny (model prog w) A (setFlight e none) (fun _ s3 => e ≠ byPass ∧ wpAny (model prog w) A (typeOf e) (fun ty s4 => wpAny (model prog w) A (tracebackOf e) (fun tb s5 =>
    codeAny (model prog w) (A.mark (some e)) (.call (.ref fx) ⟨[.ref x, ty, e, tb], []⟩) (fun r s6 => match r with | .ok (.ret v) => v = Value.none ∧ wpAny (model prog w) A (passOn "with" e env) Q E s6 | _ => False) s5) E s4) E s3) E s2) E s
theorem kw_coreE {b : Value → Sem Unit} {bdy : Sem Flow} {Q : Flow → Shared → Prop} (X : K.In s.heap) (I : InstAt s.heap x ox C od) (he : findIn K (.ref C) "__enter__" = some (some (.ref fe))) (hfe : isFn K (.ref fe) = true) (hx : findIn K (.ref C) "__exit__" = some (some (.ref fx))) (hfx : isFn K (.ref fx) = true)
    (h : wpAny (model prog w) A (call (.ref fe) [.ref x]) (fun v s₂ => wpAny (model prog w) A (b v) (fun _ s₃ => wpAny (model prog w) A bdy (fun f s₄ => wpAny (model prog w) A (call (.ref fx) [.ref x, .none, .none, .none]) (fun _ s₅ => Q f s₅) E s₄) (WRaised prog w A E env x fx Q) s₃) (fun _ _ => False) s₂) E s) :
    wpAny (model prog w) A (withItem false pos env (pure (.ref x)) (some b) bdy) Q E s := by
  obtain ⟨cd, hcd, ae⟩ := kw_along he
  obtain ⟨cd', hcd', ax⟩ := kw_along hx
  cases hcd.symm.trans hcd'
  obtain ⟨hh, g, d, tt, os⟩ := s
  have L1 : Looks (model prog w) hh (specialOnItsLine (.ref x) "__enter__") (some (.ref fe), cd.mro) := kw_special X I hcd ae
  have L2 : Looks (model prog w) hh (specialOnItsLine (.ref x) "__exit__") (some (.ref fx), cd.mro) := kw_special X I hcd ax
  have L3 : Looks (model prog w) hh (bindSpecial (.ref fe) (.ref x)) (.ref fe, [.ref x]) := bind_fn X _ (beq_iff_eq.mp hfe)
  have L4 : Looks (model prog w) hh (bindSpecial (.ref fx) (.ref x)) (.ref fx, [.ref x]) := bind_fn X _ (beq_iff_eq.mp hfx)
  have L5 : Looks (model prog w) hh (aMethodOfAnotherBuiltinTypeStops (.ref fe) cd.mro) () := Looks.of_pure rfl
  have L6 : Looks (model prog w) hh (aMethodOfAnotherBuiltinTypeStops (.ref fx) cd.mro) () := Looks.of_pure rfl
  unfold withItem
  refine wpAny_bind (wpAny_pure ?_)
  refine wpAny_bind (wpAny_standAt ?_)
  simp only [Bool.false_eq_true, if_false]
  kw_lk
  refine wpAny_mono h (fun v s₂ h₂ => ?_) fun _ _ z => z
  kw_lk
  refine wpAny_attempt (kw_held ?_)
  show wpAny _ _ (b v >>= fun _ => bdy) _ _ _
  refine wpAny_bind (wpAny_mono h₂ (fun _ s₃ h₃ => wpAny_mono h₃ (fun f s₄ h₄ => ?_) fun e s₄ h₄ => ?_) fun _ _ z => z.elim)
  · kw_lk
    refine wpAny_mono h₄ (fun _ s₅ h₅ => ?_) fun _ _ z => z
    kw_lk
    exact h₅
  · dsimp only
    refine wpAny_bind (wpAny_mono h₄ (fun _ s₅ h₅ => ?_) fun _ _ z => z)
    refine wpAny_bind (wpAny_mono h₅ (fun _ s₆ h₆ => ?_) fun _ _ z => z)
    refine wpAny_bind (wpAny_standAt ?_)
    refine wpAny_holding ?_
    obtain ⟨nb, h₆⟩ := h₆
    refine wpAny_bind (wpAny_mono h₆ (fun ty s₇ h₇ => ?_) fun _ _ z => z)
    refine wpAny_bind (wpAny_mono h₇ (fun tb s₈ h₈ => ?_) fun _ _ z => z)
    refine wpAny_bind ?_
    unfold withItem.marked
    refine wpAny_bind (wpAny_run (codeAny_mono h₈ fun r s₉ h₉ => ?_) (by intro z; injection z with z; exact nb z))
    match r, h₉ with
    | .ok (.ret v), ⟨e1, h10⟩ =>
      subst e1
      refine wpAny_pure ?_
      refine wpAny_bind (wpAny_pure ?_)
      dsimp only
      refine wpAny_bind (wpAny_pure ?_)
      simp only [Bool.false_eq_true, if_false]
      exact h10
end
/-- what is wished of an exception of the body -/
def wWit (spX : Sp) (Wout : WX) (a0 : Addr) : WX := fun cls d σ H => ∃ cv, RelV cv cls ∧ ∀ (e : Addr) (tv : V), H e = none → (tv = V.non ∨ ∃ T, tv = V.ref T ∧ H T = none) → spX [V.ref a0, cv, .ref e, tv] H (fun v H' => v = V.non ∧ Wout cls d σ H') E0
section
variable {X : Cx}
theorem with_exc {pins : List (Addr × Obj)} {D : Ends} {u : Value} {s' : Shared} {a0 fx : Addr} {k : Nat} {fd : FuncData} {ps : List Str} {spX : Sp} {Wout : WX} (hs : X.stack = X.env :: X.outer) (hf : X.env.frame = some X.env.locals) (hex : X.ex = []) (ok : X.Ok) (tk : Takes X Wout)
    (F : FnC X.prog X.w X.K X.mg X.base k fx fd ps spX) (hr : L2H.RoomH k X.A) (hb : L2.Binds X.K fd ps []) (xx : XE (X.tr (X.pn ++ pins) (WRaised X.prog X.w X.A X.xe X.env a0 fx (SP X pins D))) (wWit spX Wout a0) u s') : WRaised X.prog X.w X.A X.xe X.env a0 fx (SP X pins D) u s' := by
  have hfr : X.A.frames = some (X.env :: X.outer) := by rw [ok.frames, hs]
  obtain ⟨a, B, sI, pins', σ', H', cls, d, rfl, J', nb, up, sky, na, os, ag, cv, rcv, hw⟩ := xx
  have J : Inv X pins σ' H' sI := J'.ofTry ok
  have sky' : Sky B (X.env :: X.outer) a (Zc cls d) X.env.locals s'.heap := by rw [← hs]; exact sky
  refine Sky.land Zc.steady hfr hf sky' fun h3 fl3 up3 => ⟨ref_ne_byPass a, ?_⟩
  have J3 : Inv X pins σ' H' { s' with heap := h3 } := J.landed nb fl3.1 (up.trans up3) os ag
  obtain ⟨k1, k2, k3, oe, vs, T, oT, ts, he3, hz, hd, hv1, hnT, hTe, hT, hdT, ht3⟩ := id fl3
  have nT : H' T = none := (J.inGround nb).gone hnT
  have notFr : ∀ (b : Addr) (o : Obj) (fv : Array Value), h3.get? b = some o → o.data = .fields fv → b ∉ frs (X.env :: X.outer) := fun b o fv e dd hm => by
    obtain ⟨_, o', e', hnf⟩ := k3.mem hm
    have eo : o = o' := Option.some.inj (e.symm.trans e')
    rw [← eo] at hnf
    exact hnf _ dd
  have locF : X.env.locals ∈ frs (X.env :: X.outer) := List.mem_filterMap.mpr ⟨X.env, List.mem_cons_self, hf⟩
  have fsF : ∀ b, b ∈ X.fs → b ∈ frs (X.env :: X.outer) := fun b hm => by
    obtain ⟨e, he, q⟩ := List.mem_filterMap.mp hm
    exact List.mem_filterMap.mpr ⟨e, List.mem_cons_of_mem _ he, q⟩
  have fa := notFr a oe vs he3 hd
  have fT := notFr T oT ts hT hdT
  have S3 : Inv (X.suite a ((a, oe) :: (T, oT) :: (X.pn ++ pins))) [] σ' H' { s' with heap := h3 } :=
    ⟨J3.ok.suite _ _, J3.os, J3.bare, J3.base, J3.loc, J3.cell, J3.free, J3.freeC, fun p hp => by
      rw [List.append_nil] at hp
      rcases List.mem_cons.mp hp with z | hp
      · rw [z]
        exact ⟨he3, na, fun z2 => fa (by rw [show a = X.env.locals from z2]; exact locF), fun z2 => fa (fsF _ z2), fun v z2 => by
          have z3 : oe.data = .cell v := z2
          rw [hd] at z3
          cases z3⟩
      · rcases List.mem_cons.mp hp with z | hp
        · rw [z]
          exact ⟨hT, nT, fun z2 => fT (by rw [show T = X.env.locals from z2]; exact locF), fun z2 => fT (fsF _ z2), fun v z2 => by
            have z3 : oT.data = .cell v := z2
            rw [hdT] at z3
            cases z3⟩
        · exact J3.pin p hp, J3.hok, J3.len⟩
  refine wpAny_typeOf_ref he3 ?_
  rw [hz.1]
  obtain ⟨x1, hx1⟩ : ∃ x, ts[1]? = some x := by
    have h4 : 3 < ts.size := (Array.getElem?_eq_some_iff.mp ht3).1
    exact ⟨ts[1]'(by omega), Array.getElem?_eq_getElem (by omega)⟩
  have rest : ∀ (tb : Value) (tv : V), RelV tv tb → (tv = V.non ∨ ∃ T, tv = V.ref T ∧ H' T = none) → codeAny (model X.prog X.w) (X.A.mark (some (.ref a))) (.call (.ref fx) ⟨[.ref a0, cls, .ref a, tb], []⟩) (fun r s6 => match r with | .ok (.ret v) => v = Value.none ∧ wpAny (model X.prog X.w) X.A (PySem.passOn "with" (.ref a) X.env) (SP X pins D) X.xe s6 | _ => False) { s' with heap := h3 } := fun tb tv rtv htv => by
    refine codeAny_mono (run_codeC (X := X.suite a ((a, oe) :: (T, oT) :: (X.pn ++ pins))) F ⟨hr.dp, hr.un⟩ ⟨_, List.mem_cons_self⟩ hb S3 (vs := [.ref a0, cv, .ref a, tv]) (.cons rfl (.cons rcv (.cons rfl (.cons rtv .nil)))) (hw a tv na htv)) fun r s6 z => ?_
    match r, z with
    | .ok (.ret u), ⟨v, H6, S6, ru, ev, q6⟩ =>
      subst ev
      refine ⟨ru, ?_⟩
      have J6 : Inv X pins σ' H6 s6 := ⟨ok, S6.os, S6.bare, S6.base, S6.loc, S6.cell, S6.free, S6.freeC, fun p hp => S6.pin p (List.mem_append_left _ (List.mem_cons_of_mem _ (List.mem_cons_of_mem _ hp))), S6.hok, S6.len⟩
      have pa := S6.pin (a, oe) (List.mem_append_left _ List.mem_cons_self)
      have pT := S6.pin (T, oT) (List.mem_append_left _ (List.mem_cons_of_mem _ List.mem_cons_self))
      have ga : s6.heap.get? a = some oe := pa.1
      have gT : s6.heap.get? T = some oT := pT.1
      have na6 : H6 a = none := pa.2.1
      have nT6 : H6 T = none := pT.2.1
      have far : ∀ b o, sI.heap.get? b = some o → b ≠ a ∧ b ≠ T := fun b o e => by
        by_cases hb : b ∈ frs X.stack
        · rw [hs] at hb
          exact ⟨fun z => fa (by rw [← z]; exact hb), fun z => fT (by rw [← z]; exact hb)⟩
        · have q := nb b o e hb
          exact ⟨fun z => by
            rw [z, k2] at q
            exact (nomatch q), fun z => by
            rw [z, hnT] at q
            cases q⟩
      have far0 : ∀ b o, X.s_0.heap.get? b = some o → b ≠ a ∧ b ≠ T := fun b o e => by
        obtain ⟨o', q⟩ := J.base.there b o e (by rw [hex]; simp)
        exact far b o' q
      have farP : ∀ p ∈ X.pn ++ pins, p.1 ≠ a ∧ p.1 ≠ T := fun p hp => far p.1 p.2 (J.pin p hp).1
      obtain ⟨G, g1, g2⟩ := restrict s6.heap fun b => !(decide (b = a) || decide (b = T))
      have gIn : ∀ b o, G.get? b = some o → s6.heap.get? b = some o ∧ b ≠ a ∧ b ≠ T := fun b o e => by
        cases q : (!(decide (b = a) || decide (b = T))) with
        | false =>
          rw [g2 b q] at e
          cases e
        | true =>
          rw [g1 b q] at e
          simp only [Bool.not_eq_true', Bool.or_eq_false_iff, decide_eq_false_iff_not] at q
          exact ⟨e, q.1, q.2⟩
      have gOf : ∀ b o, b ≠ a → b ≠ T → s6.heap.get? b = some o → G.get? b = some o := fun b o h1 h2 e => by
        rw [g1 b (by simp [h1, h2])]
        exact e
      have I6 : Inv X pins σ' H6 { s6 with heap := G } := J6.less (fun b o e => (gIn b o e).1) gOf ⟨oe, vs, ga, hd⟩ ⟨oT, ts, gT, hdT⟩ na6 nT6 far0 farP
      have B6in : ∀ b o, (PySem.W.hideAll G (frs X.stack)).get? b = some o → s6.heap.get? b = some o := fun b o e => (gIn b o (PySem.W.of_hideAll _ e)).1
      have Bno : ∀ b, (b = a ∨ b = T) → (PySem.W.hideAll G (frs X.stack)).get? b = none := fun b hb => by
        cases q : (PySem.W.hideAll G (frs X.stack)).get? b with
        | none => rfl
        | some o =>
          obtain ⟨_, n1, n2⟩ := gIn b o (PySem.W.of_hideAll _ q)
          rcases hb with z | z
          · exact absurd z n1
          · exact absurd z n2
      have fl6 : HandSPX.FlyingZ (PySem.W.hideAll G (frs X.stack)) (X.env :: X.outer) a (Zc cls d) s6.heap := by
        refine ⟨B6in, Bno a (.inl rfl), ?_, oe, vs, T, oT, ts, ga, hz, hd, hv1, Bno T (.inr rfl), hTe, gT, hdT, ht3⟩
        have ff := funFrames_none (B := PySem.W.hideAll G (frs X.stack)) J6.stack fun b hb => PySem.W.hideAll_none _ hb
        rw [← hs]
        exact ff
      unfold PySem.passOn
      refine wpAny_bind (wpAny_field ga hd hv1 ?_)
      rw [if_neg (show ¬ ((Value.ref T == Value.none) = true) from by simp)]
      have goOn : wpAny (model X.prog X.w) X.A (setFlight (.ref a) X.env.frame) (fun _ s7 => wpAny (model X.prog X.w) X.A (throw (.ref a) : Sem Flow) (SP X pins D) X.xe s7) X.xe s6 := by
        rw [hf]
        refine HandSPX.setFlight_upZ fl6 fun h7 hh7 up7 => wpAny_throw (tk _ _ ?_)
        refine ⟨a, PySem.W.hideAll G (frs X.stack), { s6 with heap := G }, pins, σ', H6, cls, d, rfl, I6, fun b o e hb => PySem.W.hideAll_get _ e hb, ?_, .inr (.inr (by rw [← hs] at hh7; exact hh7)), na6, rfl, J6.bare, q6⟩
        exact Heap.UpToSlots.trans (Heap.UpToSlots.of_keeps fun b o e => (gIn b o e).1) up7
      first
        | exact wpAny_bind (wpAny_pure (wpAny_bind goOn))
        | exact wpAny_bind goOn
  unfold PySem.tracebackOf
  refine wpAny_bind (wpAny_field he3 hd hv1 ?_)
  dsimp only
  refine wpAny_bind (wpAny_field hT hdT hx1 ?_)
  cases hq : (x1 == Value.none) with
  | true =>
    simp only [if_true]
    exact wpAny_pure (rest _ V.non rfl (.inl rfl))
  | false =>
    simp only [Bool.false_eq_true, if_false]
    exact wpAny_pure (rest _ (V.ref T) rfl (.inr ⟨T, rfl, nT⟩))
def tWithE (C : Addr) (spE spX : Sp) (E : XK) (tc : TE) (g : TG) (tb : WX → TS) (Wout : WX) : TS := fun D σ H => tc σ H fun x H1 => ∃ a dx fs, x = V.ref a ∧ H1 a = some (.ins C dx fs) ∧ spE [V.ref a] H1 (fun v H2 => g v σ H2 fun σ3 H3 => tb (wWit spX Wout a)
  { nx := fun σ4 H4 => spX [V.ref a, .non, .non, .non] H4 (fun _ H5 => D.nx σ4 H5) E, rt := fun w H4 => spX [V.ref a, .non, .non, .non] H4 (fun _ H5 => D.rt w H5) E,
    bk := fun σ4 H4 => spX [V.ref a, .non, .non, .non] H4 (fun _ H5 => D.bk σ4 H5) E, ct := fun σ4 H4 => spX [V.ref a, .non, .non, .non] H4 (fun _ H5 => D.ct σ4 H5) E } σ3 H3) E
theorem ps_withE {C fe fx : Addr} {k k2 k3 : Nat} {fd : FuncData} {ps : List Str} {spE spX : Sp} {E : XK} {ctx : Expr} {y : Str} {py pos : Pos} {body : List Stmt} {tc : TE} {g : TG} {tb : WX → TS} {Wout : WX} (hs : X.stack = X.env :: X.outer) (hf : X.env.frame = some X.env.locals) (hex : X.ex = []) (tk : Takes X Wout)
    (hc : PE X ctx tc) (c : CtxO X.K C fe fx)
    (Fe : FnR X.prog X.w X.K X.mg X.base (L2.CX X.prog X.w) k fe spE) (Fx : FnR X.prog X.w X.K X.mg X.base (L2.CX X.prog X.w) k2 fx spX) (Fc : FnC X.prog X.w X.K X.mg X.base k3 fx fd ps spX) (hb3 : L2.Binds X.K fd ps [])
    (hr : Room k X.A) (hr2 : Room k2 X.A) (hr3 : Room k3 X.A) (hx : ∀ σ, PassesAt (L2.CX X.prog X.w) X σ E) (hg : PG X.nox (.Name y py) g)
    (hb : ∀ (W' : WX) (pn : List (Addr × Obj)) (xe : Value → Shared → Prop), Takes (X.tr pn xe) W' → PassesOwn (model X.prog X.w) X.A X.env xe → PSs (X.tr pn xe) body (tb W')) :
    PS X (.With [⟨ctx, some (.Name y py)⟩] body pos) (tWithE C spE spX E tc g tb Wout) := by
  refine ⟨fun pins s σ H D I h => PySem.W.kw_execN (thn (hc.run pins s σ H _ I h) fun u s1 ⟨x, H1, I1, rx, a, dx, fs, ex, ea, q⟩ => ?_)⟩
  subst ex
  obtain rfl : u = Value.ref a := rx
  obtain ⟨ox, od, J, hd⟩ := StX.insC_at (X := X) I1 (.inr ⟨dx, fs, ea⟩)
  have ext : ∀ {s4 : Shared} {σ4 : L2.St} {H4 : Hp} {Q : VK}, Inv X pins σ4 H4 s4 → spX [V.ref a, .non, .non, .non] H4 Q E →
      wpAny (model X.prog X.w) X.A (call (.ref fx) [.ref a, .none, .none, .none]) (fun v s5 => EP X pins σ4 Q v s5) X.xe s4 := fun {s4 σ4 H4 Q} I4 q4 =>
    wpAny_call (run_at0 (E := fun _ => E) (us := [.ref a, .none, .none, .none]) (vs := [.ref a, .non, .non, .non]) Fx hr2 I4 (hx σ4) (.cons rfl (.cons rfl (.cons rfl (.cons rfl .nil)))) q4)
  unfold PySem.W.KwIn
  refine kw_coreE (C := C) I1.kIn J c.en c.enf c.ex c.exf (thn (wpAny_call (run_at0 (E := fun _ => E) (us := [.ref a]) (vs := [.ref a]) Fe hr I1 (hx σ) (.cons rfl .nil) q)) fun v s2 ⟨xv, H2, I2, rv, q2⟩ => ?_)
  refine wpAny_mono (hg.run pins s2 σ H2 xv v _ (I2.wish _) rv q2) (fun _ s3 ⟨σ3, H3, I3, q3⟩ => ?_) fun _ _ z => z
  refine wpAny_mono ((hb (wWit spX Wout a) (X.pn ++ pins) (WRaised X.prog X.w X.A X.xe X.env a fx (SP X pins D)) (fun e s4 xx => with_exc hs hf hex I.ok tk Fc ⟨hr3.dp, hr3.un⟩ hb3 xx) PassesOwn.looking).run [] s3 σ3 H3 _ (I3.unwish.toTry _) q3) (fun f s4 hf' => ?_) fun _ _ z => z
  cases f with
  | next =>
    obtain ⟨σ4, H4, I4, q4⟩ := hf'
    exact thn (ext (I4.ofTry I.ok) q4) fun _ s5 ⟨w5, H5, I5, _, q5⟩ => ⟨σ4, H5, I5, q5⟩
  | brk =>
    obtain ⟨σ4, H4, I4, q4⟩ := hf'
    exact thn (ext (I4.ofTry I.ok) q4) fun _ s5 ⟨w5, H5, I5, _, q5⟩ => ⟨σ4, H5, I5, q5⟩
  | cont =>
    obtain ⟨σ4, H4, I4, q4⟩ := hf'
    exact thn (ext (I4.ofTry I.ok) q4) fun _ s5 ⟨w5, H5, I5, _, q5⟩ => ⟨σ4, H5, I5, q5⟩
  | ret z =>
    obtain ⟨v4, σ4, H4, I4, r4, q4⟩ := hf'
    exact thn (ext (I4.ofTry I.ok) q4) fun _ s5 ⟨w5, H5, I5, _, q5⟩ => ⟨v4, σ4, H5, I5, r4, q5⟩
end
theorem binds_ofH {K : PySem.W.Frag} {fd : FuncData} {ps : List Str} {n : Nat} (hb : KBn K fd ps n [] (fun us _ => us ++ []) (fun vs _ => vs ++ [])) (hn : n = ps.length := by rfl) : L2.Binds K fd ps [] := fun s us k hl => by
  have := hb.to s us [] k (by rw [List.append_nil] at hl; rw [hl, hn]) rfl
  exact this
end S
namespace S
open PySem PySem.Spec PyProof.Rows L2
/-! == and != of an own instance beside None, texts, tuples, lists, dicts and bools: both sides decline -/
section
open PySem.W PySem.Calls AutoSeq1 MeetsSeq
variable {prog : Program} {w : World} {A : Around} {E : Value → Shared → Prop} {s : Shared} {K : Frag} {x C l : Addr} {ox : Obj} {od : Option Obj}
theorem isInst_own {T : String} {Q : Bool → Shared → Prop} (X : K.In s.heap) (I : InstAt s.heap x ox C od) (e : subIn K (.ref C) (.type T) = some false) (q : Q false s) : wpAny (model prog w) A (isInstance (.ref x) (.type T)) Q E s := by
  unfold isInstance
  exact wpAny_bind (I.type.here ((looks_subIn X e).here q))
theorem list_eq_own {items : Array Value} {n : Nat} {dd : Option Addr} {sl : Array (Option Value)} {R : Fin → Shared → Prop} (X : K.In s.heap) (I : InstAt s.heap x ox C od) (e : subIn K (.ref C) (.type "list") = some false)
    (hl : s.heap.get? l = some { cls := .type "list", dict := dd, data := .seq items n, slots := sl }) (q : R (.done (.ret .notImplemented)) s) : wpAny (model prog w) A (Builtin.«list.__eq__» ⟨[.ref l, .ref x], []⟩) R E s := by
  have L : ∀ Q : Bool → Shared → Prop, Q false s → wpAny (model prog w) A (isInstance (.ref x) (.type "list")) Q E s := fun Q q => isInst_own X I e q
  clear X I e
  obtain ⟨hp, g, d, tk, os⟩ := s
  wp_walk using wpAny_loadPart' hl, L
  exact q
theorem list_ne_own {items : Array Value} {n : Nat} {dd : Option Addr} {sl : Array (Option Value)} {R : Fin → Shared → Prop} (X : K.In s.heap) (I : InstAt s.heap x ox C od) (e : subIn K (.ref C) (.type "list") = some false)
    (hl : s.heap.get? l = some { cls := .type "list", dict := dd, data := .seq items n, slots := sl }) (q : R (.done (.ret .notImplemented)) s) : wpAny (model prog w) A (Builtin.«list.__ne__» ⟨[.ref l, .ref x], []⟩) R E s := by
  have L : ∀ Q : Bool → Shared → Prop, Q false s → wpAny (model prog w) A (isInstance (.ref x) (.type "list")) Q E s := fun Q q => isInst_own X I e q
  clear X I e
  obtain ⟨hp, g, d, tk, os⟩ := s
  wp_walk using wpAny_loadPart' hl, L
  exact q
theorem tuple_eq_own {items : Array Value} {n : Nat} {dd : Option Addr} {sl : Array (Option Value)} {R : Fin → Shared → Prop} (X : K.In s.heap) (I : InstAt s.heap x ox C od) (e : subIn K (.ref C) (.type "tuple") = some false)
    (hl : s.heap.get? l = some { cls := .type "tuple", dict := dd, data := .seq items n, slots := sl }) (q : R (.done (.ret .notImplemented)) s) : wpAny (model prog w) A (Builtin.«tuple.__eq__» ⟨[.ref l, .ref x], []⟩) R E s := by
  have L : ∀ Q : Bool → Shared → Prop, Q false s → wpAny (model prog w) A (isInstance (.ref x) (.type "tuple")) Q E s := fun Q q => isInst_own X I e q
  clear X I e
  obtain ⟨hp, g, d, tk, os⟩ := s
  wp_walk using wpAny_loadPart' hl, L
  exact q
theorem tuple_ne_own {items : Array Value} {n : Nat} {dd : Option Addr} {sl : Array (Option Value)} {R : Fin → Shared → Prop} (X : K.In s.heap) (I : InstAt s.heap x ox C od) (e : subIn K (.ref C) (.type "tuple") = some false)
    (hl : s.heap.get? l = some { cls := .type "tuple", dict := dd, data := .seq items n, slots := sl }) (q : R (.done (.ret .notImplemented)) s) : wpAny (model prog w) A (Builtin.«tuple.__ne__» ⟨[.ref l, .ref x], []⟩) R E s := by
  have L : ∀ Q : Bool → Shared → Prop, Q false s → wpAny (model prog w) A (isInstance (.ref x) (.type "tuple")) Q E s := fun Q q => isInst_own X I e q
  clear X I e
  obtain ⟨hp, g, d, tk, os⟩ := s
  wp_walk using wpAny_loadPart' hl, L
  exact q
theorem none_eq_own {R : Fin → Shared → Prop} (q : R (.done (.ret .notImplemented)) s) : wpAny (model prog w) A (Builtin.«NoneType.__eq__» ⟨[.none, .ref x], []⟩) R E s := by
  obtain ⟨hp, g, d, tk, os⟩ := s
  wp_walk
  exact q
theorem str_eq_own {z : Str} {t : Tok} {R : Fin → Shared → Prop} (hx : s.heap.get? x = some ox) (hn : ∀ z t, ox.data ≠ .prim (.str z t)) (q : R (.done (.ret .notImplemented)) s) : wpAny (model prog w) A (Builtin.«str.__eq__» ⟨[.str z t, .ref x], []⟩) R E s := by
  obtain ⟨hp, g, d, tk, os⟩ := s
  wp_walk
  split
  · rename_i z' t' e
    exact absurd e (hn _ _)
  · wp_walk
    exact q
theorem bool_eq_own {b : Bool} {R : Fin → Shared → Prop} (hn : NoInt x s) (q : R (.done (.ret .notImplemented)) s) : wpAny (model prog w) A (Builtin.«int.__eq__» ⟨[.bool b, .ref x], []⟩) R E s := by
  obtain ⟨ox, hx, hn⟩ := hn
  obtain ⟨hp, g, d, tk, os⟩ := s
  wp_walk
  split
  · rename_i z' t' e
    exact absurd e (hn _ _)
  · wp_walk
    exact q
theorem dict_eq_own {o : Obj} {R : Fin → Shared → Prop} (X : K.In s.heap) (I : InstAt s.heap x ox C od) (e : subIn K (.ref C) (.type "dict") = some false)
    (hl : s.heap.get? l = some o) (hc : o.cls = .type "dict") (q : R (.done (.ret .notImplemented)) s) : wpAny (model prog w) A (Builtin.«dict.__eq__» ⟨[.ref l, .ref x], []⟩) R E s := by
  have L : ∀ Q : Bool → Shared → Prop, Q false s → wpAny (model prog w) A (isInstance (.ref x) (.type "dict")) Q E s := fun Q q => isInst_own X I e q
  clear X I e
  obtain ⟨hp, g, d, tk, os⟩ := s
  wp_walk using wpAny_loadPart' hl, L
  exact q
theorem none_ne_own {R : Fin → Shared → Prop} (q : R (.done (.ret .notImplemented)) s) : wpAny (model prog w) A (Builtin.«NoneType.__ne__» ⟨[.none, .ref x], []⟩) R E s := by
  obtain ⟨hp, g, d, tk, os⟩ := s
  wp_walk
  exact q
theorem str_ne_own {z : Str} {t : Tok} {R : Fin → Shared → Prop} (hx : s.heap.get? x = some ox) (hn : ∀ z t, ox.data ≠ .prim (.str z t)) (q : R (.done (.ret .notImplemented)) s) : wpAny (model prog w) A (Builtin.«str.__ne__» ⟨[.str z t, .ref x], []⟩) R E s := by
  obtain ⟨hp, g, d, tk, os⟩ := s
  wp_walk
  split
  · rename_i z' t' e
    exact absurd e (hn _ _)
  · wp_walk
    exact q
theorem bool_ne_own {b : Bool} {R : Fin → Shared → Prop} (hn : NoInt x s) (q : R (.done (.ret .notImplemented)) s) : wpAny (model prog w) A (Builtin.«int.__ne__» ⟨[.bool b, .ref x], []⟩) R E s := by
  obtain ⟨ox, hx, hn⟩ := hn
  obtain ⟨hp, g, d, tk, os⟩ := s
  wp_walk
  split
  · rename_i z' t' e
    exact absurd e (hn _ _)
  · wp_walk
    exact q
theorem dict_ne_own {o : Obj} {R : Fin → Shared → Prop} (X : K.In s.heap) (I : InstAt s.heap x ox C od) (e : subIn K (.ref C) (.type "dict") = some false)
    (hl : s.heap.get? l = some o) (hc : o.cls = .type "dict") (q : R (.done (.ret .notImplemented)) s) : wpAny (model prog w) A (Builtin.«dict.__ne__» ⟨[.ref l, .ref x], []⟩) R E s := by
  have L : ∀ Q : Bool → Shared → Prop, Q false s → wpAny (model prog w) A (isInstance (.ref x) (.type "dict")) Q E s := fun Q q => isInst_own X I e q
  clear X I e
  obtain ⟨hp, g, d, tk, os⟩ := s
  wp_walk using wpAny_loadPart' hl, L
  exact q
/-- a value that declines beside the instance at x, and is another thing -/
structure Dec (prog : Program) (w : World) (K : Frag) (C x : Addr) (s : Shared) (v : Value) : Prop where
  ty : ∃ T, s.TypeIs v T ∧ subIn K (.ref C) (.type T) = some false ∧ subIn K (.type T) (.ref C) = some false
  eq : ∀ (A : Around) (Q : Option Value → Shared → Prop) (E : Value → Shared → Prop), Q none s → wpAny (model prog w) A (tryCompare v "__eq__" (.ref x)) Q E s
  ne : ∀ (A : Around) (Q : Option Value → Shared → Prop) (E : Value → Shared → Prop), Q none s → wpAny (model prog w) A (tryCompare v "__ne__" (.ref x)) Q E s
  sl : ∀ (A : Around) (Q : Bool → Shared → Prop) (E : Value → Shared → Prop), Q false s → wpAny (model prog w) A (isSame v (.ref x)) Q E s
  sr : ∀ (A : Around) (Q : Bool → Shared → Prop) (E : Value → Shared → Prop), Q false s → wpAny (model prog w) A (isSame (.ref x) v) Q E s
theorem dec_mk {v : Value} {T ideq idne : String} (hT : s.TypeIs v T) (a1 : subIn K (.ref C) (.type T) = some false) (a2 : subIn K (.type T) (.ref C) = some false) (h1 : Slot T (cmpInfo .Eq).2.1 ideq) (h2 : Slot T (cmpInfo .NotEq).2.1 idne)
    (c1 : ∀ (A : Around) (Q : Value → Shared → Prop) (E : Value → Shared → Prop), Q .notImplemented s → wpAny (model prog w) A (call (.builtin ideq) [v, .ref x]) Q E s)
    (c2 : ∀ (A : Around) (Q : Value → Shared → Prop) (E : Value → Shared → Prop), Q .notImplemented s → wpAny (model prog w) A (call (.builtin idne) [v, .ref x]) Q E s)
    (sl : ∀ (A : Around) (Q : Bool → Shared → Prop) (E : Value → Shared → Prop), Q false s → wpAny (model prog w) A (isSame v (.ref x)) Q E s)
    (sr : ∀ (A : Around) (Q : Bool → Shared → Prop) (E : Value → Shared → Prop), Q false s → wpAny (model prog w) A (isSame (.ref x) v) Q E s) : Dec prog w K C x s v :=
  ⟨⟨T, hT, a1, a2⟩, fun A Q E q => wpAny_tryCompare_declines hT h1 (c1 A _ E ⟨rfl, q⟩), fun A Q E q => wpAny_tryCompare_declines hT h2 (c2 A _ E ⟨rfl, q⟩), sl, sr⟩
theorem dec_none (a1 : subIn K (.ref C) (.type "NoneType") = some false) : Dec prog w K C x s .none :=
  dec_mk rfl a1 (by first | exact HN.sub_none | rfl) F.slot_NoneType_eq F.slot_NoneType_ne
    (fun A Q E q => call_meets (S := fun _ R s => R (.ok (.ret .notImplemented)) s) F.slot_NoneType_eq rfl F.entry_NoneType_eq (F.args_NoneType_eq_2 _ _) (.of_wp fun prog w A R s h => none_eq_own ⟨_, rfl, h⟩) q)
    (fun A Q E q => call_meets (S := fun _ R s => R (.ok (.ret .notImplemented)) s) F.slot_NoneType_ne rfl F.entry_NoneType_ne (F.args_NoneType_ne_2 _ _) (.of_wp fun prog w A R s h => none_ne_own ⟨_, rfl, h⟩) q)
    (fun A Q E q => wpAny_of_eq (rfl : isSame .none (.ref x) = pure false) q) (fun A Q E q => wpAny_of_eq (rfl : isSame (.ref x) .none = pure false) q)
theorem dec_str {z : Str} {t : Tok} (hx : s.heap.get? x = some ox) (hn : ∀ z t, ox.data ≠ .prim (.str z t)) (a1 : subIn K (.ref C) (.type "str") = some false) (a2 : subIn K (.type "str") (.ref C) = some false) : Dec prog w K C x s (.str z t) :=
  dec_mk (typeIs_str s z t) a1 a2 F.slot_str_eq F.slot_str_ne
    (fun A Q E q => call_meets (S := fun _ R s => s.heap.get? x = some ox ∧ R (.ok (.ret .notImplemented)) s) F.slot_str_eq (typeIs_str s z t) F.entry_str_eq (F.args_str_eq_2 _ _) (.of_wp fun prog w A R s h => str_eq_own h.1 hn ⟨_, rfl, h.2⟩) ⟨hx, q⟩)
    (fun A Q E q => call_meets (S := fun _ R s => s.heap.get? x = some ox ∧ R (.ok (.ret .notImplemented)) s) F.slot_str_ne (typeIs_str s z t) F.entry_str_ne (F.args_str_ne_2 _ _) (.of_wp fun prog w A R s h => str_ne_own h.1 hn ⟨_, rfl, h.2⟩) ⟨hx, q⟩)
    (fun A Q E q => wpAny_of_eq (rfl : isSame (.str z t) (.ref x) = pure false) q) (fun A Q E q => wpAny_of_eq (rfl : isSame (.ref x) (.str z t) = pure false) q)
theorem dec_bool {b : Bool} (hn : NoInt x s) (a1 : subIn K (.ref C) (.type "bool") = some false) (a2 : subIn K (.type "bool") (.ref C) = some false) : Dec prog w K C x s (.bool b) :=
  dec_mk rfl a1 a2 F.slot_bool_eq F.slot_bool_ne
    (fun A Q E q => call_meets (S := fun _ R s => NoInt x s ∧ R (.ok (.ret .notImplemented)) s) F.slot_bool_eq rfl F.entry_int_eq (F.args_int_eq_2 _ _) (.of_wp fun prog w A R s h => bool_eq_own h.1 ⟨_, rfl, h.2⟩) ⟨hn, q⟩)
    (fun A Q E q => call_meets (S := fun _ R s => NoInt x s ∧ R (.ok (.ret .notImplemented)) s) F.slot_bool_ne rfl F.entry_int_ne (F.args_int_ne_2 _ _) (.of_wp fun prog w A R s h => bool_ne_own h.1 ⟨_, rfl, h.2⟩) ⟨hn, q⟩)
    (fun A Q E q => wpAny_of_eq (rfl : isSame (.bool b) (.ref x) = pure false) q) (fun A Q E q => wpAny_of_eq (rfl : isSame (.ref x) (.bool b) = pure false) q)
theorem dec_list {items : Array Value} {n : Nat} {dd : Option Addr} {sl : Array (Option Value)} (X : K.In s.heap) (I : InstAt s.heap x ox C od) (hl : s.heap.get? l = some { cls := .type "list", dict := dd, data := .seq items n, slots := sl }) (a1 : subIn K (.ref C) (.type "list") = some false) (a2 : subIn K (.type "list") (.ref C) = some false) : Dec prog w K C x s (.ref l) :=
  have hne : l ≠ x := fun e => by
    rw [e, I.at_] at hl
    injection hl with hl
    have := I.cls
    rw [hl] at this
    cases this
  have nt : ox.cls ≠ .type "tuple" := fun e => by rw [I.cls] at e; cases e
  dec_mk ⟨_, hl, rfl⟩ a1 a2 F.slot_list_eq F.slot_list_ne
    (fun A Q E q => call_meets (S := fun _ R s => (K.In s.heap ∧ InstAt s.heap x ox C od ∧ s.heap.get? l = some { cls := .type "list", dict := dd, data := .seq items n, slots := sl }) ∧ R (.ok (.ret .notImplemented)) s) F.slot_list_eq ⟨_, hl, rfl⟩ F.entry_list_eq (F.args_list_eq_2 _ _) (.of_wp fun prog w A R s h => list_eq_own h.1.1 h.1.2.1 a1 h.1.2.2 ⟨_, rfl, h.2⟩) ⟨⟨X, I, hl⟩, q⟩)
    (fun A Q E q => call_meets (S := fun _ R s => (K.In s.heap ∧ InstAt s.heap x ox C od ∧ s.heap.get? l = some { cls := .type "list", dict := dd, data := .seq items n, slots := sl }) ∧ R (.ok (.ret .notImplemented)) s) F.slot_list_ne ⟨_, hl, rfl⟩ F.entry_list_ne (F.args_list_ne_2 _ _) (.of_wp fun prog w A R s h => list_ne_own h.1.1 h.1.2.1 a1 h.1.2.2 ⟨_, rfl, h.2⟩) ⟨⟨X, I, hl⟩, q⟩)
    (fun A Q E q => SeqAt.wpAny_isSame_ref_other' hne hl I.at_ nt q) (fun A Q E q => wpAny_isSame_ref_other hne.symm I.at_ hl nt q)
theorem dec_tuple {items : Array Value} {n : Nat} {dd : Option Addr} {sl : Array (Option Value)} (X : K.In s.heap) (I : InstAt s.heap x ox C od) (hl : s.heap.get? l = some { cls := .type "tuple", dict := dd, data := .seq items n, slots := sl }) (a1 : subIn K (.ref C) (.type "tuple") = some false) (a2 : subIn K (.type "tuple") (.ref C) = some false) : Dec prog w K C x s (.ref l) :=
  have hne : l ≠ x := fun e => by
    rw [e, I.at_] at hl
    injection hl with hl
    have := I.cls
    rw [hl] at this
    cases this
  have nt : ox.cls ≠ .type "tuple" := fun e => by rw [I.cls] at e; cases e
  dec_mk ⟨_, hl, rfl⟩ a1 a2 F.slot_tuple_eq F.slot_tuple_ne
    (fun A Q E q => call_meets (S := fun _ R s => (K.In s.heap ∧ InstAt s.heap x ox C od ∧ s.heap.get? l = some { cls := .type "tuple", dict := dd, data := .seq items n, slots := sl }) ∧ R (.ok (.ret .notImplemented)) s) F.slot_tuple_eq ⟨_, hl, rfl⟩ F.entry_tuple_eq (F.args_tuple_eq_2 _ _) (.of_wp fun prog w A R s h => tuple_eq_own h.1.1 h.1.2.1 a1 h.1.2.2 ⟨_, rfl, h.2⟩) ⟨⟨X, I, hl⟩, q⟩)
    (fun A Q E q => call_meets (S := fun _ R s => (K.In s.heap ∧ InstAt s.heap x ox C od ∧ s.heap.get? l = some { cls := .type "tuple", dict := dd, data := .seq items n, slots := sl }) ∧ R (.ok (.ret .notImplemented)) s) F.slot_tuple_ne ⟨_, hl, rfl⟩ F.entry_tuple_ne (F.args_tuple_ne_2 _ _) (.of_wp fun prog w A R s h => tuple_ne_own h.1.1 h.1.2.1 a1 h.1.2.2 ⟨_, rfl, h.2⟩) ⟨⟨X, I, hl⟩, q⟩)
    (fun A Q E q => SeqAt.wpAny_isSame_ref_other' hne hl I.at_ nt q) (fun A Q E q => wpAny_isSame_ref_other hne.symm I.at_ hl nt q)
theorem dec_dict {o : Obj} (X : K.In s.heap) (I : InstAt s.heap x ox C od) (hl : s.heap.get? l = some o) (hc : o.cls = .type "dict") (a1 : subIn K (.ref C) (.type "dict") = some false) (a2 : subIn K (.type "dict") (.ref C) = some false) : Dec prog w K C x s (.ref l) :=
  have hne : l ≠ x := fun e => by
    rw [e, I.at_] at hl
    injection hl with hl
    have := I.cls
    rw [hl, hc] at this
    cases this
  have nt : ox.cls ≠ .type "tuple" := fun e => by rw [I.cls] at e; cases e
  dec_mk ⟨_, hl, hc⟩ a1 a2 F.slot_dict_eq F.slot_dict_ne
    (fun A Q E q => call_meets (S := fun _ R s => (K.In s.heap ∧ InstAt s.heap x ox C od ∧ s.heap.get? l = some o) ∧ R (.ok (.ret .notImplemented)) s) F.slot_dict_eq ⟨_, hl, hc⟩ F.entry_dict_eq (F.args_dict_eq_2 _ _) (.of_wp fun prog w A R s h => dict_eq_own h.1.1 h.1.2.1 a1 h.1.2.2 hc ⟨_, rfl, h.2⟩) ⟨⟨X, I, hl⟩, q⟩)
    (fun A Q E q => call_meets (S := fun _ R s => (K.In s.heap ∧ InstAt s.heap x ox C od ∧ s.heap.get? l = some o) ∧ R (.ok (.ret .notImplemented)) s) F.slot_dict_ne ⟨_, hl, hc⟩ F.entry_dict_ne (F.args_dict_ne_2 _ _) (.of_wp fun prog w A R s h => dict_ne_own h.1.1 h.1.2.1 a1 h.1.2.2 hc ⟨_, rfl, h.2⟩) ⟨⟨X, I, hl⟩, q⟩)
    (fun A Q E q => SeqAt.wpAny_isSame_ref_other' hne hl I.at_ nt q) (fun A Q E q => wpAny_isSame_ref_other hne.symm I.at_ hl nt q)
/-- share == v: the own __eq__ answers NotImplemented, v declines -/
theorem rcN_left {v : Value} {f : Addr} {Q : Value → Shared → Prop} (hu : A.units < cLine) (X : K.In s.heap) (I : InstAt s.heap x ox C od) (D0 : Dec prog w K C x s v) (hs : findIn K (.ref C) "__eq__" = some (some (.ref f))) (hf : isFn K (.ref f) = true)
    (h : wpAny (model prog w) A (call (.ref f) [.ref x, v]) (fun r s' => r = .notImplemented ∧ Dec prog w K C x s' v ∧ Q (.bool false) s') E s) : wpAny (model prog w) A (richCompare .Eq (.ref x) v) Q E s := by
  obtain ⟨T, hT, a1, a2⟩ := D0.ty
  unfold richCompare
  simp only [oneThing_ref]
  refine wpAny_holding (wpAny_bind (wpAny_cRoomFor hu ?_))
  have hci : cmpInfo CmpOp.Eq = ("==", (("__eq__" : String) : Str), (("__eq__" : String) : Str)) := rfl
  rw [hci]
  dsimp only
  refine wpAny_bind (I.type.here (wpAny_bind (wpAny_typeOf hT ?_)))
  have hne : (Value.ref C != Value.type T) = true := rfl
  simp only [hne, if_true]
  refine wpAny_bind ((looks_subIn X a2).here ?_)
  simp only [Bool.false_eq_true, if_false]
  refine wpAny_bind ?_
  unfold tryCompare
  refine wpAny_bind (ifBound_K X I hs hf (wpAny_mono h (fun r s' hr => ?_) fun _ _ e => e))
  obtain ⟨rfl, D1, q⟩ := hr
  dsimp only
  refine wpAny_pure ?_
  simp only [Bool.not_false, if_true]
  refine wpAny_bind (D1.eq _ _ _ ?_)
  exact wpAny_bind (wpAny_rule (wpAny_bind (D1.sr _ _ _ (wpAny_pure q))))
theorem rcN_right {v : Value} {f : Addr} {Q : Value → Shared → Prop} (hu : A.units < cLine) (X : K.In s.heap) (I : InstAt s.heap x ox C od) (D0 : Dec prog w K C x s v) (hs : findIn K (.ref C) "__eq__" = some (some (.ref f))) (hf : isFn K (.ref f) = true)
    (h : wpAny (model prog w) A (call (.ref f) [.ref x, v]) (fun r s' => r = .notImplemented ∧ Dec prog w K C x s' v ∧ Q (.bool false) s') E s) : wpAny (model prog w) A (richCompare .Eq v (.ref x)) Q E s := by
  obtain ⟨T, hT, a1, a2⟩ := D0.ty
  unfold richCompare
  simp only [hT.oneThing_none]
  refine wpAny_holding (wpAny_bind (wpAny_cRoomFor hu ?_))
  have hci : cmpInfo CmpOp.Eq = ("==", (("__eq__" : String) : Str), (("__eq__" : String) : Str)) := rfl
  rw [hci]
  dsimp only
  refine wpAny_bind (wpAny_typeOf hT (wpAny_bind (I.type.here ?_)))
  have hne : (Value.type T != Value.ref C) = true := rfl
  simp only [hne, if_true]
  refine wpAny_bind ((looks_subIn X a1).here ?_)
  simp only [Bool.false_eq_true, if_false]
  refine wpAny_bind (D0.eq _ _ _ ?_)
  simp only [Bool.not_false, if_true]
  refine wpAny_bind ?_
  unfold tryCompare
  refine wpAny_bind (ifBound_K X I hs hf (wpAny_mono h (fun r s' hr => ?_) fun _ _ e => e))
  obtain ⟨rfl, D1, q⟩ := hr
  dsimp only
  refine wpAny_pure ?_
  exact wpAny_bind (wpAny_rule (wpAny_bind (D1.sl _ _ _ (wpAny_pure q))))
/-- share != v -/
theorem rcN_ne {v : Value} {f : Addr} {Q : Value → Shared → Prop} (hu : A.units + 1 < cLine) (X : K.In s.heap) (I : InstAt s.heap x ox C od) (D0 : Dec prog w K C x s v) (hne0 : findIn K (.ref C) "__ne__" = some (some (.builtin "object.__ne__"))) (hm : mroIn K C (.type "object") = some true) (hs : findIn K (.ref C) "__eq__" = some (some (.ref f))) (hf : isFn K (.ref f) = true)
    (h : wpAny (model prog w) A.in1 (call (.ref f) [.ref x, v]) (fun r s' => r = .notImplemented ∧ Dec prog w K C x s' v ∧ Q (.bool true) s') E s) : wpAny (model prog w) A (richCompare .NotEq (.ref x) v) Q E s := by
  obtain ⟨T, hT, a1, a2⟩ := D0.ty
  have one : wpAny (model prog w) A (tryCompare (.ref x) "__ne__" v) (fun r s' => r = none ∧ Dec prog w K C x s' v ∧ Q (.bool true) s') E s := by
    unfold tryCompare
    refine wpAny_bind (NtL.csib (I.type.andThen (looks_findIn X hne0)) (F.cmp_object.ne.bind _) ?_)
    refine wpAny_call (codeAny_call_builtin F.cmp_object.ne.plain F.cmpEntry_ne (check_slot F.cmpKind_ne F.cmpSplit_ne (I.type.andThen (looks_mroIn X hm)) (F.cmpArgs_ne _ _) ?_))
    unfold Builtin.«object.__ne__»
    refine wpAny_bind (wpAny_of_eq (a := ((Value.ref x : Value), [v])) (by first | rfl | (simp only [slotArgs]; rfl)) ?_)
    dsimp only
    refine wpAny_bind (wpAny_cRoomFor hu ?_)
    refine wpAny_bind (ifBound_K X I hs hf (wpAny_mono h (fun r s' hr => ?_) fun _ _ e => e))
    obtain ⟨rfl, D1, q⟩ := hr
    dsimp only
    first
      | exact wpAny_pure (wpAny_pure ⟨rfl, D1, q⟩)
      | exact wpAny_pure ⟨rfl, D1, q⟩
  unfold richCompare
  simp only [oneThing_ref]
  refine wpAny_holding (wpAny_bind (wpAny_cRoomFor (Nat.lt_of_succ_lt hu) ?_))
  rw [cmpInfo_NotEq]
  dsimp only
  refine wpAny_bind (I.type.here (wpAny_bind (wpAny_typeOf hT ?_)))
  have hne : (Value.ref C != Value.type T) = true := rfl
  simp only [hne, if_true]
  refine wpAny_bind ((looks_subIn X a2).here ?_)
  simp only [Bool.false_eq_true, if_false]
  refine wpAny_bind (wpAny_mono one (fun r s' z => ?_) fun _ _ e => e)
  obtain ⟨rfl, D1, q⟩ := z
  simp only [Bool.not_false, if_true]
  refine wpAny_bind (D1.ne _ _ _ ?_)
  exact wpAny_bind (wpAny_rule (wpAny_bind (D1.sr _ _ _ (wpAny_pure q))))
end
end S
namespace S
open PySem PySem.Spec PyProof.Rows L2
/-! a def that answers NotImplemented: its first statement is `if ..: return NotImplemented` -/
structure FnN (P : Program) (w : World) (K : PySem.W.Frag) (mg : Str → Option Value) (base : Heap) (k : Nat) (f : Addr) (fd : FuncData) (ps : List Str) (cond : List V → Hp → Prop) : Prop where
  len : ∀ vs H, cond vs H → vs.length = ps.length
  run : ∀ (A : Around) (outer : List Env) (s : Shared) (H : Hp) (args : Args) (us : List Value) (vs : List V), Room k A → Env0 P w K mg base A outer s H → BindsTo s fd args (ps.zip us) → Vals vs us → cond vs H →
    codeAny (model P w) A (.call (.ref f) args) (fun r s' => r = .ok (.ret .notImplemented) ∧ CE outer P w H s (fun _ H' => H' = H) .none s') s
theorem boot_NI : bootBuiltins "NotImplemented" = some .notImplemented := by decide +kernel
theorem FunD.okN {P : Program} {w : World} {K : PySem.W.Frag} {mg : Str → Option Value} {base : Heap} {x qual : Str} {params : Arguments} {body : List Stmt} {scope : Scope} {dvs : List V} {kws : List (Str × V)} {f : Addr} {fd : FuncData} {N ps : List Str} {k : Nat} {cond : List V → Hp → Prop} {c : Expr} {p1 p2 p3 : Pos} {rest : List Stmt}
    (F : L2.FunD K x qual params body scope dvs kws f fd) (S : FnScope N ps scope) (hB : body = Stmt.If c [.Return (some (.Name "NotImplemented" p1)) p2] [] p3 :: rest) (hN : mg "NotImplemented" = none) (len : ∀ vs H, cond vs H → vs.length = ps.length)
    (hbody : ∀ (cdv : Value) (A : Around) (outer : List Env) (s : Shared) (H : Hp) (vs : List V), Room k (A.deeper (envOfC qual scope s.heap.objs.size f cdv)) → cond vs H →
      Gl (cxOf (L2.CX P w) P w K mg base N qual scope f cdv A outer s H E0) "NotImplemented" ∧ ∃ tc, PT (cxOf (L2.CX P w) P w K mg base N qual scope f cdv A outer s H E0) c tc ∧ tc (L2.start N vs) H (fun b H' => b = true ∧ H' = H)) : FnN P w K mg base (k + 1) f fd ps cond := by
  subst hB
  obtain ⟨oc, od, dV, kV, doc, pm, an, cdv, ct, osl, rfl, lk, hcd, _, _⟩ := F.ex
  refine ⟨len, fun A outer s H args us vs hr e0 hb r hc => ?_⟩
  have hl := len _ _ hc
  have KX : K.In s.heap := e0.mod.kin.keeps fun b o e => (e0.bs b o e).1
  have lim : s.heap.NoLimit := e0.mod.nolimit.keeps fun b o e => (e0.bs b o e).1
  have hkind : ∀ y ∈ ps.zip us, scope.names.lookup y.1 = some .local ∨ (scope.names.lookup y.1 = some .cell ∧ ((cellsFrom (s.heap.objs.size + 1) scope.names []).lookup y.1).isSome = true) := fun ⟨n, v⟩ hy => by
    rcases S.par n (List.of_mem_zip hy).1 with q | q
    · exact .inl q
    · exact .inr ⟨q, PySem.W.cellsFrom_some _ _ _ (.inl q)⟩
  refine codeAny_call_function hr.depth (KX _ _ lk) rfl S.co S.gen rfl (PySem.W.codeRec_of KX hcd) (hb _ _ _ _ ?_)
  refine wpAny_newFunctionEnv_cells S.kind hkind fun env he s1 x => ?_
  subst he
  refine ⟨lim.keeps x.toInCall.keep, codeAny_func ?_⟩
  obtain ⟨gl, tc, ht, hq⟩ := hbody cdv A outer s H vs (hr.deeper _) hc
  have I : Inv (cxOf (L2.CX P w) P w K mg base N qual scope f cdv A outer s H E0) [] (L2.start N vs) H s1 := inv_start S hr.hd e0 hl r x
  refine wpAny_mono (wpAny_execs_cons (wpAny_If (thn (ht.run [] s1 (L2.start N vs) H _ I hq) fun d s2 ⟨H1, I1, q1⟩ => ?_))) (fun _ _ h => h) fun e s' hs => wpAny_mono hs (fun _ s2 z => ?_) fun e2 s2 z => ?_
  rotate_left
  · obtain ⟨_, _, _, _, _, _, _, z⟩ := z
    exact False.elim z.2.2.2.2.2
  · obtain ⟨_, _, _, _, _, _, _, z⟩ := z
    exact False.elim z.2.2.2.2.2
  obtain ⟨rfl, rfl⟩ := q1
  simp only [if_true]
  refine wpAny_execs_cons (wpAny_Return_some (ld_blt I1 gl hN boot_NI ?_))
  exact ⟨rfl, .non, _, I1.os, I1.bare, I1.base, I1.hok, rfl, rfl⟩
theorem run_atN {X : Cx} {A : Around} {k : Nat} {f : Addr} {fd : FuncData} {ps : List Str} {cond : List V → Hp → Prop} {pins : List (Addr × Obj)} {σ : L2.St} {H : Hp} {s : Shared} {us : List Value} {vs : List V} {E : Value → Shared → Prop} (F : FnN X.prog X.w X.K X.mg X.base k f fd ps cond) (hr : Room k A) (e0 : Env0 X.prog X.w X.K X.mg X.base A X.stack s H) (hb : L2.Binds X.K fd ps [])
    (I : Inv X pins σ H s) (r : Vals vs us) (h : cond vs H) : wpAny (model X.prog X.w) A (call (.ref f) us) (fun u s' => u = .notImplemented ∧ Inv X pins σ H s') E s := by
  have hl : us.length = ps.length := by rw [← r.length]; exact F.len _ _ h
  have b := hb s us I.kIn (by rw [List.append_nil]; exact hl)
  rw [List.append_nil] at b
  refine wpAny_call (codeAny_mono (F.run A X.stack s H ⟨us, []⟩ us vs hr e0 b r h) fun r s' hq => ?_)
  obtain ⟨rfl, ce⟩ := hq
  obtain ⟨v, H', I', _, rfl⟩ := I.after ce
  exact ⟨rfl, I'⟩
/-! the values that decline -/
inductive OddV (H : Hp) : V → Prop
  | non : OddV H .non
  | str (z : Str) : OddV H (.str z)
  | bl (b : Bool) : OddV H (.bl b)
  | lst {l : Addr} {xs : List V} (h : H l = some (.lst xs)) : OddV H (.ref l)
  | tup {l : Addr} {xs : List V} (h : H l = some (.tup xs)) : OddV H (.ref l)
  | dK {l : Addr} {xs : List (Key × V)} (h : H l = some (.dK xs)) : OddV H (.ref l)
structure Six (K : PySem.W.Frag) (C : Addr) : Prop where
  non : PySem.W.subIn K (.ref C) (.type "NoneType") = some false
  str : PySem.W.subIn K (.ref C) (.type "str") = some false
  bl : PySem.W.subIn K (.ref C) (.type "bool") = some false
  lst : PySem.W.subIn K (.ref C) (.type "list") = some false
  tup : PySem.W.subIn K (.ref C) (.type "tuple") = some false
  dK : PySem.W.subIn K (.ref C) (.type "dict") = some false
def sixB (K : PySem.W.Frag) (C : Addr) : Bool := PySem.W.subIn K (.ref C) (.type "NoneType") == some false && (PySem.W.subIn K (.ref C) (.type "str") == some false && (PySem.W.subIn K (.ref C) (.type "bool") == some false && (PySem.W.subIn K (.ref C) (.type "list") == some false && (PySem.W.subIn K (.ref C) (.type "tuple") == some false && PySem.W.subIn K (.ref C) (.type "dict") == some false))))
theorem sixB_ok {K : PySem.W.Frag} {C : Addr} (h : sixB K C = true) : Six K C := by
  simp only [sixB, Bool.and_eq_true, beq_iff_eq] at h
  exact ⟨h.1, h.2.1, h.2.2.1, h.2.2.2.1, h.2.2.2.2.1, h.2.2.2.2.2⟩
section
variable {K : PySem.W.Frag} {C : Addr}
theorem sub_str : PySem.W.subIn K (.type "str") (.ref C) = some false := by
  have e : fastBuiltinMro "str" = some [.type "str", .type "object"] := by decide +kernel
  show (fastBuiltinMro "str").map (·.contains (.ref C)) = some false
  rw [e]
  first | rfl | simp
theorem sub_bool : PySem.W.subIn K (.type "bool") (.ref C) = some false := by
  have e : fastBuiltinMro "bool" = some [.type "bool", .type "int", .type "object"] := by decide +kernel
  show (fastBuiltinMro "bool").map (·.contains (.ref C)) = some false
  rw [e]
  first | rfl | simp
theorem sub_list : PySem.W.subIn K (.type "list") (.ref C) = some false := by
  have e : fastBuiltinMro "list" = some [.type "list", .type "object"] := by decide +kernel
  show (fastBuiltinMro "list").map (·.contains (.ref C)) = some false
  rw [e]
  first | rfl | simp
theorem sub_tuple : PySem.W.subIn K (.type "tuple") (.ref C) = some false := by
  have e : fastBuiltinMro "tuple" = some [.type "tuple", .type "object"] := by decide +kernel
  show (fastBuiltinMro "tuple").map (·.contains (.ref C)) = some false
  rw [e]
  first | rfl | simp
theorem sub_dict : PySem.W.subIn K (.type "dict") (.ref C) = some false := by
  have e : fastBuiltinMro "dict" = some [.type "dict", .type "object"] := by decide +kernel
  show (fastBuiltinMro "dict").map (·.contains (.ref C)) = some false
  rw [e]
  first | rfl | simp
end
theorem dec_of {X : Cx} {pins : List (Addr × Obj)} {σ : L2.St} {H : Hp} {s : Shared} {C a dx : Addr} {vs : List (Option V)} {y : V} {v : Value} (I : Inv X pins σ H s) (hx : SlX.Slt H a C dx vs) (c : Six X.K C) (o : OddV H y) (r : RelV y v) : Dec X.prog X.w X.K C a s v := by
  obtain ⟨sl, od, _, J, _⟩ := SlX.slt_inst I hx
  cases o with
  | non =>
    obtain rfl : v = Value.none := r
    exact dec_none c.non
  | str z =>
    obtain ⟨t, rfl⟩ := (show ∃ t, v = Value.str z t from r)
    exact dec_str J.at_ (fun _ _ => by intro z; cases z) c.str sub_str
  | bl b =>
    obtain rfl : v = Value.bool b := r
    exact dec_bool ⟨_, J.at_, fun _ _ => by intro z; cases z⟩ c.bl sub_bool
  | @lst l xs h =>
    obtain rfl : v = Value.ref l := r
    obtain ⟨_, its, n, _, _, e⟩ := I.lstM h
    exact dec_list I.kIn J e c.lst sub_list
  | @tup l xs h =>
    obtain rfl : v = Value.ref l := r
    obtain ⟨its, _, p, _⟩ := I.tuple (.inl (.inl h))
    obtain ⟨⟨cls, dd, data, sl⟩, e, hc, n, hd⟩ := p
    simp only at hc hd
    subst hc hd
    exact dec_tuple I.kIn J e c.tup sub_tuple
  | @dK l xs h =>
    obtain rfl : v = Value.ref l := r
    obtain ⟨_, _, vs, _, dd⟩ := I.hok l _ h
    obtain ⟨o, ho, hc⟩ := (show s.TypeIs (.ref l) "dict" from dd.typeIs)
    exact dec_dict I.kIn J ho hc c.dK sub_dict
/-- == of an own instance with slots beside a value that declines -/
def rEqN (C : Addr) (cond : List V → Hp → Prop) : R2 := fun x y H Q => ∃ a dx vs v, SlX.Slt H a C dx vs ∧ OddV H v ∧ cond [.ref a, v] H ∧ ((x = .ref a ∧ y = v) ∨ (x = v ∧ y = .ref a)) ∧ Q (.bl false) H
theorem op_eqN {X : Cx} {k : Nat} {C g : Addr} {fd : FuncData} {ps : List Str} {cond : List V → Hp → Prop} (hs : PySem.W.findIn X.K (.ref C) "__eq__" = some (some (.ref g))) (hf : PySem.W.isFn X.K (.ref g) = true) (c : Six X.K C) (F : FnN X.prog X.w X.K X.mg X.base k g fd ps cond) (hb : L2.Binds X.K fd ps []) (hr : Room k X.A) : OpR X (compareOp .Eq) (rEqN C cond) := by
  intro pins s σ H x y v u Q I rx ry h
  obtain ⟨a, dx, vs, z, hx, o, hc, e, q⟩ := h
  obtain ⟨sl, od, _, J, _⟩ := SlX.slt_inst I hx
  rcases e with ⟨rfl, rfl⟩ | ⟨rfl, rfl⟩
  · obtain rfl : v = Value.ref a := rx
    show wpAny _ _ (richCompare .Eq (.ref a) u) _ _ _
    refine rcN_left hr.units0 I.kIn J (dec_of I hx c o ry) hs hf (wpAny_mono (run_atN (us := [.ref a, u]) (vs := [.ref a, y]) F hr I.env0 hb I (.cons rfl (.cons ry .nil)) hc) (fun r s' ⟨e, I'⟩ => ⟨e, dec_of I' hx c o ry, .bl false, H, I', rfl, q⟩) fun _ _ z => z)
  · obtain rfl : u = Value.ref a := ry
    show wpAny _ _ (richCompare .Eq v (.ref a)) _ _ _
    refine rcN_right hr.units0 I.kIn J (dec_of I hx c o rx) hs hf (wpAny_mono (run_atN (us := [.ref a, v]) (vs := [.ref a, x]) F hr I.env0 hb I (.cons rfl (.cons rx .nil)) hc) (fun r s' ⟨e, I'⟩ => ⟨e, dec_of I' hx c o rx, .bl false, H, I', rfl, q⟩) fun _ _ z => z)
/-- != of an own instance with slots and a value that declines -/
def rNeN (C : Addr) (cond : List V → Hp → Prop) : R2 := fun x y H Q => ∃ a dx vs, x = .ref a ∧ SlX.Slt H a C dx vs ∧ OddV H y ∧ cond [.ref a, y] H ∧ Q (.bl true) H
theorem op_neN {X : Cx} {k : Nat} {C g : Addr} {fd : FuncData} {ps : List Str} {cond : List V → Hp → Prop} (hne : PySem.W.findIn X.K (.ref C) "__ne__" = some (some (.builtin "object.__ne__"))) (hm : PySem.W.mroIn X.K C (.type "object") = some true) (hs : PySem.W.findIn X.K (.ref C) "__eq__" = some (some (.ref g))) (hf : PySem.W.isFn X.K (.ref g) = true) (c : Six X.K C) (F : FnN X.prog X.w X.K X.mg X.base k g fd ps cond) (hb : L2.Binds X.K fd ps []) (hr : Room (k + 1) X.A) : OpR X (compareOp .NotEq) (rNeN C cond) := by
  intro pins s σ H x y v u Q I rx ry h
  obtain ⟨a, dx, vs, rfl, hx, o, hc, q⟩ := h
  obtain ⟨sl, od, _, J, _⟩ := SlX.slt_inst I hx
  obtain rfl : v = Value.ref a := rx
  show wpAny _ _ (richCompare .NotEq (.ref a) u) _ _ _
  refine rcN_ne (hu_of hr) I.kIn J (dec_of I hx c o ry) hne hm hs hf (wpAny_mono (run_atN (us := [.ref a, u]) (vs := [.ref a, y]) F hr.in1 I.env0.in1 hb I (.cons rfl (.cons ry .nil)) hc) (fun r s' ⟨e, I'⟩ => ⟨e, dec_of I' hx c o ry, .bl true, H, I', rfl, q⟩) fun _ _ z => z)
/-! the other comparisons, an int on either side -/
theorem ic_eq : IntCmp .Eq "int.__eq__" Builtin.«int.__eq__» := ⟨PySem.F.slot_int_eq, PySem.F.entry_int_eq, PySem.F.args_int_eq_2, fun _ _ _ _ _ _ _ _ h q => decl_bin h q, fun _ _ => rfl⟩
theorem ic_le : IntCmp .LtE "int.__le__" Builtin.«int.__le__» := ⟨PySem.F.slot_int_le, PySem.F.entry_int_le, PySem.F.args_int_le_2, fun _ _ _ _ _ _ _ _ h q => decl_bin h q, fun _ _ => rfl⟩
theorem ic_ge : IntCmp .GtE "int.__ge__" Builtin.«int.__ge__» := ⟨PySem.F.slot_int_ge, PySem.F.entry_int_ge, PySem.F.args_int_ge_2, fun _ _ _ _ _ _ _ _ h q => decl_bin h q, fun _ _ => rfl⟩
theorem ic_ne : IntCmp .NotEq "int.__ne__" Builtin.«int.__ne__» := ⟨PySem.F.slot_int_ne, PySem.F.entry_int_ne, PySem.F.args_int_ne_2, fun _ _ _ _ _ _ _ _ h q => decl_bin h q, fun _ _ => rfl⟩
section
open PySem.W PySem.Calls
variable {prog : Program} {w : World} {A : Around} {E : Value → Shared → Prop} {s : Shared} {K : Frag} {x C f : Addr} {ox : Obj} {od : Option Obj}
/-- int != share: int declines, the share's own == turned round -/
theorem ne_refl {i : Int} {t : Tok} {Q : Value → Shared → Prop} (hu : A.units + 1 < cLine) (X : K.In s.heap) (I : InstAt s.heap x ox C od) (hno : NoInt x s) (hne : findIn K (.ref C) "__ne__" = some (some (.builtin "object.__ne__"))) (hm : mroIn K C (.type "object") = some true)
    (hs : findIn K (.ref C) "__eq__" = some (some (.ref f))) (hf : isFn K (.ref f) = true) (hsub : subIn K (.ref C) (.type "int") = some false)
    (h : wpAny (model prog w) A.in1 (call (.ref f) [.ref x, .int i t]) (fun v s' => ∃ r, v = .bool r ∧ Q (.bool (!r)) s') E s) : wpAny (model prog w) A (richCompare .NotEq (.int i t) (.ref x)) Q E s := by
  have ha := typeIs_int s i t
  have one : wpAny (model prog w) A (tryCompare (.ref x) "__ne__" (.int i t)) (fun r s' => ∃ v, r = some v ∧ Q v s') E s := by
    unfold tryCompare
    refine wpAny_bind (NtL.csib (I.type.andThen (looks_findIn X hne)) (F.cmp_object.ne.bind _) ?_)
    refine wpAny_call (codeAny_call_builtin F.cmp_object.ne.plain F.cmpEntry_ne (check_slot F.cmpKind_ne F.cmpSplit_ne (I.type.andThen (looks_mroIn X hm)) (F.cmpArgs_ne _ _) ?_))
    refine objNe_K (A := A.in1) hu X I hs hf (wpAny_mono h (fun v s' hv => ?_) fun _ _ e => e)
    obtain ⟨r, rfl, q⟩ := hv
    exact ⟨r, rfl, wpAny_pure ⟨_, rfl, q⟩⟩
  unfold richCompare
  simp only [ha.oneThing_none]
  refine wpAny_holding (wpAny_bind (wpAny_cRoomFor (Nat.lt_of_succ_lt hu) ?_))
  refine wpAny_bind (wpAny_typeOf ha (wpAny_bind (I.type.here ?_)))
  have hne' : (Value.type "int" != Value.ref C) = true := rfl
  simp only [hne', if_true]
  refine wpAny_bind ((looks_subIn X hsub).here ?_)
  simp only [Bool.false_eq_true, if_false]
  refine wpAny_bind (wpAny_tryCompare_declines ha ic_ne.sl (call_givesAt (Q := fun v s1 => v = .notImplemented ∧ _) ic_ne.sl ha ic_ne.en (ic_ne.ar _ _) (ic_ne.de i t x) hno ⟨rfl, ?_⟩))
  simp only [Bool.not_false, if_true]
  refine wpAny_bind (wpAny_mono one (fun r s' z => ?_) fun _ _ e => e)
  obtain ⟨v, rfl, q⟩ := z
  exact wpAny_pure q
end
/-- != by the own ==: two instances, or one beside an int -/
def rNeB (K : PySem.W.Frag) (C : Addr) (sp : Sp) : R2 := fun x y H Q => rNeL C sp x y H Q ∨ (∃ a dx vs i, x = .ref a ∧ y = .int i ∧ SlX.Slt H a C dx vs ∧ PySem.W.notFirst K C (.type "int") = true ∧ sp [x, y] H (fun z H2 => ∃ r, z = .bl r ∧ Q (.bl (!r)) H2) E0) ∨ ∃ a dx vs i, x = .int i ∧ y = .ref a ∧ SlX.Slt H a C dx vs ∧ sp [y, x] H (fun z H2 => ∃ r, z = .bl r ∧ Q (.bl (!r)) H2) E0
theorem op_neB {X : Cx} {n : Nat} {C g : Addr} {sp : Sp} (hne : PySem.W.findIn X.K (.ref C) "__ne__" = some (some (.builtin "object.__ne__"))) (hm : PySem.W.mroIn X.K C (.type "object") = some true)
    (hs : PySem.W.findIn X.K (.ref C) "__eq__" = some (some (.ref g))) (hf : PySem.W.isFn X.K (.ref g) = true) (hsub : PySem.W.subIn X.K (.ref C) (.type "int") = some false)
    (F : FnR X.prog X.w X.K X.mg X.base (L2.CX X.prog X.w) n g sp) (hr : Room (n + 1) X.A) : OpR X (compareOp .NotEq) (rNeB X.K C sp) := by
  intro pins s σ H x y v u Q I rx ry h
  rcases h with h | ⟨a, dx, vs, i, rfl, rfl, hx, hn, q⟩ | ⟨a, dx, vs, i, rfl, rfl, hx, q⟩
  · exact op_neL hne hm hs hf F hr pins s σ H x y v u Q I rx ry h
  · obtain rfl : v = Value.ref a := rx
    obtain ⟨t, rfl⟩ := (show ∃ t, u = Value.int i t from ry)
    obtain ⟨sl, od, _, J, _⟩ := SlX.slt_inst I hx
    show wpAny _ _ (richCompare .NotEq (.ref a) (.int i t)) _ _ _
    refine ne_K (tb := .type "int") (hu_of hr) I.kIn J (PySem.W.Looks.of_pure rfl) hn hne hm hs hf ?_
    refine wpAny_mono (wpAny_call (SlX.run_at (us := [.ref a, .int i t]) (ws := [.ref a, .int i]) F hr.in1 I.env0.in1 passL I (.cons rfl (.cons ⟨t, rfl⟩ .nil)) q)) (fun w s' z => ?_) fun _ _ x => x
    obtain ⟨z2, H2, I2, rz, r, rfl, qz⟩ := z
    cases (show w = Value.bool r from rz)
    exact ⟨r, rfl, .bl (!r), H2, I2, rfl, qz⟩
  · obtain rfl : u = Value.ref a := ry
    obtain ⟨t, rfl⟩ := (show ∃ t, v = Value.int i t from rx)
    obtain ⟨sl, od, _, J, _⟩ := SlX.slt_inst I hx
    show wpAny _ _ (richCompare .NotEq (.int i t) (.ref a)) _ _ _
    refine ne_refl (hu_of hr) I.kIn J ⟨_, J.at_, fun _ _ => by intro z; cases z⟩ hne hm hs hf hsub ?_
    refine wpAny_mono (wpAny_call (SlX.run_at (us := [.ref a, .int i t]) (ws := [.ref a, .int i]) F hr.in1 I.env0.in1 passL I (.cons rfl (.cons ⟨t, rfl⟩ .nil)) q)) (fun w s' z => ?_) fun _ _ x => x
    obtain ⟨z2, H2, I2, rz, r, rfl, qz⟩ := z
    cases (show w = Value.bool r from rz)
    exact ⟨r, rfl, .bl (!r), H2, I2, rfl, qz⟩
end S
namespace S
open PySem PySem.Spec PyProof.Rows L2
/-! x in a list whose items compare by own defs, or decline -/
section
open PySem.SeqAt MeetsSeq MeetsSeq2 MeetsSeq3 SeqRoads2 GQ
open AutoSeq1 (wpAny_loadPart')
variable {prog : Program} {w : World} {A : Around} {R : Result → Shared → Prop}
def ContB (prog : Program) (w : World) (A : Around) (R : Result → Shared → Prop) (l : Addr) (xv : Value) (N : Nat) (I : Nat → Shared → Prop) : Prop :=
  ∀ i s, I i s → ∃ (items : Array Value) (n : Nat), s.heap.get? l = some { cls := .type "list", data := .seq items n } ∧ items.size = N ∧
    ∀ (h : i < items.size), wpAny (model prog w) A.in1 (eqBool items[i] xv) (fun b s' => (b = true ∧ R (.ok (.ret (.bool true))) s') ∨ (b = false ∧ I (i + 1) s')) (fun e s' => R (.error e) s') s
theorem contains_loopG (l : Addr) (xv : Value) (N : Nat) (I : Nat → Shared → Prop) (hl : ContB prog w A R l xv N I) (fin : ∀ s, I N s → R (.ok (.ret (.bool false))) s) (k : Nat) :
    ∀ i : Nat, N - i = k → i ≤ N → ∀ s, I i s → wpAny (model prog w) A.in1 (Builtin.«list.__contains__.loop» ⟨[.ref l, xv, rawInt i], []⟩) (FinOf prog w A R) (fun e s' => R (.error e) s') s := by
  induction k with
  | zero =>
    intro i hk hi s h
    obtain ⟨items, n, hl1, hs1, _⟩ := hl _ _ h
    have hi' : i = N := by omega
    have hR : R (.ok (.ret (.bool false))) s := fin s (hi' ▸ h)
    obtain ⟨hp, g, d, tk, os⟩ := s
    wp_walk using wpAny_loadPart' hl1
    have hi1 : items[((i : Nat) : Int).toNat]? = none := by simp; omega
    rw [hi1]
    wp_walk
    exact hR
  | succ k ih =>
    intro i hk hi s h
    obtain ⟨items, n, hl1, hs1, turn⟩ := hl _ _ h
    have hlt : i < items.size := by omega
    have ht := turn hlt
    obtain ⟨hp, g, d, tk, os⟩ := s
    wp_walk using wpAny_loadPart' hl1
    have hi1 : items[((i : Nat) : Int).toNat]? = some items[i] := by simp [hlt]
    rw [hi1]
    refine wpAny_bind (wpAny_mono ht (fun b s' hb => ?_) fun _ _ x => x)
    rcases hb with ⟨rfl, q⟩ | ⟨rfl, q⟩
    · wp_walk
      exact q
    · have hc : ((i : Int) + 1) = ((i + 1 : Nat) : Int) := by push_cast; rfl
      wp_walk
      rw [hc]
      exact ⟨plainId_quiet plain_contains_loop _, codeAny_builtin entry_contains_loop (by
        rw [Around.under_plainId plain_contains_loop _]
        exact ih (i + 1) (by omega) (by omega) _ q)⟩
theorem list_containsG (l : Addr) (xv : Value) (N : Nat) (I : Nat → Shared → Prop) (hl : ContB prog w A R l xv N I) (fin : ∀ s, I N s → R (.ok (.ret (.bool false))) s) {s : Shared} (h : I 0 s) :
    wpAny (model prog w) A.in1 (Builtin.«list.__contains__» ⟨[.ref l, xv], []⟩) (FinOf prog w A R) (fun e s' => R (.error e) s') s := by
  have rec_ := contains_loopG l xv N I hl fin N 0 (by omega) (by omega) s h
  obtain ⟨hp, g, d, tk, os⟩ := s
  wp_walk
  exact ⟨plainId_quiet plain_contains_loop _, codeAny_builtin entry_contains_loop (by
    rw [Around.under_plainId plain_contains_loop _]
    exact rec_)⟩
theorem in_listG {E : Value → Shared → Prop} {s : Shared} {l : Addr} {xv : Value} {N : Nat} {Q : Value → Shared → Prop} (I : Nat → Shared → Prop) (hl : ContB prog w A (wants (fun v s' => ∃ b, v = .bool b ∧ Q (.bool b) s') E) l xv N I) (fin : ∀ s, I N s → Q (.bool false) s) (h : I 0 s) : wpAny (model prog w) A (compareOp .In xv (.ref l)) Q E s := by
  obtain ⟨items, n, hl1, _, _⟩ := hl _ _ h
  show wpAny _ A (do return .bool (← contains (.ref l) xv)) Q E s
  refine wpAny_bind (wpAny_contains_slot ⟨_, hl1, rfl⟩ F.slot_list_contains (wpAny_mono (call_here F.slot_list_contains ⟨_, hl1, rfl⟩ F.entry_list_contains (F.args_list_contains_2 _ _) (list_containsG l xv N I hl (fun s' q => ⟨_, rfl, fin s' q⟩) h)) (fun v s' hv => ?_) fun _ _ e => e))
  obtain ⟨b, rfl, hq⟩ := hv
  exact wpAny_truthy_bool (wpAny_pure hq)
theorem eqBool_any {E : Value → Shared → Prop} {s : Shared} {v : Value} {x : Addr} {Q : Bool → Shared → Prop} (hv : v = .none ∨ (∃ z t, v = .str z t) ∨ (∃ b, v = .bool b) ∨ ∃ l, v = .ref l ∧ l ≠ x) (h : wpAny (model prog w) A (richCompare .Eq v (.ref x)) (fun v s' => ∃ r, v = .bool r ∧ Q r s') E s) : wpAny (model prog w) A (eqBool v (.ref x)) Q E s := by
  unfold eqBool
  refine wpAny_holding ?_
  rcases hv with rfl | ⟨z, t, rfl⟩ | ⟨b, rfl⟩ | ⟨l, rfl, hne⟩
  all_goals
    refine wpAny_ite_split (fun hab => ?_) (fun _ => ?_)
    · have := eq_of_beq hab
      first
        | (injection this with this; exact absurd this hne)
        | cases this
    · refine wpAny_bind (wpAny_mono h (fun v s' hv => ?_) fun _ _ x => x)
      obtain ⟨r, rfl, q⟩ := hv
      exact wpAny_truthy_bool q
end
def rInB (C : Addr) (sp : Sp) (cond : List V → Hp → Prop) : R2 := fun x y H Q => ∃ (a dx : Addr) (vs : List (Option V)) (L : Addr) (xs : List V) (bs : List Bool), x = .ref a ∧ SlX.Slt H a C dx vs ∧ y = .ref L ∧ H L = some (.lst xs) ∧ xs.length = bs.length ∧
  (∀ (i : Nat) (z : V) (b : Bool), xs[i]? = some z → bs[i]? = some b → (∃ c dy ws, z = .ref c ∧ c ≠ a ∧ SlX.Slt H c C dy ws ∧ sp [z, x] H (fun r H' => r = .bl b ∧ H' = H) E0) ∨ (OddV H z ∧ cond [x, z] H ∧ b = false)) ∧ Q (.bl (bs.any id)) H
theorem op_inB {X : Cx} {n k : Nat} {C g : Addr} {fd : FuncData} {ps : List Str} {sp : Sp} {cond : List V → Hp → Prop} (hs : PySem.W.findIn X.K (.ref C) "__eq__" = some (some (.ref g))) (hf : PySem.W.isFn X.K (.ref g) = true) (c : Six X.K C) (G : FnR X.prog X.w X.K X.mg X.base (L2.CX X.prog X.w) n g sp) (F : FnN X.prog X.w X.K X.mg X.base k g fd ps cond) (hb : L2.Binds X.K fd ps []) (hr : Room (n + 2) X.A) (hr2 : Room (k + 2) X.A) : OpR X (compareOp .In) (rInB C sp cond) := by
  intro pins s σ H x y v u Q I rx ry h
  obtain ⟨a, dx, vs, L, xs, bs, rfl, hx, rfl, hL, lb, hi, q⟩ := h
  obtain rfl : v = Value.ref a := rx
  obtain rfl : u = Value.ref L := ry
  refine in_listG (N := xs.length) (fun i s' => Inv X pins σ H s' ∧ (bs.take i).any id = false) (fun i s' hI => ?_) (fun s' hI => ?_) ⟨I, rfl⟩
  · obtain ⟨I', hn⟩ := hI
    obtain ⟨_, its, m, r, lx, e⟩ := I'.lstM hL
    refine ⟨its.toArray, m, e, by rw [List.size_toArray, ← lx], fun hlt => ?_⟩
    have hlt' : i < its.length := by simpa using hlt
    have hlx : i < xs.length := by omega
    obtain ⟨u', hu', ru⟩ := r.get (List.getElem?_eq_getElem hlx)
    have g1 : its[i]? = some its.toArray[i] := by rw [List.getElem?_eq_getElem hlt'] <;> simp
    rw [g1] at hu'
    rw [Option.some.inj hu']
    have hbi := List.getElem?_eq_getElem (show i < bs.length by omega)
    have tk : bs.take (i + 1) = bs.take i ++ [bs[i]] := by rw [List.take_add_one, hbi]; rfl
    have nxt : ∀ b s2, b = bs[i] → Inv X pins σ H s2 → (b = true ∧ ∃ b', Value.bool true = .bool b' ∧ EP X pins σ Q (.bool b') s2) ∨ (b = false ∧ Inv X pins σ H s2 ∧ (bs.take (i + 1)).any id = false) := fun b s2 hb I2 => by
      cases hbb : bs[i] with
      | true =>
        refine .inl ⟨by rw [hb, hbb], true, rfl, .bl true, H, I2, rfl, ?_⟩
        have : bs.any id = true := List.any_eq_true.mpr ⟨true, by rw [← hbb]; exact List.getElem_mem _, rfl⟩
        rw [this] at q
        exact q
      | false =>
        refine .inr ⟨by rw [hb, hbb], I2, ?_⟩
        rw [tk, List.any_append, hn, hbb]
        rfl
    rcases hi i _ _ (List.getElem?_eq_getElem hlx) hbi with ⟨c0, dy, ws, ez, hne, hz, hsp⟩ | ⟨od, hcn, eb⟩
    · rw [ez] at ru hsp
      obtain rfl : u' = Value.ref c0 := ru
      obtain ⟨sl, od, _, J, _⟩ := SlX.slt_inst I' hz
      obtain ⟨sl2, od2, _, J2, _⟩ := SlX.slt_inst I' hx
      refine eqBool_any (.inr (.inr (.inr ⟨c0, rfl, hne⟩))) ?_
      obtain ⟨mm, hF⟩ := I'.fr
      refine PySem.W.cmp_K (op := .Eq) (tb := .ref C) hr.in1.units0 hF I'.ok.mod.kin J J2.type (by simp [PySem.W.notFirst]) hs hf ?_
      refine wpAny_mono (wpAny_call (SlX.run_at (us := [.ref c0, .ref a]) (ws := [.ref c0, .ref a]) G (hr.in1.mono (Nat.le_succ n)) I'.env0.in1 passL I' (.cons rfl (.cons rfl .nil)) hsp)) (fun w' s2 z => ?_) fun _ _ x => x
      obtain ⟨z2, H2, I2, rz, rfl, rfl⟩ := z
      cases (show w' = Value.bool bs[i] from rz)
      exact ⟨_, rfl, nxt _ _ rfl I2⟩
    · obtain ⟨sl2, od2, _, J2, _⟩ := SlX.slt_inst I' hx
      have hv : u' = .none ∨ (∃ z t, u' = .str z t) ∨ (∃ b, u' = .bool b) ∨ ∃ l, u' = .ref l ∧ l ≠ a := by
        have D := dec_of I' hx c od ru
        obtain ⟨T0, hT, _, _⟩ := D.ty
        generalize xs[i] = zz at od ru
        cases od with
        | non => exact .inl ru
        | str z => obtain ⟨t, rfl⟩ := (show ∃ t, u' = Value.str z t from ru); exact .inr (.inl ⟨_, _, rfl⟩)
        | bl b => exact .inr (.inr (.inl ⟨_, ru⟩))
        | @lst l xs h =>
          obtain rfl : u' = Value.ref l := ru
          refine .inr (.inr (.inr ⟨l, rfl, fun e => ?_⟩))
          subst e
          obtain ⟨o, ho, hc⟩ := (show ∃ o, s'.heap.get? l = some o ∧ o.cls = .type T0 from hT)
          rw [J2.at_] at ho
          injection ho with ho
          have := J2.cls
          rw [ho, hc] at this
          cases this
        | @tup l xs h =>
          obtain rfl : u' = Value.ref l := ru
          refine .inr (.inr (.inr ⟨l, rfl, fun e => ?_⟩))
          subst e
          obtain ⟨o, ho, hc⟩ := (show ∃ o, s'.heap.get? l = some o ∧ o.cls = .type T0 from hT)
          rw [J2.at_] at ho
          injection ho with ho
          have := J2.cls
          rw [ho, hc] at this
          cases this
        | @dK l xs h =>
          obtain rfl : u' = Value.ref l := ru
          refine .inr (.inr (.inr ⟨l, rfl, fun e => ?_⟩))
          subst e
          obtain ⟨o, ho, hc⟩ := (show ∃ o, s'.heap.get? l = some o ∧ o.cls = .type T0 from hT)
          rw [J2.at_] at ho
          injection ho with ho
          have := J2.cls
          rw [ho, hc] at this
          cases this
      refine eqBool_any hv ?_
      refine rcN_right hr2.in1.units0 I'.kIn J2 (dec_of I' hx c od ru) hs hf (wpAny_mono (run_atN (us := [.ref a, u']) (vs := [.ref a, xs[i]]) F (hr2.in1.mono (Nat.le_succ k)) I'.env0.in1 hb I' (.cons rfl (.cons ru .nil)) hcn) (fun r s2 ⟨e, I2⟩ => ⟨e, dec_of I2 hx c od ru, ?_⟩) fun _ _ z => z)
      exact ⟨false, rfl, nxt false s2 (by rw [← eb]) I2⟩
  · obtain ⟨I', hn⟩ := hI
    refine ⟨.bl false, H, I', rfl, ?_⟩
    rw [List.take_of_length_le (by omega)] at hn
    rw [hn] at q
    exact q
end S
namespace W
open PySem PySem.Spec PyProof.Rows L2
def top (i : Nat) : Stmt := PySem.Challenge.pw_seenshares_k03_share_order.main.body.getD i (.Pass ⟨0, 0, 0, 0⟩)
abbrev s_is_integer : Stmt := top 2
theorem sc_is_integer : FnScope ["value"] ["value"] (defScope s_is_integer) := by
  refine ⟨rfl, rfl, rfl, ?_, rfl, ?_, ?_⟩ <;> decide +kernel
abbrev d_is_integer : He.DefD := ⟨("is_integer", none), "is_integer", "is_integer", defArgs s_is_integer, defBody s_is_integer, defScope s_is_integer, [], []⟩
abbrev s_BadShare___init__ : Stmt := inClass (top 5) 0
theorem sc_BadShare___init__ : FnScope ["self", "part"] ["self", "part"] (defScope s_BadShare___init__) := by
  refine ⟨rfl, rfl, rfl, ?_, rfl, ?_, ?_⟩ <;> decide +kernel
abbrev d_BadShare___init__ : He.DefD := ⟨("BadShare", some "__init__"), "__init__", "BadShare.__init__", defArgs s_BadShare___init__, defBody s_BadShare___init__, defScope s_BadShare___init__, [], []⟩
abbrev s_common_divisor : Stmt := top 8
theorem sc_common_divisor : FnScope ["first", "second"] ["first", "second"] (defScope s_common_divisor) := by
  refine ⟨rfl, rfl, rfl, ?_, rfl, ?_, ?_⟩ <;> decide +kernel
abbrev d_common_divisor : He.DefD := ⟨("common_divisor", none), "common_divisor", "common_divisor", defArgs s_common_divisor, defBody s_common_divisor, defScope s_common_divisor, [], []⟩
abbrev s_is_number : Stmt := top 9
theorem sc_is_number : FnScope ["value"] ["value"] (defScope s_is_number) := by
  refine ⟨rfl, rfl, rfl, ?_, rfl, ?_, ?_⟩ <;> decide +kernel
abbrev d_is_number : He.DefD := ⟨("is_number", none), "is_number", "is_number", defArgs s_is_number, defBody s_is_number, defScope s_is_number, [], []⟩
abbrev s_top_of : Stmt := top 10
theorem sc_top_of : FnScope ["value"] ["value"] (defScope s_top_of) := by
  refine ⟨rfl, rfl, rfl, ?_, rfl, ?_, ?_⟩ <;> decide +kernel
abbrev d_top_of : He.DefD := ⟨("top_of", none), "top_of", "top_of", defArgs s_top_of, defBody s_top_of, defScope s_top_of, [], []⟩
abbrev s_bottom_of : Stmt := top 11
theorem sc_bottom_of : FnScope ["value"] ["value"] (defScope s_bottom_of) := by
  refine ⟨rfl, rfl, rfl, ?_, rfl, ?_, ?_⟩ <;> decide +kernel
abbrev d_bottom_of : He.DefD := ⟨("bottom_of", none), "bottom_of", "bottom_of", defArgs s_bottom_of, defBody s_bottom_of, defScope s_bottom_of, [], []⟩
abbrev s_Share___init__ : Stmt := inClass (top 12) 1
theorem sc_Share___init__ : FnScope ["self", "top", "bottom", "shared"] ["self", "top", "bottom"] (defScope s_Share___init__) := by
  refine ⟨rfl, rfl, rfl, ?_, rfl, ?_, ?_⟩ <;> decide +kernel
abbrev d_Share___init__ : He.DefD := ⟨("Share", some "__init__"), "__init__", "Share.__init__", defArgs s_Share___init__, defBody s_Share___init__, defScope s_Share___init__, [.int 1], []⟩
abbrev s_Share___eq__ : Stmt := inClass (top 12) 14
theorem sc_Share___eq__ : FnScope ["self", "other"] ["self", "other"] (defScope s_Share___eq__) := by
  refine ⟨rfl, rfl, rfl, ?_, rfl, ?_, ?_⟩ <;> decide +kernel
abbrev d_Share___eq__ : He.DefD := ⟨("Share", some "__eq__"), "__eq__", "Share.__eq__", defArgs s_Share___eq__, defBody s_Share___eq__, defScope s_Share___eq__, [], []⟩
abbrev s_Share___lt__ : Stmt := inClass (top 12) 15
theorem sc_Share___lt__ : FnScope ["self", "other"] ["self", "other"] (defScope s_Share___lt__) := by
  refine ⟨rfl, rfl, rfl, ?_, rfl, ?_, ?_⟩ <;> decide +kernel
abbrev d_Share___lt__ : He.DefD := ⟨("Share", some "__lt__"), "__lt__", "Share.__lt__", defArgs s_Share___lt__, defBody s_Share___lt__, defScope s_Share___lt__, [], []⟩
abbrev s_Share___le__ : Stmt := inClass (top 12) 16
theorem sc_Share___le__ : FnScope ["self", "other"] ["self", "other"] (defScope s_Share___le__) := by
  refine ⟨rfl, rfl, rfl, ?_, rfl, ?_, ?_⟩ <;> decide +kernel
abbrev d_Share___le__ : He.DefD := ⟨("Share", some "__le__"), "__le__", "Share.__le__", defArgs s_Share___le__, defBody s_Share___le__, defScope s_Share___le__, [], []⟩
abbrev s_Share___gt__ : Stmt := inClass (top 12) 17
theorem sc_Share___gt__ : FnScope ["self", "other"] ["self", "other"] (defScope s_Share___gt__) := by
  refine ⟨rfl, rfl, rfl, ?_, rfl, ?_, ?_⟩ <;> decide +kernel
abbrev d_Share___gt__ : He.DefD := ⟨("Share", some "__gt__"), "__gt__", "Share.__gt__", defArgs s_Share___gt__, defBody s_Share___gt__, defScope s_Share___gt__, [], []⟩
abbrev s_Share___ge__ : Stmt := inClass (top 12) 18
theorem sc_Share___ge__ : FnScope ["self", "other"] ["self", "other"] (defScope s_Share___ge__) := by
  refine ⟨rfl, rfl, rfl, ?_, rfl, ?_, ?_⟩ <;> decide +kernel
abbrev d_Share___ge__ : He.DefD := ⟨("Share", some "__ge__"), "__ge__", "Share.__ge__", defArgs s_Share___ge__, defBody s_Share___ge__, defScope s_Share___ge__, [], []⟩
abbrev s__law_cell : Stmt := top 14
theorem sc__law_cell : FnScope ["_law_script", "_law_k", "_law_cell_here", "_law_number", "_law_total", "_law_step"] ["_law_script", "_law_k"] (defScope s__law_cell) := by
  refine ⟨rfl, rfl, rfl, ?_, rfl, ?_, ?_⟩ <;> decide +kernel
abbrev d__law_cell : He.DefD := ⟨("_law_cell", none), "_law_cell", "_law_cell", defArgs s__law_cell, defBody s__law_cell, defScope s__law_cell, [], []⟩
abbrev s__law_take : Stmt := top 15
theorem sc__law_take : FnScope ["_law_draw", "_law_size", "_law_taken"] ["_law_draw", "_law_size"] (defScope s__law_take) := by
  refine ⟨rfl, rfl, rfl, ?_, rfl, ?_, ?_⟩ <;> decide +kernel
abbrev d__law_take : He.DefD := ⟨("_law_take", none), "_law_take", "_law_take", defArgs s__law_take, defBody s__law_take, defScope s__law_take, [], []⟩
abbrev s__law_compared : Stmt := top 16
theorem sc__law_compared : FnScope ["_law_x", "_law_y"] ["_law_x", "_law_y"] (defScope s__law_compared) := by
  refine ⟨rfl, rfl, rfl, ?_, rfl, ?_, ?_⟩ <;> decide +kernel
abbrev d__law_compared : He.DefD := ⟨("_law_compared", none), "_law_compared", "_law_compared", defArgs s__law_compared, defBody s__law_compared, defScope s__law_compared, [], []⟩
abbrev s__law_due : Stmt := top 17
theorem sc__law_due : FnScope ["_law_left", "_law_right"] ["_law_left", "_law_right"] (defScope s__law_due) := by
  refine ⟨rfl, rfl, rfl, ?_, rfl, ?_, ?_⟩ <;> decide +kernel
abbrev d__law_due : He.DefD := ⟨("_law_due", none), "_law_due", "_law_due", defArgs s__law_due, defBody s__law_due, defScope s__law_due, [], []⟩
abbrev s__law_flags_fit : Stmt := top 18
theorem sc__law_flags_fit : FnScope ["_law_found", "_law_due_here", "_law_k"] ["_law_found", "_law_due_here"] (defScope s__law_flags_fit) := by
  refine ⟨rfl, rfl, rfl, ?_, rfl, ?_, ?_⟩ <;> decide +kernel
abbrev d__law_flags_fit : He.DefD := ⟨("_law_flags_fit", none), "_law_flags_fit", "_law_flags_fit", defArgs s__law_flags_fit, defBody s__law_flags_fit, defScope s__law_flags_fit, [], []⟩
abbrev s_law : Stmt := top 19
theorem sc_law : FnScope ["_law_script", "_law_draw", "_law_mode", "_law_factor", "_law_a", "_law_b", "_law_x", "_law_y", "_law_near", "_law_number", "_law_other"] ["_law_script"] (defScope s_law) := by
  refine ⟨rfl, rfl, rfl, ?_, rfl, ?_, ?_⟩ <;> decide +kernel
abbrev d_law : He.DefD := ⟨("law", none), "law", "law", defArgs s_law, defBody s_law, defScope s_law, [], []⟩
def fns : List He.DefD := [d_is_integer, d_BadShare___init__, d_common_divisor, d_is_number, d_top_of, d_bottom_of, d_Share___init__, d_Share___eq__, d_Share___lt__, d_Share___le__, d_Share___gt__, d_Share___ge__, d__law_cell, d__law_take, d__law_compared, d__law_due, d__law_flags_fit, d_law]
def gts : List He.DefD := []
def cks : List S.Ck := [
  (He.Fa.glo "is_integer").ok,
  (He.Fa.glo "common_divisor").ok,
  (He.Fa.glo "is_number").ok,
  (He.Fa.glo "top_of").ok,
  (He.Fa.glo "bottom_of").ok,
  (He.Fa.glo "_law_cell").ok,
  (He.Fa.glo "_law_take").ok,
  (He.Fa.glo "_law_compared").ok,
  (He.Fa.glo "_law_due").ok,
  (He.Fa.glo "_law_flags_fit").ok,
  (He.Fa.glo "law").ok,
  (He.Fa.glo "BadShare").ok,
  (He.Fa.glo "Share").ok,
  (He.Fa.free "int").ok,
  (He.Fa.free "bool").ok,
  (He.Fa.free "isinstance").ok,
  (He.Fa.free "len").ok,
  (He.Fa.free "range").ok,
  (He.Fa.free "abs").ok,
  (He.Fa.free "NotImplemented").ok,
  (fun K => S.oexB K (He.ga K "BadShare")),
  (fun K => He.eqO (PySem.W.findIn K (.ref (He.ga K "BadShare")) "__init__") (some (some (.ref (He.ma K (He.ga K "BadShare") "__init__"))))),
  (fun K => decide (PySem.W.typeIn K (.ref (He.ma K (He.ga K "BadShare") "__init__")) = some (.type "function"))),
  (fun K => He.eqO (PySem.W.findIn K (.ref (He.ga K "BadShare")) "part") (some none)),
  (fun K => S.sclB K (He.ga K "Share")),
  (fun K => S.insB K (He.ga K "Share")),
  (He.Fa.mkr "Share").ok,
  (fun K => S.sltB K (He.ga K "Share") "bottom" 0),
  (fun K => S.sltB K (He.ga K "Share") "top" 1),
  (He.Fa.meth "Share" "__eq__").ok,
  (He.Fa.meth "Share" "__lt__").ok,
  (He.Fa.meth "Share" "__le__").ok,
  (He.Fa.meth "Share" "__gt__").ok,
  (He.Fa.meth "Share" "__ge__").ok,
  (fun K => decide (PySem.W.kitOne K (.ref (He.ga K "Share")) (.ref (He.ga K "Share")) = some true)),
  (fun K => decide (PySem.W.kitOne K (.type "int") (.ref (He.ga K "Share")) = some false)),
  (fun K => decide (PySem.W.kitOne K (.type "bool") (.ref (He.ga K "Share")) = some false)),
  (fun K => decide (PySem.W.kitOne K (.type "str") (.ref (He.ga K "Share")) = some false)),
  (fun K => decide (PySem.W.kitOne K (.type "list") (.ref (He.ga K "Share")) = some false)),
  (fun K => decide (PySem.W.kitOne K (.type "tuple") (.ref (He.ga K "Share")) = some false)),
  (fun K => decide (PySem.W.kitOne K (.type "dict") (.ref (He.ga K "Share")) = some false)),
  (fun K => decide (PySem.W.kitOne K (.type "NoneType") (.ref (He.ga K "Share")) = some false)),
  (fun K => PySem.W.notFirst K (He.ga K "Share") (.type "int")),
  (fun K => He.eqO (PySem.W.findIn K (.ref (He.ga K "Share")) "__ne__") (some (some (.builtin "object.__ne__")))),
  (fun K => decide (PySem.W.mroIn K (He.ga K "Share") (.type "object") = some true)),
  (fun K => decide (PySem.W.subIn K (.ref (He.ga K "Share")) (.type "int") = some false)),
  (fun K => S.sixB K (He.ga K "Share"))]
structure Txt (K : S.Frag) (mg : Str → Option Value) : Prop where
  F_is_integer : S.FunA K d_is_integer
  F_BadShare___init__ : S.FunA K d_BadShare___init__
  F_common_divisor : S.FunA K d_common_divisor
  F_is_number : S.FunA K d_is_number
  F_top_of : S.FunA K d_top_of
  F_bottom_of : S.FunA K d_bottom_of
  F_Share___init__ : S.FunA K d_Share___init__
  F_Share___eq__ : S.FunA K d_Share___eq__
  F_Share___lt__ : S.FunA K d_Share___lt__
  F_Share___le__ : S.FunA K d_Share___le__
  F_Share___gt__ : S.FunA K d_Share___gt__
  F_Share___ge__ : S.FunA K d_Share___ge__
  F__law_cell : S.FunA K d__law_cell
  F__law_take : S.FunA K d__law_take
  F__law_compared : S.FunA K d__law_compared
  F__law_due : S.FunA K d__law_due
  F__law_flags_fit : S.FunA K d__law_flags_fit
  F_law : S.FunA K d_law
  g_is_integer : mg "is_integer" = some (.ref (He.ga K "is_integer"))
  g_common_divisor : mg "common_divisor" = some (.ref (He.ga K "common_divisor"))
  g_is_number : mg "is_number" = some (.ref (He.ga K "is_number"))
  g_top_of : mg "top_of" = some (.ref (He.ga K "top_of"))
  g_bottom_of : mg "bottom_of" = some (.ref (He.ga K "bottom_of"))
  g__law_cell : mg "_law_cell" = some (.ref (He.ga K "_law_cell"))
  g__law_take : mg "_law_take" = some (.ref (He.ga K "_law_take"))
  g__law_compared : mg "_law_compared" = some (.ref (He.ga K "_law_compared"))
  g__law_due : mg "_law_due" = some (.ref (He.ga K "_law_due"))
  g__law_flags_fit : mg "_law_flags_fit" = some (.ref (He.ga K "_law_flags_fit"))
  g_law : mg "law" = some (.ref (He.ga K "law"))
  g_BadShare : mg "BadShare" = some (.ref (He.ga K "BadShare"))
  g_Share : mg "Share" = some (.ref (He.ga K "Share"))
  n_int : mg "int" = none
  n_bool : mg "bool" = none
  n_isinstance : mg "isinstance" = none
  n_len : mg "len" = none
  n_range : mg "range" = none
  n_abs : mg "abs" = none
  n_NotImplemented : mg "NotImplemented" = none
  ox_BadShare : OexC K (He.ga K "BadShare")
  xi_BadShare : PySem.W.findIn K (.ref (He.ga K "BadShare")) "__init__" = some (some (.ref (He.ma K (He.ga K "BadShare") "__init__")))
  xt_BadShare : PySem.W.typeIn K (.ref (He.ma K (He.ga K "BadShare") "__init__")) = some (.type "function")
  xn_BadShare_part : PySem.W.findIn K (.ref (He.ga K "BadShare")) "part" = some none
  sc_Share : SlX.SCls K (He.ga K "Share")
  si_Share : SlX.SIsi K (He.ga K "Share")
  mk_Share : Mk K (He.ga K "Share") (He.ma K (He.ga K "Share") "__init__")
  sl_Share_bottom : SlX.Slot1 K (He.ga K "Share") "bottom" (S.slA K (He.ga K "Share") "bottom") 0
  sl_Share_top : SlX.Slot1 K (He.ga K "Share") "top" (S.slA K (He.ga K "Share") "top") 1
  me_Share___eq__ : Meth K (He.ga K "Share") "__eq__" (He.ma K (He.ga K "Share") "__eq__")
  me_Share___lt__ : Meth K (He.ga K "Share") "__lt__" (He.ma K (He.ga K "Share") "__lt__")
  me_Share___le__ : Meth K (He.ga K "Share") "__le__" (He.ma K (He.ga K "Share") "__le__")
  me_Share___gt__ : Meth K (He.ga K "Share") "__gt__" (He.ma K (He.ga K "Share") "__gt__")
  me_Share___ge__ : Meth K (He.ga K "Share") "__ge__" (He.ma K (He.ga K "Share") "__ge__")
  ko_Share_Share : PySem.W.kitOne K (.ref (He.ga K "Share")) (.ref (He.ga K "Share")) = some true
  kb_Share_int : PySem.W.kitOne K (.type "int") (.ref (He.ga K "Share")) = some false
  kb_Share_bool : PySem.W.kitOne K (.type "bool") (.ref (He.ga K "Share")) = some false
  kb_Share_str : PySem.W.kitOne K (.type "str") (.ref (He.ga K "Share")) = some false
  kb_Share_list : PySem.W.kitOne K (.type "list") (.ref (He.ga K "Share")) = some false
  kb_Share_tuple : PySem.W.kitOne K (.type "tuple") (.ref (He.ga K "Share")) = some false
  kb_Share_dict : PySem.W.kitOne K (.type "dict") (.ref (He.ga K "Share")) = some false
  kb_Share_NoneType : PySem.W.kitOne K (.type "NoneType") (.ref (He.ga K "Share")) = some false
  nf_Share : PySem.W.notFirst K (He.ga K "Share") (.type "int") = true
  ne_Share : PySem.W.findIn K (.ref (He.ga K "Share")) "__ne__" = some (some (.builtin "object.__ne__"))
  hm_Share : PySem.W.mroIn K (He.ga K "Share") (.type "object") = some true
  si_int : PySem.W.subIn K (.ref (He.ga K "Share")) (.type "int") = some false
  six_Share : S.Six K (He.ga K "Share")
theorem txt_of {K : S.Frag} {h : Heap} {mg : Str → Option Value} (X : K.In h) (G : h.Ns mainGlobals mg) (c : S.SaysX cks fns gts K) : Txt K mg where
  F_is_integer := c.def_ 0
  F_BadShare___init__ := c.def_ 1
  F_common_divisor := c.def_ 2
  F_is_number := c.def_ 3
  F_top_of := c.def_ 4
  F_bottom_of := c.def_ 5
  F_Share___init__ := c.def_ 6
  F_Share___eq__ := c.def_ 7
  F_Share___lt__ := c.def_ 8
  F_Share___le__ := c.def_ 9
  F_Share___gt__ := c.def_ 10
  F_Share___ge__ := c.def_ 11
  F__law_cell := c.def_ 12
  F__law_take := c.def_ 13
  F__law_compared := c.def_ 14
  F__law_due := c.def_ 15
  F__law_flags_fit := c.def_ 16
  F_law := c.def_ 17
  g_is_integer := He.glo_ok X G (c.fact 0)
  g_common_divisor := He.glo_ok X G (c.fact 1)
  g_is_number := He.glo_ok X G (c.fact 2)
  g_top_of := He.glo_ok X G (c.fact 3)
  g_bottom_of := He.glo_ok X G (c.fact 4)
  g__law_cell := He.glo_ok X G (c.fact 5)
  g__law_take := He.glo_ok X G (c.fact 6)
  g__law_compared := He.glo_ok X G (c.fact 7)
  g__law_due := He.glo_ok X G (c.fact 8)
  g__law_flags_fit := He.glo_ok X G (c.fact 9)
  g_law := He.glo_ok X G (c.fact 10)
  g_BadShare := He.glo_ok X G (c.fact 11)
  g_Share := He.glo_ok X G (c.fact 12)
  n_int := He.free_ok X G (c.fact 13)
  n_bool := He.free_ok X G (c.fact 14)
  n_isinstance := He.free_ok X G (c.fact 15)
  n_len := He.free_ok X G (c.fact 16)
  n_range := He.free_ok X G (c.fact 17)
  n_abs := He.free_ok X G (c.fact 18)
  n_NotImplemented := He.free_ok X G (c.fact 19)
  ox_BadShare := S.oexB_ok (c.fact 20)
  xi_BadShare := He.eqO_ok (c.fact 21)
  xt_BadShare := of_decide_eq_true (c.fact 22)
  xn_BadShare_part := He.eqO_ok (c.fact 23)
  sc_Share := S.sclB_ok (c.fact 24)
  si_Share := S.sisB_ok (c.fact 25)
  mk_Share := He.mkr_ok (c.fact 26)
  sl_Share_bottom := S.sltB_ok (by decide) (c.fact 27)
  sl_Share_top := S.sltB_ok (by decide) (c.fact 28)
  me_Share___eq__ := He.meth_ok (c.fact 29)
  me_Share___lt__ := He.meth_ok (c.fact 30)
  me_Share___le__ := He.meth_ok (c.fact 31)
  me_Share___gt__ := He.meth_ok (c.fact 32)
  me_Share___ge__ := He.meth_ok (c.fact 33)
  ko_Share_Share := of_decide_eq_true (c.fact 34)
  kb_Share_int := of_decide_eq_true (c.fact 35)
  kb_Share_bool := of_decide_eq_true (c.fact 36)
  kb_Share_str := of_decide_eq_true (c.fact 37)
  kb_Share_list := of_decide_eq_true (c.fact 38)
  kb_Share_tuple := of_decide_eq_true (c.fact 39)
  kb_Share_dict := of_decide_eq_true (c.fact 40)
  kb_Share_NoneType := of_decide_eq_true (c.fact 41)
  nf_Share := (c.fact 42)
  ne_Share := He.eqO_ok (c.fact 43)
  hm_Share := of_decide_eq_true (c.fact 44)
  si_int := of_decide_eq_true (c.fact 45)
  six_Share := S.sixB_ok (c.fact 46)
theorem kb_is_integer_1 {K : S.Frag} {mg : Str → Option Value} (T : Txt K mg) : KBn K (S.fdA K ("is_integer", none)) ["value"] 1 [] (fun us _ => us ++ []) (fun vs _ => vs ++ []) :=
  S.kb_of_binds (T.F_is_integer.bindsN fun _ _ _ _ _ _ us hl => match us, hl with | [_], _ => rfl) .nil rfl
theorem kb_BadShare___init___2 {K : S.Frag} {mg : Str → Option Value} (T : Txt K mg) : KBn K (S.fdA K ("BadShare", some "__init__")) ["self", "part"] 2 [] (fun us _ => us ++ []) (fun vs _ => vs ++ []) :=
  S.kb_of_binds (T.F_BadShare___init__.bindsN fun _ _ _ _ _ _ us hl => match us, hl with | [_, _], _ => rfl) .nil rfl
theorem kb_common_divisor_2 {K : S.Frag} {mg : Str → Option Value} (T : Txt K mg) : KBn K (S.fdA K ("common_divisor", none)) ["first", "second"] 2 [] (fun us _ => us ++ []) (fun vs _ => vs ++ []) :=
  S.kb_of_binds (T.F_common_divisor.bindsN fun _ _ _ _ _ _ us hl => match us, hl with | [_, _], _ => rfl) .nil rfl
theorem kb_is_number_1 {K : S.Frag} {mg : Str → Option Value} (T : Txt K mg) : KBn K (S.fdA K ("is_number", none)) ["value"] 1 [] (fun us _ => us ++ []) (fun vs _ => vs ++ []) :=
  S.kb_of_binds (T.F_is_number.bindsN fun _ _ _ _ _ _ us hl => match us, hl with | [_], _ => rfl) .nil rfl
theorem kb_top_of_1 {K : S.Frag} {mg : Str → Option Value} (T : Txt K mg) : KBn K (S.fdA K ("top_of", none)) ["value"] 1 [] (fun us _ => us ++ []) (fun vs _ => vs ++ []) :=
  S.kb_of_binds (T.F_top_of.bindsN fun _ _ _ _ _ _ us hl => match us, hl with | [_], _ => rfl) .nil rfl
theorem kb_bottom_of_1 {K : S.Frag} {mg : Str → Option Value} (T : Txt K mg) : KBn K (S.fdA K ("bottom_of", none)) ["value"] 1 [] (fun us _ => us ++ []) (fun vs _ => vs ++ []) :=
  S.kb_of_binds (T.F_bottom_of.bindsN fun _ _ _ _ _ _ us hl => match us, hl with | [_], _ => rfl) .nil rfl
theorem kb__law_cell_2 {K : S.Frag} {mg : Str → Option Value} (T : Txt K mg) : KBn K (S.fdA K ("_law_cell", none)) ["_law_script", "_law_k"] 2 [] (fun us _ => us ++ []) (fun vs _ => vs ++ []) :=
  S.kb_of_binds (T.F__law_cell.bindsN fun _ _ _ _ _ _ us hl => match us, hl with | [_, _], _ => rfl) .nil rfl
theorem kb__law_take_2 {K : S.Frag} {mg : Str → Option Value} (T : Txt K mg) : KBn K (S.fdA K ("_law_take", none)) ["_law_draw", "_law_size"] 2 [] (fun us _ => us ++ []) (fun vs _ => vs ++ []) :=
  S.kb_of_binds (T.F__law_take.bindsN fun _ _ _ _ _ _ us hl => match us, hl with | [_, _], _ => rfl) .nil rfl
theorem kb_Share___init___3 {K : S.Frag} {mg : Str → Option Value} (T : Txt K mg) : ∃ g, KBn K (S.fdA K ("Share", some "__init__")) ["self", "top", "bottom"] 3 [] g (fun vs zs => vs) := by
  obtain ⟨_, h⟩ := T.F_Share___init__.kbindsD (ps := ["self", "top", "bottom"]) 3 [] (fun us its ws => us) (List.cons_ne_nil _ _) (fun a b d => a)
    (fun _ _ _ _ _ _ _ us its ws l1 l2 l4 => match us, its, ws, l1, l2, l4 with | [_, _, _], [_], [], _, _, _ => ⟨_, rfl, rfl⟩)
  exact ⟨_, h⟩
theorem kb__law_flags_fit_2 {K : S.Frag} {mg : Str → Option Value} (T : Txt K mg) : KBn K (S.fdA K ("_law_flags_fit", none)) ["_law_found", "_law_due_here"] 2 [] (fun us _ => us ++ []) (fun vs _ => vs ++ []) :=
  S.kb_of_binds (T.F__law_flags_fit.bindsN fun _ _ _ _ _ _ us hl => match us, hl with | [_, _], _ => rfl) .nil rfl
theorem kb__law_due_2 {K : S.Frag} {mg : Str → Option Value} (T : Txt K mg) : KBn K (S.fdA K ("_law_due", none)) ["_law_left", "_law_right"] 2 [] (fun us _ => us ++ []) (fun vs _ => vs ++ []) :=
  S.kb_of_binds (T.F__law_due.bindsN fun _ _ _ _ _ _ us hl => match us, hl with | [_, _], _ => rfl) .nil rfl
theorem kb__law_compared_2 {K : S.Frag} {mg : Str → Option Value} (T : Txt K mg) : KBn K (S.fdA K ("_law_compared", none)) ["_law_x", "_law_y"] 2 [] (fun us _ => us ++ []) (fun vs _ => vs ++ []) :=
  S.kb_of_binds (T.F__law_compared.bindsN fun _ _ _ _ _ _ us hl => match us, hl with | [_, _], _ => rfl) .nil rfl
theorem kb_Share___init___2 {K : S.Frag} {mg : Str → Option Value} (T : Txt K mg) : ∃ g, KBn K (S.fdA K ("Share", some "__init__")) ["self", "top", "bottom"] 2 [] g (fun vs zs => vs ++ (([V.int 1] : List V).drop 0)) := by
  obtain ⟨_, h⟩ := T.F_Share___init__.kbindsD (ps := ["self", "top", "bottom"]) 2 [] (fun us its ws => us ++ (its.drop 0)) (List.cons_ne_nil _ _) (fun a b d => (a.append (b.drop 0)))
    (fun _ _ _ _ _ _ _ us its ws l1 l2 l4 => match us, its, ws, l1, l2, l4 with | [_, _], [_], [], _, _, _ => ⟨_, rfl, rfl⟩)
  exact ⟨_, h⟩
theorem kb_Share___eq___2 {K : S.Frag} {mg : Str → Option Value} (T : Txt K mg) : KBn K (S.fdA K ("Share", some "__eq__")) ["self", "other"] 2 [] (fun us _ => us ++ []) (fun vs _ => vs ++ []) :=
  S.kb_of_binds (T.F_Share___eq__.bindsN fun _ _ _ _ _ _ us hl => match us, hl with | [_, _], _ => rfl) .nil rfl
theorem kb_Share___lt___2 {K : S.Frag} {mg : Str → Option Value} (T : Txt K mg) : KBn K (S.fdA K ("Share", some "__lt__")) ["self", "other"] 2 [] (fun us _ => us ++ []) (fun vs _ => vs ++ []) :=
  S.kb_of_binds (T.F_Share___lt__.bindsN fun _ _ _ _ _ _ us hl => match us, hl with | [_, _], _ => rfl) .nil rfl
theorem kb_Share___le___2 {K : S.Frag} {mg : Str → Option Value} (T : Txt K mg) : KBn K (S.fdA K ("Share", some "__le__")) ["self", "other"] 2 [] (fun us _ => us ++ []) (fun vs _ => vs ++ []) :=
  S.kb_of_binds (T.F_Share___le__.bindsN fun _ _ _ _ _ _ us hl => match us, hl with | [_, _], _ => rfl) .nil rfl
theorem kb_Share___gt___2 {K : S.Frag} {mg : Str → Option Value} (T : Txt K mg) : KBn K (S.fdA K ("Share", some "__gt__")) ["self", "other"] 2 [] (fun us _ => us ++ []) (fun vs _ => vs ++ []) :=
  S.kb_of_binds (T.F_Share___gt__.bindsN fun _ _ _ _ _ _ us hl => match us, hl with | [_, _], _ => rfl) .nil rfl
theorem kb_Share___ge___2 {K : S.Frag} {mg : Str → Option Value} (T : Txt K mg) : KBn K (S.fdA K ("Share", some "__ge__")) ["self", "other"] 2 [] (fun us _ => us ++ []) (fun vs _ => vs ++ []) :=
  S.kb_of_binds (T.F_Share___ge__.bindsN fun _ _ _ _ _ _ us hl => match us, hl with | [_, _], _ => rfl) .nil rfl
end W

namespace W
open PySem PySem.W PySem.Calls PyProof.Rows
/-! the head: its run in four looks; the facts over all that the top made -/
abbrev R : PySem.W.OpenRow := PySem.W.OpenLaw.row PySem.Challenge.rw_seenshares_k03_share_order
def obR (g : Addr → Option Obj) : He.AlD := S.obsX cks fns gts (He.frG g (List.range 2500))
def hk : PySem.W.Hook where
  α := He.AlD
  obs := fun s => obR s.heap.get?
  val := fun _ => S.valX fns gts
  says := fun _ h => ∃ K : S.Frag, K.In h ∧ S.SaysX cks fns gts K
  of := fun _ _ e => ⟨_, He.frG_in, e⟩
  keeps := fun _ _ _ ⟨K, hK, c⟩ k => ⟨K, PySem.W.Frag.In.keeps hK k, c⟩
def ob (s : PySem.W.SharedT) : He.AlD := obR (HandSHeadRun.getT s)
theorem ob_eq (s : PySem.W.SharedT) : ob s = hk.obs s.abs := by
  have e : HandSHeadRun.getT s = s.abs.heap.get? := funext (HandSHeadRun.getT_eq s)
  unfold ob
  rw [e]
  rfl
def lo0 : List PySem.Str := ["_wall", "is_integer", "SeenError", "BadShare", "NoShare", "common_divisor", "is_number", "top_of", "bottom_of", "Share", "_law_cell", "_law_take", "_law_compared", "_law_due", "_law_flags_fit"]
def lo : List PySem.Str := lo0
noncomputable abbrev endS (w : World) (os : OsState) : Option PySem.W.SharedT := HandSHeadRun.endF (HandSHeadRun.stepQ (HandSHeadRun.denQ HandSHeadRun.tabQ) R.prog w) 3000 R.prog w os
theorem map4 {α β γ δ ε : Type} {x : Option α} {f : α → β} {g : α → γ} {h : α → δ × ε} {a : β} {b : γ} {c : δ × ε} (e1 : x.map f = some a) (e2 : x.map g = some b) (e3 : x.map (fun s => (h s).1) = some c.1) (e4 : x.map (fun s => (h s).2) = some c.2) : x.map (fun s => (f s, g s, h s)) = some (a, b, c) := by
  cases x with
  | none => cases e1
  | some s =>
    injection e1 with e1
    injection e2 with e2
    injection e3 with e3
    injection e4 with e4
    show some (f s, g s, h s) = _
    rw [e1, e2, show h s = c from Prod.ext e3 e4]
set_option maxHeartbeats 0 in
theorem run1 (w : World) (os : OsState) : (endS w os).map (fun s => HandSHeadRun.looksF R.prog (boot_heap w.params) s.abs) = some true := by
  kernel_rfl
set_option maxHeartbeats 0 in
theorem run2 (w : World) (os : OsState) : (endS w os).map (fun s => HandSHeadRun.seenQ (PySem.W.view R.prog [19]) lo (importedModules R.prog.main.body) (fun s => xlAt (PySem.W.view R.prog [19]) [] s && recOk R.toRowW.records s) s.abs) = some (openGood (PySem.W.view R.prog [19]) lo) := by
  kernel_rfl
set_option maxHeartbeats 0 in
theorem run3 (w : World) (os : OsState) : (endS w os).map (fun s => (ob s).1) = some true := by
  kernel_rfl
set_option maxHeartbeats 0 in
theorem run4 (w : World) (os : OsState) : (endS w os).map (fun s => (ob s).2) = some (S.valX fns gts).2 := by
  kernel_rfl
theorem run (w : World) : HandSHeadRun.RunEq R (PySem.W.view R.prog [19]) hk ob 3000 lo w := fun os => map4 (run1 w os) (run2 w os) (run3 w os) (run4 w os)
end W

namespace W
open PySem PySem.Spec PyProof.Rows L2
section
variable {P : Program} {w : World} {K : S.Frag} {mg : Str → Option Value} {base : Heap}
open S
theorem isi_true {H : Hp} {i : Int} : TyX K H (.int i) (.type "int") := .base (.int i)
def sp_isint (K : S.Frag) : Sp := Sp1 fun x H Q _ => ∃ b, IsI K H x b ∧ Q (.bl b) H
theorem ok_is_integer (T : Txt K mg) : FnOk P w K mg base (L2.CX P w) 1 (He.fAd K ("is_integer", none)) (S.fdA K ("is_integer", none)) ["value"] (sp_isint K) := by
  refine FunD.ok T.F_is_integer sc_is_integer (fun vs H Q E h => S.splen1 h) (fun cdv A outer s H vs Q E hr h => ?_)
  have hu := hu_of hr
  refine ⟨_, (pss_one (ps_ret (pe_and (pe_callB (S.isiK (K := K) rfl) rfl T.n_isinstance S.boot_isinstance (pa_cons (pv 0) (pa_cons (pe_bltn (v := .ty "int") rfl T.n_int S.boot_int rfl) pa_nil))) (pe_one (pe_not (pe_callB (S.isiK (K := K) rfl) rfl T.n_isinstance S.boot_isinstance (pa_cons (pv 0) (pa_cons (pe_bltn (v := .ty "bool") rfl T.n_bool S.boot_bool rfl) pa_nil)))))))), ?_⟩
  obtain ⟨x, rfl, b, hb, q⟩ := h
  cases hb with
  | int i => exact ⟨_, rfl, _, _, _, _, true, rfl, .ty _, isi_true, kit_ty (by decide +kernel), _, rfl, _, rfl, _, _, _, _, false, rfl, .ty _, isi_true, kit_ty (by decide +kernel), _, rfl, q⟩
  | bl b => exact ⟨_, rfl, _, _, _, _, true, rfl, .ty _, .base (.bl b), kit_ty (by decide +kernel), _, rfl, _, rfl, _, _, _, _, true, rfl, .ty _, .base (.bl b), kit_ty (by decide +kernel), _, rfl, q⟩
  | oth h e => exact ⟨_, rfl, _, _, _, _, false, rfl, .ty _, h, e, _, rfl, q⟩
/-- x is an integer from a to c, or not, as b says -/
def Win (K : S.Frag) (H : Hp) (x : V) (a c : Int) (b : Bool) : Prop := (∃ i, x = .int i ∧ b = (decide (a ≤ i) && decide (i ≤ c))) ∨ (IsI K H x false ∧ b = false)
def sp_within (K : S.Frag) : Sp := Sp3 fun x lo hi H Q _ => ∃ a c b, lo = .int a ∧ hi = .int c ∧ Win K H x a c b ∧ Q (.bl b) H
end
end W

namespace W
open PySem PySem.Spec PyProof.Rows L2
section
variable {P : Program} {w : World} {K : S.Frag} {mg : Str → Option Value} {base : Heap}
open S
/-- the values that the law hands about -/
inductive Od (H : Hp) : V → Prop where
  | int (i : Int) : Od H (.int i)
  | non : Od H .non
  | bl (b : Bool) : Od H (.bl b)
  | str (z : Str) : Od H (.str z)
  | tup {a : Addr} {xs : List V} (h : H a = some (.tup xs)) : Od H (.ref a)
  | lst {a : Addr} {xs : List V} (h : H a = some (.lst xs)) : Od H (.ref a)
  | dK {a : Addr} {xs : List (Key × V)} (h : H a = some (.dK xs)) : Od H (.ref a)
theorem Od.mono {H H' : Hp} {x : V} (h : Od H x) (s : Same H H') : Od H' x := by
  cases h with
  | int i => exact .int i
  | non => exact .non
  | bl b => exact .bl b
  | str z => exact .str z
  | tup h => exact .tup (s _ _ h)
  | lst h => exact .lst (s _ _ h)
  | dK h => exact .dK (s _ _ h)
def isInt : V → Bool
  | .int _ => true
  | _ => false
theorem Od.isi {H : Hp} {x : V} (h : Od H x) : IsI K H x (isInt x) := by
  cases h with
  | int i => exact .int i
  | non => exact .oth (.base .non) (kit_ty (by decide +kernel))
  | bl b => exact .bl b
  | str z => exact .oth (.base (.str z)) (kit_ty (by decide +kernel))
  | tup h => exact .oth (.base (.tup h)) (kit_ty (by decide +kernel))
  | lst h => exact .oth (.base (.lst h)) (kit_ty (by decide +kernel))
  | dK h => exact .oth (.base (.dK h)) (kit_ty (by decide +kernel))
/-- an integer from a to b -/
def inR (a b : Int) : V → Bool
  | .int i => decide (a ≤ i) && decide (i ≤ b)
  | _ => false
theorem Od.within {H : Hp} {x : V} {a b : Int} (h : Od H x) : Win K H x a b (inR a b x) := by
  cases h with
  | int i => exact .inl ⟨i, rfl, rfl⟩
  | non => exact .inr ⟨Od.isi .non, rfl⟩
  | bl b => exact .inr ⟨Od.isi (.bl b), rfl⟩
  | str z => exact .inr ⟨Od.isi (.str z), rfl⟩
  | tup h => exact .inr ⟨Od.isi (.tup h), rfl⟩
  | lst h => exact .inr ⟨Od.isi (.lst h), rfl⟩
  | dK h => exact .inr ⟨Od.isi (.dK h), rfl⟩
end
end W

namespace W
open PySem PySem.Spec PyProof.Rows L2
section
variable {P : Program} {w : World} {K : S.Frag} {mg : Str → Option Value} {base : Heap}
open S
theorem ok__law_cell (T : Txt K mg) : FnOk P w K mg base (L2.CX P w) 1 (He.fAd K ("_law_cell", none)) (S.fdA K ("_law_cell", none)) ["_law_script", "_law_k"] (spCellN K) := by
  refine FunD.ok T.F__law_cell sc__law_cell (fun vs H Q E h => S.splen2 h) (fun cdv A outer s H vs Q E hr h => ?_)
  have hu := hu_of hr
  refine ⟨_, (pss_cons (ps_set (i := 2) sc__law_cell.nd rfl (by first | exact Or.inl rfl | exact Or.inr rfl) pe_int)
      (S.pss_cut (ps_if (pt_cmpR op_lt (pv 1) (pe_callB (S.lenK (K := K) rfl) rfl T.n_len S.boot_len (pa_cons (pv 0) pa_nil)) (nomark _)) (pss_one (ps_set (i := 2) sc__law_cell.nd rfl (by first | exact Or.inl rfl | exact Or.inr rfl) (pe_ix (S.ixK (K := K) rfl) (pv 0) (pv 1) (fun _ _ => rfl)))) pss_nil)
      (pss_cons (ps_if (pt_cmpR op_ge (pv 2) (pe_op op_pow pe_int pe_int) (nomark _)) (pss_one (ps_ret (pv 2))) pss_nil)
      (pss_cons (ps_set (i := 3) sc__law_cell.nd rfl (by first | exact Or.inl rfl | exact Or.inr rfl) (pe_op op_mod (pe_callTy call_int1 rfl T.n_int S.boot_int (pa_cons (pe_op op_add (pe_op op_add (pe_op S.op_mulA (pv 2) pe_int) (pe_op S.op_mulA (pv 1) pe_int)) pe_int) pa_nil)) pe_int))
      (pss_cons (ps_set (i := 4) sc__law_cell.nd rfl (by first | exact Or.inl rfl | exact Or.inr rfl) pe_int)
      (pss_cons (ps_for (S.own_of rfl) rfl (pi_range1 rfl T.n_range (pa_cons pe_int pa_nil)) (pg_name (i := 5) sc__law_cell.nd rfl (by first | exact Or.inl rfl | exact Or.inr rfl))
        (pss_cons (ps_set (i := 3) sc__law_cell.nd rfl (by first | exact Or.inl rfl | exact Or.inr rfl) (pe_op op_mod (pe_callTy call_int1 rfl T.n_int S.boot_int (pa_cons (pe_op op_add (pe_op op_add (pe_op S.op_mulA (pv 3) pe_int) (pe_op S.op_mulA (pv 5) pe_int)) pe_int) pa_nil)) pe_int))
      (pss_cons (ps_set (i := 3) sc__law_cell.nd rfl (by first | exact Or.inl rfl | exact Or.inr rfl) (pe_op op_mod (pe_callTy call_int1 rfl T.n_int S.boot_int (pa_cons (pe_op S.op_mulA (pv 3) (pe_op op_add (pe_op op_fdivW (pv 3) pe_int) pe_int)) pa_nil)) pe_int))
      (pss_one (ps_set (i := 4) sc__law_cell.nd rfl (by first | exact Or.inl rfl | exact Or.inr rfl) (pe_op op_add (pe_op S.op_mulA (pv 4) pe_int) (pv 3)))))))
      (pss_one (ps_ret (pv 4))))))))), ?_⟩
  obtain ⟨_, _, rfl, a, ns, k, rfl, rfl, hk, hS, q⟩ := h
  refine ⟨fun τ J => J = H ∧ ∃ c : Int, τ = [some (.ref a), some (.int k), some (.int c), none, none, none], ?_, ?_⟩
  · refine ⟨_, rfl, _, rfl, _, (ns.map V.int).length, rfl, .inl ⟨_, hS, rfl⟩, _, _, rfl, rfl, _, rfl, ?_⟩
    by_cases c : k < ((ns.map V.int).length : Int)
    · obtain ⟨m, rfl⟩ : ∃ m : Nat, k = (m : Int) := ⟨k.toNat, by omega⟩
      rw [List.length_map] at c
      exact iteY (by simpa using c) ⟨_, rfl, _, rfl, .inl ⟨a, _, _, _, rfl, rfl, hS, int_at (by omega), rfl, _, rfl⟩⟩
    · exact iteN (by simpa using c) ⟨rfl, _, rfl⟩
  · rintro τ J ⟨rfl, c, rfl⟩
    refine ⟨_, rfl, _, _, rfl, rfl, ⟨by decide, by decide, by decide⟩, _, _, rfl, rfl, _, rfl, ?_⟩
    refine ite2 (fun h => ⟨_, rfl, q _ ?_⟩) (fun _ => ?_)
    · have h2 : (10 : Int) ^ 18 ≤ c := by simpa using h
      omega
    refine ⟨_, rfl, _, _, rfl, rfl, mul_small (by decide), _, rfl, _, _, rfl, rfl, mul_small (by decide), _, _, rfl, rfl, _, _, rfl, rfl, .inl ⟨_, rfl, _, _, rfl, rfl, (by show (0 : Int) < 2147483647; decide), ?_⟩⟩
    refine ⟨8, rfl, by decide, by decide, for_range (n := 8) (fun i σ J2 => J2 = J ∧ ∃ (x y : Int) (st : Option V), 0 ≤ x ∧ x < 2147483647 ∧ 0 ≤ y ∧ σ = [some (.ref a), some (.int k), some (.int c), some (.int x), some (.int y), st]) ⟨rfl, _, _, none, Int.emod_nonneg _ (by decide), Int.emod_lt_of_pos _ (by decide), Int.le_refl 0, rfl⟩ ?_ ?_⟩
    · rintro i σ J2 hi ⟨rfl, x, y, st, h0, h1, hy, rfl⟩
      refine ⟨_, rfl, _, _, rfl, rfl, mul_small (by decide), _, rfl, _, _, rfl, rfl, mul_small (by decide), _, _, rfl, rfl, _, _, rfl, rfl, .inl ⟨_, rfl, _, _, rfl, rfl, (by show (0 : Int) < 2147483647; decide), ?_⟩⟩
      refine ⟨_, rfl, _, rfl, _, _, rfl, rfl, div_small (by decide) (by decide), _, _, rfl, rfl, _, _, rfl, rfl, mul_smallL (mod_small _ (by decide) (by decide)), .inl ⟨_, rfl, _, _, rfl, rfl, (by show (0 : Int) < 2147483629; decide), ?_⟩⟩
      refine ⟨_, rfl, _, _, rfl, rfl, mul_small (by decide), _, rfl, _, _, rfl, rfl, rfl, _, _, some (.int (0 + (i : Int))), mod_lo _ (by decide), Int.lt_trans (mod_hi _ (by decide)) (by decide), ?_, rfl⟩
      exact Int.add_nonneg (Int.mul_nonneg hy (by decide)) (mod_lo _ (by decide))
    · rintro σ J2 ⟨rfl, x, y, st, _, _, hy, rfl⟩
      exact ⟨_, rfl, q y hy⟩
def spTake : Sp := Sp2 fun x y H Q _ => ∃ (a : Addr) (n m : Int), x = .ref a ∧ H a = some (.lst [.int n]) ∧ y = .int m ∧ 0 < m ∧ m < 2 ^ 64 ∧ ∀ t n', 0 ≤ t → t < m → Q (.int t) (upd H a (.lst [.int n']))
theorem ok__law_take (T : Txt K mg) : FnOk P w K mg base (L2.CX P w) 1 (He.fAd K ("_law_take", none)) (S.fdA K ("_law_take", none)) ["_law_draw", "_law_size"] (spTake) := by
  refine FunD.ok T.F__law_take sc__law_take (fun vs H Q E h => S.splen2 h) (fun cdv A outer s H vs Q E hr h => ?_)
  have hu := hu_of hr
  refine ⟨_, (pss_cons (ps_set (i := 2) sc__law_take.nd rfl (by first | exact Or.inl rfl | exact Or.inr rfl) (pe_op op_mod (pe_callTy call_int1 rfl T.n_int S.boot_int (pa_cons (pe_ix (S.ixK (K := K) rfl) (pv 0) pe_int (fun _ _ => rfl)) pa_nil)) (pv 1)))
      (pss_cons (ps_asg (pe_op op_fdivW (pe_ix (S.ixK (K := K) rfl) (pv 0) pe_int (fun _ _ => rfl)) (pv 1)) (pg_sub (pv 0) pe_int set_list))
      (pss_one (ps_ret (pv 2))))), ?_⟩
  obtain ⟨_, _, rfl, a, n, m, rfl, ha, rfl, h0, h1, q⟩ := h
  refine ⟨_, rfl, .inl ⟨a, _, 0, _, rfl, rfl, .inl (.inl ha), rfl, .inl ⟨_, rfl, _, rfl, _, _, rfl, rfl, h0, ?_⟩⟩⟩
  refine ⟨_, rfl, .inl ⟨a, _, 0, _, rfl, rfl, .inl (.inl ha), rfl, _, rfl, _, _, rfl, rfl, div_small h0 h1, ?_⟩⟩
  exact ⟨_, rfl, a, _, 0, 0, rfl, rfl, ha, rfl, _, rfl, q _ _ (mod_lo _ h0) (mod_hi _ h0)⟩
end
end W

namespace W
open PySem PySem.Spec PyProof.Rows L2
section
variable {P : Program} {w : World} {K : S.Frag} {mg : Str → Option Value} {base : Heap}
open S
/-- the draws at a went on, all else stands -/
structure Dr (a : Addr) (H H' : Hp) : Prop where
  at_ : ∃ m : Int, H' a = some (.lst [.int m])
  kp : ∀ b o, b ≠ a → H b = some o → H' b = some o
theorem Dr.trans {a : Addr} {H H1 H2 : Hp} (x : Dr a H H1) (y : Dr a H1 H2) : Dr a H H2 := ⟨y.at_, fun b o n h => y.kp b o n (x.kp b o n h)⟩
theorem Dr.upd {a : Addr} {H : Hp} {n : Int} : Dr a H (upd H a (.lst [.int n])) := ⟨⟨n, upd_same⟩, fun b o nb h => by rw [upd_ne nb]; exact h⟩
theorem Dr.same {a : Addr} {H H' : Hp} {n : Int} (h : H a = some (.lst [.int n])) (s : Same H H') : Dr a H H' := ⟨⟨n, s _ _ h⟩, fun b o _ h => s b o h⟩
/-- values that do not lean on the draws -/
inductive Oa (a : Addr) (H : Hp) : V → Prop where
  | int (i : Int) : Oa a H (.int i)
  | non : Oa a H .non
  | bl (b : Bool) : Oa a H (.bl b)
  | str (z : Str) : Oa a H (.str z)
  | tup {c : Addr} {xs : List V} (n : c ≠ a) (h : H c = some (.tup xs)) : Oa a H (.ref c)
  | lst {c : Addr} {xs : List V} (n : c ≠ a) (h : H c = some (.lst xs)) : Oa a H (.ref c)
  | dK {c : Addr} {xs : List (Key × V)} (n : c ≠ a) (h : H c = some (.dK xs)) : Oa a H (.ref c)
theorem Oa.od {a : Addr} {H : Hp} {x : V} (h : Oa a H x) : Od H x := by
  cases h with
  | int i => exact .int i
  | non => exact .non
  | bl b => exact .bl b
  | str z => exact .str z
  | tup n h => exact .tup h
  | lst n h => exact .lst h
  | dK n h => exact .dK h
theorem Oa.dr {a : Addr} {H H' : Hp} {x : V} (h : Oa a H x) (d : Dr a H H') : Oa a H' x := by
  cases h with
  | int i => exact .int i
  | non => exact .non
  | bl b => exact .bl b
  | str z => exact .str z
  | tup n h => exact .tup n (d.kp _ _ n h)
  | lst n h => exact .lst n (d.kp _ _ n h)
  | dK n h => exact .dK n (d.kp _ _ n h)
theorem ix3 {H : Hp} {a : Addr} {xs : List V} {v : V} {i : Int} {Q : VK} (ha : H a = some (.lst xs)) (e : atI xs i = some v) (q : Q v H) : rIx K (.ref a) (.int i) H Q := .inl ⟨a, _, _, _, rfl, rfl, .inl (.inl ha), e, q⟩
theorem ixT {H : Hp} {a : Addr} {xs : List V} {v : V} {i : Int} {Q : VK} (ha : H a = some (.tup xs)) (e : atI xs i = some v) (q : Q v H) : rIx K (.ref a) (.int i) H Q := .inr (.inl ⟨a, _, _, _, rfl, rfl, .inl (.inl ha), e, q⟩)
theorem isInt_int {x : V} (h : isInt x = true) : ∃ i, x = .int i := by cases x <;> first | exact ⟨_, rfl⟩ | cases h
theorem inR_not {x : V} {a b : Int} (h : isInt x = false) : inR a b x = false := by cases x <;> first | rfl | cases h
/-- one new thing at r beside what stood -/
theorem dr_same {r : Addr} {H H1 H2 : Hp} (h : Same H H1) (n : H r = none) (d : Dr r H1 H2) : Same H H2 := fun b o e => d.kp b o (ne_of_none e n) (h b o e)
end
end W

namespace W
open PySem PySem.Spec PyProof.Rows L2
section
variable {P : Program} {w : World} {K : S.Frag} {mg : Str → Option Value} {base : Heap}
open S
end
end W

namespace W
open PySem PySem.Spec PyProof.Rows L2
section
variable {P : Program} {w : World} {K : S.Frag} {mg : Str → Option Value} {base : Heap}
open S
/-! plain law of lowest terms -/
def gI (a b : Int) : Int := ((Nat.gcd a.natAbs b.natAbs : Nat) : Int)
def loT (t b : Int) : Int := (if b < 0 then -t else t) / gI t b
def loB (t b : Int) : Int := (if b < 0 then -b else b) / gI t b
theorem gI_pos {t b : Int} (h : b ≠ 0) : 0 < gI t b := by
  have : 0 < Nat.gcd t.natAbs b.natAbs := Nat.gcd_pos_of_pos_right _ (by omega)
  unfold gI
  omega
theorem gI_le {t b : Int} (h : b ≠ 0) : (gI t b).natAbs ≤ b.natAbs := by
  have : Nat.gcd t.natAbs b.natAbs ≤ b.natAbs := Nat.gcd_le_right _ (by omega)
  unfold gI
  omega
theorem gI_dT (t b : Int) : gI t b ∣ (if b < 0 then -t else t) := by
  have h : gI t b ∣ t := Int.ofNat_dvd_left.mpr (Nat.gcd_dvd_left _ _)
  split
  · exact Int.dvd_neg.mpr h
  · exact h
theorem gI_dB (t b : Int) : gI t b ∣ (if b < 0 then -b else b) := by
  have h : gI t b ∣ b := Int.ofNat_dvd_left.mpr (Nat.gcd_dvd_right _ _)
  split
  · exact Int.dvd_neg.mpr h
  · exact h
theorem lo_eT {t b : Int} : loT t b * gI t b = if b < 0 then -t else t := Int.ediv_mul_cancel (gI_dT t b)
theorem lo_eB {t b : Int} : loB t b * gI t b = if b < 0 then -b else b := Int.ediv_mul_cancel (gI_dB t b)
theorem loB_pos {t b : Int} (h : b ≠ 0) : 0 < loB t b := by
  have g := gI_pos (t := t) h
  have e := lo_eB (t := t) (b := b)
  have p : 0 < (if b < 0 then -b else b) := by split <;> omega
  rw [← e] at p
  exact Int.pos_of_mul_pos_left p g
theorem lo_same {t b : Int} (h : b ≠ 0) : loT t b * b = t * loB t b := by
  have g := gI_pos (t := t) h
  have e1 := lo_eT (t := t) (b := b)
  have e2 := lo_eB (t := t) (b := b)
  refine Int.eq_of_mul_eq_mul_right (Int.ne_of_gt g) ?_
  rw [Int.mul_right_comm, e1, Int.mul_assoc, e2]
  split
  · rw [Int.neg_mul, Int.mul_neg]
  · rfl
theorem lo_one {t b : Int} (h : b ≠ 0) : gI (loT t b) (loB t b) = 1 := by
  have e1 : (loT t b).natAbs * Nat.gcd t.natAbs b.natAbs = t.natAbs := by
    have := congrArg Int.natAbs (lo_eT (t := t) (b := b))
    rw [Int.natAbs_mul] at this
    refine this.trans ?_
    split
    · exact Int.natAbs_neg t
    · rfl
  have e2 : (loB t b).natAbs * Nat.gcd t.natAbs b.natAbs = b.natAbs := by
    have := congrArg Int.natAbs (lo_eB (t := t) (b := b))
    rw [Int.natAbs_mul] at this
    refine this.trans ?_
    split
    · exact Int.natAbs_neg b
    · rfl
  have gp : 0 < Nat.gcd t.natAbs b.natAbs := Nat.gcd_pos_of_pos_right _ (by omega)
  have e3 : Nat.gcd (loT t b).natAbs (loB t b).natAbs * Nat.gcd t.natAbs b.natAbs = 1 * Nat.gcd t.natAbs b.natAbs := by
    rw [← Nat.gcd_mul_right, e1, e2, Nat.one_mul]
  have := Nat.eq_of_mul_eq_mul_right gp e3
  unfold gI
  rw [this]
  rfl
theorem lo_leT {t b : Int} (h : b ≠ 0) : (loT t b).natAbs ≤ t.natAbs := by
  have g := gI_pos (t := t) h
  have := congrArg Int.natAbs (lo_eT (t := t) (b := b))
  rw [Int.natAbs_mul] at this
  have e : (if b < 0 then -t else t).natAbs = t.natAbs := by split <;> omega
  rw [← e, ← this]
  exact Nat.le_mul_of_pos_right _ (by omega)
theorem lo_leB {t b : Int} (h : b ≠ 0) : (loB t b).natAbs ≤ b.natAbs := by
  have g := gI_pos (t := t) h
  have := congrArg Int.natAbs (lo_eB (t := t) (b := b))
  rw [Int.natAbs_mul] at this
  have e : (if b < 0 then -b else b).natAbs = b.natAbs := by split <;> omega
  rw [← e, ← this]
  exact Nat.le_mul_of_pos_right _ (by omega)
theorem gI_one (t : Int) : gI t 1 = 1 := by
  unfold gI
  rw [show (1 : Int).natAbs = 1 from rfl, Nat.gcd_one_right]
  rfl
theorem loT_1 (t : Int) : loT t 1 = t := by
  unfold loT
  rw [gI_one, if_neg (by decide), Int.ediv_one]
theorem loB_1 (t : Int) : loB t 1 = 1 := by
  unfold loB
  rw [gI_one]
  decide
/-! the walk -/
theorem ok_BadShare___init__ (T : Txt K mg) : FnOk P w K mg base (L2.CX P w) 1 (He.fAd K ("BadShare", some "__init__")) (S.fdA K ("BadShare", some "__init__")) ["self", "part"] (sp_err (He.ga K "BadShare") "part") := by
  refine FunD.ok T.F_BadShare___init__ sc_BadShare___init__ (fun vs H Q E h => S.splen2 h) (fun cdv A outer s H vs Q E hr h => ?_)
  have hu := hu_of hr
  refine ⟨_, (pss_one (S.ps_ostK (K := K) rfl (pv 0) (pv 1) rfl)), ?_⟩
  obtain ⟨_, y, rfl, a, rfl, ha, k⟩ := h
  exact ⟨_, rfl, _, rfl, a, _, rfl, T.ox_BadShare, T.xn_BadShare_part, .inl ⟨ha, k⟩⟩
def spGcd : Sp := Sp2 fun x y H Q _ => ∃ a b : Int, x = .int a ∧ y = .int b ∧ 0 ≤ a ∧ 0 ≤ b ∧ Q (.int (gI a b)) H
theorem ok_common_divisor (T : Txt K mg) : FnOk P w K mg base (L2.CX P w) 1 (He.fAd K ("common_divisor", none)) (S.fdA K ("common_divisor", none)) ["first", "second"] (spGcd) := by
  refine FunD.ok T.F_common_divisor sc_common_divisor (fun vs H Q E h => S.splen2 h) (fun cdv A outer s H vs Q E hr h => ?_)
  have hu := hu_of hr
  refine ⟨_, (pss_cons (ps_while (S.own_of rfl) (pt_cmpR op_gt (pv 1) pe_int (nomark _))
        (pss_one (ps_par (i := 0) (j := 1) rfl sc_common_divisor.nd rfl rfl (by decide) rfl rfl (pa_cons (pv 1) (pa_cons (pe_op op_mod (pv 0) (pv 1)) pa_nil)) rfl)))
      (pss_one (ps_ret (pv 0)))), ?_⟩
  obtain ⟨_, _, rfl, a, b, rfl, rfl, ha, hb, q⟩ := h
  refine while_by (fun σ J => J = H ∧ ∃ m n : Nat, Nat.gcd m n = Nat.gcd a.natAbs b.natAbs ∧ σ = [some (.int (m : Int)), some (.int (n : Int))]) (fun σ J => match σ with | [_, some (.int n)] => n.natAbs | _ => 0) ⟨rfl, a.natAbs, b.natAbs, rfl, by rw [Int.natAbs_of_nonneg ha, Int.natAbs_of_nonneg hb]; rfl⟩ ?_ ?_
  · rintro σ J ⟨rfl, m, n, e, rfl⟩
    refine ⟨_, rfl, _, _, rfl, rfl, _, rfl, ?_⟩
    by_cases hn : 0 < n
    · refine iteY (by simpa using hn) ⟨_, rfl, _, rfl, _, rfl, _, _, rfl, rfl, (by omega : (0 : Int) < (n : Int)), _, _, rfl, ⟨rfl, n, m % n, ?_, rfl⟩, ?_⟩
      · rw [Nat.gcd_comm n, ← e, Nat.gcd_comm m n, Nat.gcd_rec n m]
      · exact Nat.mod_lt m hn
    · obtain rfl : n = 0 := by omega
      refine iteN (by simp) ⟨_, rfl, ?_⟩
      rw [Nat.gcd_zero_right] at e
      rw [e]
      exact q
  · exact fun σ J Q Q' k h => by
      obtain ⟨x, hx, y, z, e1, e2, b, hb, h⟩ := h
      exact ⟨x, hx, y, z, e1, e2, b, hb, k _ _ h⟩
def ShAt (K : S.Frag) (H : Hp) (a : Addr) (t b : Int) : Prop := ∃ dx vs, SlX.Slt H a (He.ga K "Share") dx vs ∧ vs[1]? = some (some (.int t)) ∧ vs[0]? = some (some (.int b))
theorem ShAt.same {H H' : Hp} {a : Addr} {t b : Int} (h : ShAt K H a t b) (s : Same H H') : ShAt K H' a t b := by
  obtain ⟨dx, vs, h, h1, h2⟩ := h
  refine ⟨dx, vs, ?_, h1, h2⟩
  rcases h with ⟨x, y⟩ | ⟨x, y⟩
  · exact .inl ⟨s _ _ x, y⟩
  · exact .inr ⟨s _ _ x, s _ _ y⟩
def intV : V → Int
  | .int i => i
  | _ => 0
/-- what is wrong with a top and a bottom, or "" -/
def dueS (t b : V) : Str := if !isInt t then "top" else if !isInt b || decide (intV b = 0) then "bottom" else ""
def bigV (x : V) : Prop := (intV x).natAbs < 2 ^ 4000
def spShare (K : S.Frag) : Sp := Sp3 fun self t b H Q E => ∃ p dx, self = .ref p ∧ H p = some (.ins (He.ga K "Share") dx []) ∧ dx ≠ p ∧ Od H t ∧ Od H b ∧ bigV t ∧ bigV b ∧
  (dueS t b = "" → ∀ H', (∀ c o, H c = some o → c ≠ p → c ≠ dx → H' c = some o) → ShAt K H' p (loT (intV t) (intV b)) (loB (intV t) (intV b)) → Q .non H') ∧
  (dueS t b ≠ "" → ∀ d H', H d = none → Same H H' → H' d = some (.xd [("part", .str (dueS t b))]) → E (.ref (He.ga K "BadShare")) (some d) H')
theorem ok_Share___init__ (T : Txt K mg) : FnOk P w K mg base (L2.CX P w) 3 (He.fAd K ("Share", some "__init__")) (S.fdA K ("Share", some "__init__")) ["self", "top", "bottom"] (spShare K) := by
  have G_is_integer := ok_is_integer (P := P) (w := w) (base := base) T
  have G_BadShare___init__ := ok_BadShare___init__ (P := P) (w := w) (base := base) T
  have G_common_divisor := ok_common_divisor (P := P) (w := w) (base := base) T
  refine FunD.ok T.F_Share___init__ sc_Share___init__ (fun vs H Q E h => S.splen3 h) (fun cdv A outer s H vs Q E hr h => ?_)
  have hu := hu_of hr
  refine ⟨_, (pss_cons (ps_if (pt_not (pt_val (S.pe_fnS G_is_integer (hr.mono (by decide)) rfl T.g_is_integer T.F_is_integer.kp (kb_is_integer_1 T) S.pas0 (pa_cons (pv 1) pa_nil) pk_nil rfl rfl))) (pss_one (S.ps_raiseO rfl (takes_of rfl rfl rfl rfl) T.ox_BadShare T.xi_BadShare T.xt_BadShare G_BadShare___init__ (hr.mono (by decide)) (kb_BadShare___init___2 T) rfl T.g_BadShare (pa_cons pe_str pa_nil))) pss_nil)
      (pss_cons (ps_if (PW.pt (pw_or (pt_not (pt_val (S.pe_fnS G_is_integer (hr.mono (by decide)) rfl T.g_is_integer T.F_is_integer.kp (kb_is_integer_1 T) S.pas0 (pa_cons (pv 2) pa_nil) pk_nil rfl rfl))) (pw_or1 (pt_cmpR op_eq (pv 2) pe_int (nomark _))))) (pss_one (S.ps_raiseO rfl (takes_of rfl rfl rfl rfl) T.ox_BadShare T.xi_BadShare T.xt_BadShare G_BadShare___init__ (hr.mono (by decide)) (kb_BadShare___init___2 T) rfl T.g_BadShare (pa_cons pe_str pa_nil))) pss_nil)
      (S.pss_cut (ps_if (pt_cmpR op_lt (pv 2) pe_int (nomark _)) (pss_one (ps_par (i := 1) (j := 2) rfl sc_Share___init__.nd rfl rfl (by decide) rfl rfl (pa_cons (pe_un un_neg (pv 1)) (pa_cons (pe_un un_neg (pv 2)) pa_nil)) rfl)) pss_nil)
      (pss_cons (ps_set (i := 3) sc_Share___init__.nd rfl (by first | exact Or.inl rfl | exact Or.inr rfl) (S.pe_fnS G_common_divisor (hr.mono (by decide)) rfl T.g_common_divisor T.F_common_divisor.kp (kb_common_divisor_2 T) S.pas0 (pa_cons (pe_callB call_abs rfl T.n_abs S.boot_abs (pa_cons (pv 1) pa_nil)) (pa_cons (pv 2) pa_nil)) pk_nil rfl rfl))
      (pss_cons (S.ps_slK (K := K) rfl (pv 0) (pe_op op_fdivW (pv 1) (pv 3)) rfl)
      (pss_one (S.ps_slK (K := K) rfl (pv 0) (pe_op op_fdivW (pv 2) (pv 3)) rfl))))))), ?_⟩
  obtain ⟨_, t, b, rfl, p, dx, rfl, hp, ne, ot, ob, bt, bb, k1, k2⟩ := h
  refine ⟨_, rfl, rfl, rfl, t, rfl, _, ot.isi, _, rfl, ?_⟩
  cases c1 : isInt t with
  | false =>
    have e : dueS t b = "top" := by simp [dueS, c1]
    rw [e] at k2
    exact iteT (raise_err (.str "top") (k2 (by decide +kernel)))
  | true =>
    obtain ⟨i, rfl⟩ := isInt_int c1
    refine iteF ⟨_, rfl, rfl, rfl, _, rfl, _, ob.isi, _, rfl, ?_⟩
    have bad : dueS (.int i) b = "bottom" → _ := fun e => k2 (by rw [e]; decide +kernel)
    cases c2 : isInt b with
    | false =>
      have e : dueS (.int i) b = "bottom" := by simp [dueS, c1, c2]
      have z := bad e
      rw [e] at z
      exact iteT (iteT (raise_err (.str "bottom") z))
    | true =>
      obtain ⟨j, rfl⟩ := isInt_int c2
      refine iteF ⟨_, rfl, rfl, _, rfl, ?_⟩
      by_cases c3 : j = 0
      · have e : dueS (.int i) (.int j) = "bottom" := by simp [dueS, c1, c2, c3, intV]
        have z := bad e
        rw [e] at z
        exact iteY (by simp [c3]) (raise_err (.str "bottom") z)
      · refine iteN (by simp [c3]) ⟨fun τ J => J = H ∧ τ = [some (.ref p), some (.int (if j < 0 then -i else i)), some (.int (if j < 0 then -j else j)), none], ?_, ?_⟩
        · refine ⟨_, rfl, _, _, rfl, rfl, _, rfl, ?_⟩
          by_cases c4 : j < 0
          · exact iteY (by simpa using c4) ⟨_, rfl, _, rfl, _, rfl, _, rfl, _, _, rfl, rfl, by rw [if_pos c4, if_pos c4]; rfl⟩
          · exact iteN (by simpa using c4) ⟨rfl, by rw [if_neg c4, if_neg c4]; rfl⟩
        · rintro τ J ⟨rfl, rfl⟩
          have jp : 0 ≤ (if j < 0 then -j else j) := by split <;> omega
          have g0 : gI (if (if j < 0 then -i else i) < 0 then -(if j < 0 then -i else i) else (if j < 0 then -i else i)) (if j < 0 then -j else j) = gI i j := by
            unfold gI
            have e1 : (if (if j < 0 then -i else i) < 0 then -(if j < 0 then -i else i) else (if j < 0 then -i else i)).natAbs = i.natAbs := by split <;> split <;> omega
            have e2 : (if j < 0 then -j else j).natAbs = j.natAbs := by split <;> omega
            rw [e1, e2]
          have gp := gI_pos (t := i) c3
          have gw : (gI i j).natAbs < 2 ^ 4000 := Nat.lt_of_le_of_lt (gI_le c3) bb
          have cw : ∀ x, CDivW x (gI i j) := fun x => wide_div (b := 4000) gp gw (by decide) (by decide)
          refine ⟨_, rfl, _, rfl, _, rfl, rfl, rfl, _, _, rfl, _, _, rfl, rfl, (by split <;> omega), jp, ?_⟩
          rw [g0]
          refine ⟨_, rfl, _, rfl, _, _, rfl, rfl, cw _, _, rfl, p, _, dx, _, _, 1, rfl, .inl ⟨hp, rfl⟩, T.sc_Share, T.sl_Share_top, ?_⟩
          refine ⟨_, rfl, _, rfl, _, _, rfl, rfl, cw _, _, rfl, p, _, dx, _, _, 0, rfl, SlX.slH_slt ne, T.sc_Share, T.sl_Share_bottom, ?_⟩
          refine k1 (by simp [dueS, isInt, intV, c3]) _ (fun c o hc n1 n2 => ?_) ⟨dx, _, SlX.slH_slt ne, ?_, SlX.putS_get _ _ _⟩
          · rw [SlX.slH_ne n1 n2, SlX.slH_ne n1 n2]
            exact hc
          · exact (SlX.putS_ne (by decide)).mpr (SlX.putS_get _ _ _)
def spFloor (K : S.Frag) : Sp := Sp1 fun x H Q _ => ∃ a t b, x = .ref a ∧ ShAt K H a t b ∧ 0 < b ∧ b.natAbs < 2 ^ 4000 ∧ Q (.int (t / b)) H
end
end W

namespace W
open PySem PySem.Spec PyProof.Rows L2
section
variable {P : Program} {w : World} {K : S.Frag} {mg : Str → Option Value} {base : Heap}
open S
/-- a new share of the value t/b -/
def NewS (K : S.Frag) (H : Hp) (t b : Int) (Q : VK) : Prop := ∀ (p : Addr) (H' : Hp) (T B : Int), Same H H' → ShAt K H' p T B → 0 < B → gI T B = 1 → T * b = t * B → T.natAbs ≤ t.natAbs → B.natAbs ≤ b.natAbs → Q (.ref p) H'
theorem mkR {H : Hp} {Q : VK} {E : XK} {t b : Int} {p dx : Addr} (np : H p = none) (ndx : H dx = none) (ne : dx ≠ p) (bt : t.natAbs < 2 ^ 4000) (bb : b.natAbs < 2 ^ 4000) (h : b ≠ 0) (k : NewS K H t b Q) :
    spShare K [.ref p, .int t, .int b] (upd (upd H dx (.own p)) p (.ins (He.ga K "Share") dx [])) (fun v H3 => v = .non ∧ Q (.ref p) H3) E := by
  have s0 : Same H (upd (upd H dx (.own p)) p (.ins (He.ga K "Share") dx [])) := Same.upd (Same.new ndx) np
  have du : dueS (.int t) (.int b) = "" := by simp [dueS, isInt, intV, h]
  exact ⟨_, _, _, rfl, p, dx, rfl, upd_same, ne, .int _, .int _, bt, bb, fun e H' kp hp => ⟨rfl, k p H' _ _ (fun c o hc => kp c o (s0 c o hc) (ne_of_none hc np) (ne_of_none hc ndx)) hp (loB_pos h) (lo_one h) (lo_same h) (lo_leT h) (lo_leB h)⟩, fun e => absurd du e⟩
end
end W

namespace W
open PySem PySem.Spec PyProof.Rows L2
section
variable {P : Program} {w : World} {K : S.Frag} {mg : Str → Option Value} {base : Heap}
open S
/-- a share u/v, or the integer u -/
def NumAt (K : S.Frag) (H : Hp) (x : V) (u v : Int) : Prop := (∃ c, x = .ref c ∧ ShAt K H c u v) ∨ (x = .int u ∧ v = 1)
theorem NumAt.same {H H' : Hp} {x : V} {u v : Int} (h : NumAt K H x u v) (s : Same H H') : NumAt K H' x u v := by
  rcases h with ⟨c, e, h⟩ | h
  · exact .inl ⟨c, e, h.same s⟩
  · exact .inr h
def spIsN (K : S.Frag) : Sp := Sp1 fun x H Q _ => ∃ u v, NumAt K H x u v ∧ Q (.bl true) H
theorem ok_is_number (T : Txt K mg) : FnOk P w K mg base (L2.CX P w) 2 (He.fAd K ("is_number", none)) (S.fdA K ("is_number", none)) ["value"] (spIsN K) := by
  have G_is_integer := ok_is_integer (P := P) (w := w) (base := base) T
  refine FunD.ok T.F_is_number sc_is_number (fun vs H Q E h => S.splen1 h) (fun cdv A outer s H vs Q E hr h => ?_)
  have hu := hu_of hr
  refine ⟨_, (pss_one (ps_ret (pe_or (pe_callB (S.isi2K (K := K) rfl (He.ga K "Share")) rfl T.n_isinstance S.boot_isinstance (pa_cons (pv 0) (pa_cons (pe_glob (v := .ref _) rfl T.g_Share rfl) pa_nil))) (pe_one (S.pe_fnS G_is_integer (hr.mono (by decide)) rfl T.g_is_integer T.F_is_integer.kp (kb_is_integer_1 T) S.pas0 (pa_cons (pv 0) pa_nil) pk_nil rfl rfl))))), ?_⟩
  obtain ⟨x, rfl, u, v, hx, q⟩ := h
  rcases hx with ⟨c, rfl, dx, vs, hs, h0, h1⟩ | ⟨rfl, rfl⟩
  · exact ⟨_, rfl, .inl ⟨c, _, dx, vs, _, true, rfl, rfl, (fun _ z => z), hs, T.sc_Share, T.si_Share, T.ko_Share_Share, _, rfl, q⟩⟩
  · exact ⟨_, rfl, .inr ⟨_, _, _, _, false, rfl, .own _, isi_true, T.kb_Share_int, _, rfl, _, rfl, rfl, rfl, _, rfl, true, .int u, q⟩⟩
def spTop (K : S.Frag) : Sp := Sp1 fun x H Q _ => ∃ u v, NumAt K H x u v ∧ Q (.int u) H
theorem ok_top_of (T : Txt K mg) : FnOk P w K mg base (L2.CX P w) 1 (He.fAd K ("top_of", none)) (S.fdA K ("top_of", none)) ["value"] (spTop K) := by
  refine FunD.ok T.F_top_of sc_top_of (fun vs H Q E h => S.splen1 h) (fun cdv A outer s H vs Q E hr h => ?_)
  have hu := hu_of hr
  refine ⟨_, (pss_cons (ps_if (pt_val (pe_callB (S.isi2K (K := K) rfl (He.ga K "Share")) rfl T.n_isinstance S.boot_isinstance (pa_cons (pv 0) (pa_cons (pe_glob (v := .ref _) rfl T.g_Share rfl) pa_nil)))) (pss_one (ps_ret (S.pe_slK (K := K) rfl (pv 0) rfl))) pss_nil)
      (pss_one (ps_ret (pv 0)))), ?_⟩
  obtain ⟨x, rfl, u, v, hx, q⟩ := h
  rcases hx with ⟨c, rfl, dx, vs, hs, h0, h1⟩ | ⟨rfl, rfl⟩
  · exact ⟨_, rfl, .inl ⟨c, _, dx, vs, _, true, rfl, rfl, (fun _ z => z), hs, T.sc_Share, T.si_Share, T.ko_Share_Share, _, rfl, iteT ⟨_, rfl, c, _, dx, _, vs, 1, _, rfl, hs, T.sc_Share, T.sl_Share_top, h0, q⟩⟩⟩
  · exact ⟨_, rfl, .inr ⟨_, _, _, _, false, rfl, .own _, isi_true, T.kb_Share_int, _, rfl, iteF ⟨_, rfl, q⟩⟩⟩
def spBot (K : S.Frag) : Sp := Sp1 fun x H Q _ => ∃ u v, NumAt K H x u v ∧ Q (.int v) H
theorem ok_bottom_of (T : Txt K mg) : FnOk P w K mg base (L2.CX P w) 1 (He.fAd K ("bottom_of", none)) (S.fdA K ("bottom_of", none)) ["value"] (spBot K) := by
  refine FunD.ok T.F_bottom_of sc_bottom_of (fun vs H Q E h => S.splen1 h) (fun cdv A outer s H vs Q E hr h => ?_)
  have hu := hu_of hr
  refine ⟨_, (pss_cons (ps_if (pt_val (pe_callB (S.isi2K (K := K) rfl (He.ga K "Share")) rfl T.n_isinstance S.boot_isinstance (pa_cons (pv 0) (pa_cons (pe_glob (v := .ref _) rfl T.g_Share rfl) pa_nil)))) (pss_one (ps_ret (S.pe_slK (K := K) rfl (pv 0) rfl))) pss_nil)
      (pss_one (ps_ret pe_int))), ?_⟩
  obtain ⟨x, rfl, u, v, hx, q⟩ := h
  rcases hx with ⟨c, rfl, dx, vs, hs, h0, h1⟩ | ⟨rfl, rfl⟩
  · exact ⟨_, rfl, .inl ⟨c, _, dx, vs, _, true, rfl, rfl, (fun _ z => z), hs, T.sc_Share, T.si_Share, T.ko_Share_Share, _, rfl, iteT ⟨_, rfl, c, _, dx, _, vs, 0, _, rfl, hs, T.sc_Share, T.sl_Share_bottom, h1, q⟩⟩⟩
  · exact ⟨_, rfl, .inr ⟨_, _, _, _, false, rfl, .own _, isi_true, T.kb_Share_int, _, rfl, iteF q⟩⟩
def sm (n : Int) : Prop := n.natAbs < 2 ^ 1000
theorem sm.mul {i j : Int} (a : sm i) (b : sm j) : (i * j).natAbs < 2 ^ 2000 := wide_lt (a := 1000) (b := 1000) a b
theorem sm.cm {i j : Int} (a : sm i) (b : sm j) : CMulA i j := .inr (wide_mul (a := 1000) (b := 1000) a b (by decide) (by decide) (by decide))
theorem b4 {n : Nat} (h : n < 2 ^ 2000) : n < 2 ^ 4000 := Nat.lt_of_lt_of_le h (Nat.pow_le_pow_right (by decide) (by decide))
theorem b4a {i j : Int} (a : i.natAbs < 2 ^ 2000) (b : j.natAbs < 2 ^ 2000) : (i + j).natAbs < 2 ^ 4000 := by
  have : (i + j).natAbs ≤ i.natAbs + j.natAbs := Int.natAbs_add_le i j
  have e : (2 : Nat) ^ 2001 = 2 ^ 2000 + 2 ^ 2000 := by rw [Nat.pow_succ]; omega
  have f : (2 : Nat) ^ 2001 ≤ 2 ^ 4000 := Nat.pow_le_pow_right (by decide) (by decide)
  omega
theorem b4s {i j : Int} (a : i.natAbs < 2 ^ 2000) (b : j.natAbs < 2 ^ 2000) : (i - j).natAbs < 2 ^ 4000 := by
  rw [Int.sub_eq_add_neg]
  exact b4a a (by rw [Int.natAbs_neg]; exact b)
theorem nz {b v : Int} (h1 : 0 < b) (h2 : 0 < v) : b * v ≠ 0 := Int.ne_of_gt (Int.mul_pos h1 h2)
def spBin (K : S.Frag) (p q : Int → Int → Int → Int → Int) : Sp := Sp2 fun x y H Q _ => ∃ a t b u v, x = .ref a ∧ ShAt K H a t b ∧ NumAt K H y u v ∧ 0 < b ∧ 0 < v ∧ sm t ∧ sm b ∧ sm u ∧ sm v ∧ NewS K H (p t b u v) (q t b u v) Q
def q1 (_ b _ v : Int) : Int := b * v
def pAdd (t b u v : Int) : Int := t * v + u * b
def pRadd (t b u v : Int) : Int := u * b + t * v
def pSub (t b u v : Int) : Int := t * v - u * b
def pRsub (t b u v : Int) : Int := u * b - t * v
def pMul (t _ u _ : Int) : Int := t * u
def pRmul (t _ u _ : Int) : Int := u * t
def q2 (_ b _ v : Int) : Int := v * b

def spQuo (K : S.Frag) (z p q : Int → Int → Int → Int → Int) : Sp := Sp2 fun x y H Q E => ∃ a t b u v, x = .ref a ∧ ShAt K H a t b ∧ NumAt K H y u v ∧ 0 < b ∧ 0 < v ∧ sm t ∧ sm b ∧ sm u ∧ sm v ∧
  (z t b u v ≠ 0 → Q (.int ((p t b u v).fdiv (q t b u v))) H) ∧ (z t b u v = 0 → E (.ref (He.ga K "NoShare")) none H)
def spOver (K : S.Frag) : Sp := Sp2 fun x y H Q E => ∃ a t b u v, x = .ref a ∧ ShAt K H a t b ∧ NumAt K H y u v ∧ 0 < b ∧ 0 < v ∧ sm t ∧ sm b ∧ sm u ∧ sm v ∧
  (u ≠ 0 → NewS K H (t * v) (b * u) Q) ∧ (u = 0 → E (.ref (He.ga K "NoShare")) none H)
def zU (_ _ u _ : Int) : Int := u
def zT (t _ _ _ : Int) : Int := t
def pTV (t _ _ v : Int) : Int := t * v
def pBU (_ b u _ : Int) : Int := b * u
def pUB (_ b u _ : Int) : Int := u * b
def pVT (t _ _ v : Int) : Int := v * t
theorem fdn {i j : Int} (a : sm i) (b : sm j) (h1 : i ≠ 0) (h2 : j ≠ 0) {x : Int} : S.CDivN x (i * j) := ⟨Int.mul_ne_zero h1 h2, Nat.lt_trans (PySem.Flt.log2_lt_of (by decide) (sm.mul a b)) (by decide)⟩
def spUn (K : S.Frag) (p : Int → Int) : Sp := Sp1 fun x H Q _ => ∃ a t b, x = .ref a ∧ ShAt K H a t b ∧ 0 < b ∧ sm t ∧ sm b ∧ NewS K H (p t) b Q
end
end W

namespace W
open PySem PySem.Spec PyProof.Rows L2
section
variable {P : Program} {w : World} {K : S.Frag} {mg : Str → Option Value} {base : Heap}
open S
/-! shares are compared: among themselves, with integers, with other things -/
theorem op_cmpBK {X : Cx} {n k : Nat} {C f g : Addr} {sp spR : Sp} {op : CmpOp} {idl : String} {B : Builtin} (hP : X.prog = P) (hw : X.w = w) (hK : X.K = K) (hm : X.mg = mg) (hb : X.base = base) (c : IntCmp op idl B) (hs : PySem.W.findIn K (.ref C) (cmpInfo op).2.1 = some (some (.ref f))) (hf : PySem.W.isFn K (.ref f) = true)
    (F : FnR P w K mg base (L2.CX P w) n f sp) (hsR : PySem.W.findIn K (.ref C) (cmpInfo op).2.2 = some (some (.ref g))) (hg : PySem.W.isFn K (.ref g) = true) (G : FnR P w K mg base (L2.CX P w) k g spR)
    (hsub : PySem.W.subIn K (.ref C) (.type "int") = some false) (hr : Room n X.A) (hr2 : Room k X.A) : OpR X (compareOp op) (rCmpB K C sp spR) := by
  subst hP hw hK hm hb
  exact S.op_cmpB c hs hf F hsR hg G hsub hr hr2
theorem op_neBK {X : Cx} {n : Nat} {C g : Addr} {sp : Sp} (hP : X.prog = P) (hw : X.w = w) (hK : X.K = K) (hm : X.mg = mg) (hb : X.base = base) (hne : PySem.W.findIn K (.ref C) "__ne__" = some (some (.builtin "object.__ne__"))) (ho : PySem.W.mroIn K C (.type "object") = some true)
    (hs : PySem.W.findIn K (.ref C) "__eq__" = some (some (.ref g))) (hf : PySem.W.isFn K (.ref g) = true) (hsub : PySem.W.subIn K (.ref C) (.type "int") = some false)
    (F : FnR P w K mg base (L2.CX P w) n g sp) (hr : Room (n + 1) X.A) : OpR X (compareOp .NotEq) (rNeB K C sp) := by
  subst hP hw hK hm hb
  exact S.op_neB hne ho hs hf hsub F hr
theorem op_eqNK {X : Cx} {k : Nat} {C g : Addr} {fd : FuncData} {ps : List Str} {cond : List V → Hp → Prop} (hP : X.prog = P) (hw : X.w = w) (hK : X.K = K) (hm : X.mg = mg) (hb : X.base = base) (hs : PySem.W.findIn K (.ref C) "__eq__" = some (some (.ref g))) (hf : PySem.W.isFn K (.ref g) = true) (c : Six K C) (F : FnN P w K mg base k g fd ps cond) (hB : L2.Binds K fd ps []) (hr : Room k X.A) : OpR X (compareOp .Eq) (rEqN C cond) := by
  subst hP hw hK hm hb
  exact S.op_eqN hs hf c F hB hr
theorem op_neNK {X : Cx} {k : Nat} {C g : Addr} {fd : FuncData} {ps : List Str} {cond : List V → Hp → Prop} (hP : X.prog = P) (hw : X.w = w) (hK : X.K = K) (hm : X.mg = mg) (hb : X.base = base) (hne : PySem.W.findIn K (.ref C) "__ne__" = some (some (.builtin "object.__ne__"))) (ho : PySem.W.mroIn K C (.type "object") = some true) (hs : PySem.W.findIn K (.ref C) "__eq__" = some (some (.ref g))) (hf : PySem.W.isFn K (.ref g) = true) (c : Six K C) (F : FnN P w K mg base k g fd ps cond) (hB : L2.Binds K fd ps []) (hr : Room (k + 1) X.A) : OpR X (compareOp .NotEq) (rNeN C cond) := by
  subst hP hw hK hm hb
  exact S.op_neN hne ho hs hf c F hB hr
theorem op_inBK {X : Cx} {n k : Nat} {C g : Addr} {fd : FuncData} {ps : List Str} {sp : Sp} {cond : List V → Hp → Prop} (hP : X.prog = P) (hw : X.w = w) (hK : X.K = K) (hm : X.mg = mg) (hb : X.base = base) (hs : PySem.W.findIn K (.ref C) "__eq__" = some (some (.ref g))) (hf : PySem.W.isFn K (.ref g) = true) (c : Six K C) (G : FnR P w K mg base (L2.CX P w) n g sp) (F : FnN P w K mg base k g fd ps cond) (hB : L2.Binds K fd ps []) (hr : Room (n + 2) X.A) (hr2 : Room (k + 2) X.A) : OpR X (compareOp .In) (rInB C sp cond) := by
  subst hP hw hK hm hb
  exact S.op_inB hs hf c G F hB hr hr2
def One (x y : V) : Prop := (∃ c, x = .ref c) ∨ ∃ c, y = .ref c
theorem low {T B S c : Int} (hB : 0 < B) (hc : 0 < c) (g : gI T B = 1) (e : T * c = S * B) : ∃ k, 0 < k ∧ c = B * k ∧ S = T * k := by
  have g1 : Nat.gcd T.natAbs B.natAbs = 1 := by unfold gI at g; omega
  have d1 : B ∣ T * c := ⟨S, by rw [e, Int.mul_comm]⟩
  have d2 : B.natAbs ∣ T.natAbs * c.natAbs := by rw [← Int.natAbs_mul]; exact Int.natAbs_dvd_natAbs.mpr d1
  have d3 : B.natAbs ∣ c.natAbs := Nat.Coprime.dvd_of_dvd_mul_left (show Nat.gcd B.natAbs T.natAbs = 1 by rw [Nat.gcd_comm]; exact g1) d2
  obtain ⟨k, hk⟩ := Int.natAbs_dvd_natAbs.mp d3
  have kp : 0 < k := by
    refine Int.pos_of_mul_pos_left (b := B) ?_ hB
    rw [Int.mul_comm, ← hk]; exact hc
  refine ⟨k, kp, hk, ?_⟩
  refine (Int.eq_of_mul_eq_mul_right (Int.ne_of_gt hB) ?_).symm
  rw [← e, hk]
  grind
theorem frac_lt {t b u v S c S' c' : Int} (hb : 0 < b) (hv : 0 < v) (hc : 0 < c) (hc' : 0 < c') (e : t * c = S * b) (e' : u * c' = S' * v) : t * v < u * b ↔ S * c' < S' * c := by
  have p1 : 0 < c * c' := Int.mul_pos hc hc'
  have p2 : 0 < b * v := Int.mul_pos hb hv
  have f : t * v * (c * c') = S * c' * (b * v) := by
    rw [show t * v * (c * c') = t * c * (v * c') by grind, e]
    grind
  have g : u * b * (c * c') = S' * c * (b * v) := by
    rw [show u * b * (c * c') = u * c' * (b * c) by grind, e']
    grind
  rw [← Int.mul_lt_mul_right p1, f, g, Int.mul_lt_mul_right p2]
theorem frac_eq {t b u v S c S' c' : Int} (hb : 0 < b) (hv : 0 < v) (hc : 0 < c) (hc' : 0 < c') (g1 : gI t b = 1) (g2 : gI u v = 1) (e : t * c = S * b) (e' : u * c' = S' * v) : (t = u ∧ b = v) ↔ S * c' = S' * c := by
  have p1 : 0 < c * c' := Int.mul_pos hc hc'
  have p2 : 0 < b * v := Int.mul_pos hb hv
  have f : t * v * (c * c') = S * c' * (b * v) := by
    rw [show t * v * (c * c') = t * c * (v * c') by grind, e]
    grind
  have g : u * b * (c * c') = S' * c * (b * v) := by
    rw [show u * b * (c * c') = u * c' * (b * c) by grind, e']
    grind
  constructor
  · rintro ⟨rfl, rfl⟩
    refine Int.eq_of_mul_eq_mul_right (Int.ne_of_gt p2) ?_
    rw [← f, ← g]
  · intro h
    have k : t * v = u * b := Int.eq_of_mul_eq_mul_right (Int.ne_of_gt p1) (by rw [f, g, h])
    obtain ⟨z, zp, z1, z2⟩ := low hb hv g1 (S := u) (c := v) k
    obtain ⟨y, yp, y1, y2⟩ := low hv hb g2 (S := t) (c := b) k.symm
    have o : z = 1 := by
      have : b * (z * y - 1) = 0 := by rw [z1] at y1; grind
      have zy : z * y = 1 := by
        rcases Int.mul_eq_zero.mp this with h | h <;> omega
      exact Int.eq_one_of_mul_eq_one_right (Int.le_of_lt zp) zy
    subst o
    exact ⟨by rw [z2, Int.mul_one], by rw [z1, Int.mul_one]⟩
def spEqS (K : S.Frag) : Sp := Sp2 fun x y H Q _ => ∃ a t b u v, x = .ref a ∧ ShAt K H a t b ∧ NumAt K H y u v ∧ Q (.bl (decide (t = u) && decide (b = v))) H
theorem ok_Share___eq__ (T : Txt K mg) : FnOk P w K mg base (L2.CX P w) 3 (He.fAd K ("Share", some "__eq__")) (S.fdA K ("Share", some "__eq__")) ["self", "other"] (spEqS K) := by
  have G_is_number := ok_is_number (P := P) (w := w) (base := base) T
  have G_top_of := ok_top_of (P := P) (w := w) (base := base) T
  have G_bottom_of := ok_bottom_of (P := P) (w := w) (base := base) T
  refine FunD.ok T.F_Share___eq__ sc_Share___eq__ (fun vs H Q E h => S.splen2 h) (fun cdv A outer s H vs Q E hr h => ?_)
  have hu := hu_of hr
  refine ⟨_, (pss_cons (ps_if (pt_not (pt_val (S.pe_fnS G_is_number (hr.mono (by decide)) rfl T.g_is_number T.F_is_number.kp (kb_is_number_1 T) S.pas0 (pa_cons (pv 1) pa_nil) pk_nil rfl rfl))) (pss_one S.ps_never) pss_nil)
      (pss_one (ps_ret (pe_and (pe_cmpR op_eq (S.pe_slK (K := K) rfl (pv 0) rfl) (S.pe_fnS G_top_of (hr.mono (by decide)) rfl T.g_top_of T.F_top_of.kp (kb_top_of_1 T) S.pas0 (pa_cons (pv 1) pa_nil) pk_nil rfl rfl) (nomark _)) (pe_one (pe_cmpR op_eq (S.pe_slK (K := K) rfl (pv 0) rfl) (S.pe_fnS G_bottom_of (hr.mono (by decide)) rfl T.g_bottom_of T.F_bottom_of.kp (kb_bottom_of_1 T) S.pas0 (pa_cons (pv 1) pa_nil) pk_nil rfl rfl) (nomark _))))))), ?_⟩
  obtain ⟨_, _, rfl, a, t, b, u, v, rfl, ⟨dx, vs, hs, h0, h1⟩, hy, q⟩ := h
  refine ⟨_, rfl, rfl, rfl, _, rfl, u, v, hy, _, rfl, iteF ?_⟩
  refine ⟨_, rfl, a, _, dx, _, vs, 1, _, rfl, hs, T.sc_Share, T.sl_Share_top, h0, _, rfl, rfl, rfl, _, rfl, u, v, hy, rfl, _, rfl, ?_⟩
  by_cases c : t = u
  · refine iteY (by simp [c]) ⟨_, rfl, a, _, dx, _, vs, 0, _, rfl, hs, T.sc_Share, T.sl_Share_bottom, h1, _, rfl, rfl, rfl, _, rfl, u, v, hy, rfl, ?_⟩
    simpa [c] using q
  · refine iteN (by simp [c]) ?_
    simpa [c] using q
def spLtS (K : S.Frag) : Sp := Sp2 fun x y H Q _ => ∃ a t b u v, x = .ref a ∧ ShAt K H a t b ∧ NumAt K H y u v ∧ sm t ∧ sm b ∧ sm u ∧ sm v ∧ Q (.bl (decide (t * v < u * b))) H
theorem ok_Share___lt__ (T : Txt K mg) : FnOk P w K mg base (L2.CX P w) 3 (He.fAd K ("Share", some "__lt__")) (S.fdA K ("Share", some "__lt__")) ["self", "other"] (spLtS K) := by
  have G_is_number := ok_is_number (P := P) (w := w) (base := base) T
  have G_bottom_of := ok_bottom_of (P := P) (w := w) (base := base) T
  have G_top_of := ok_top_of (P := P) (w := w) (base := base) T
  refine FunD.ok T.F_Share___lt__ sc_Share___lt__ (fun vs H Q E h => S.splen2 h) (fun cdv A outer s H vs Q E hr h => ?_)
  have hu := hu_of hr
  refine ⟨_, (pss_cons (ps_if (pt_not (pt_val (S.pe_fnS G_is_number (hr.mono (by decide)) rfl T.g_is_number T.F_is_number.kp (kb_is_number_1 T) S.pas0 (pa_cons (pv 1) pa_nil) pk_nil rfl rfl))) (pss_one S.ps_never) pss_nil)
      (pss_one (ps_ret (pe_cmpR op_lt (pe_op S.op_mulA (S.pe_slK (K := K) rfl (pv 0) rfl) (S.pe_fnS G_bottom_of (hr.mono (by decide)) rfl T.g_bottom_of T.F_bottom_of.kp (kb_bottom_of_1 T) S.pas0 (pa_cons (pv 1) pa_nil) pk_nil rfl rfl)) (pe_op S.op_mulA (S.pe_fnS G_top_of (hr.mono (by decide)) rfl T.g_top_of T.F_top_of.kp (kb_top_of_1 T) S.pas0 (pa_cons (pv 1) pa_nil) pk_nil rfl rfl) (S.pe_slK (K := K) rfl (pv 0) rfl)) (nomark _))))), ?_⟩
  obtain ⟨_, _, rfl, a, t, b, u, v, rfl, ⟨dx, vs, hs, h0, h1⟩, hy, st, sb, su, sv, q⟩ := h
  refine ⟨_, rfl, rfl, rfl, _, rfl, u, v, hy, _, rfl, iteF ?_⟩
  refine ⟨_, rfl, a, _, dx, _, vs, 1, _, rfl, hs, T.sc_Share, T.sl_Share_top, h0, _, rfl, rfl, rfl, _, rfl, u, v, hy, _, _, rfl, rfl, st.cm sv, ?_⟩
  exact ⟨_, rfl, rfl, rfl, _, rfl, u, v, hy, _, rfl, a, _, dx, _, vs, 0, _, rfl, hs, T.sc_Share, T.sl_Share_bottom, h1, _, _, rfl, rfl, su.cm sb, _, _, rfl, rfl, q⟩
def spLeS (K : S.Frag) : Sp := Sp2 fun x y H Q _ => ∃ a t b u v, x = .ref a ∧ ShAt K H a t b ∧ NumAt K H y u v ∧ sm t ∧ sm b ∧ sm u ∧ sm v ∧ Q (.bl (decide (t * v ≤ u * b))) H
theorem ok_Share___le__ (T : Txt K mg) : FnOk P w K mg base (L2.CX P w) 3 (He.fAd K ("Share", some "__le__")) (S.fdA K ("Share", some "__le__")) ["self", "other"] (spLeS K) := by
  have G_is_number := ok_is_number (P := P) (w := w) (base := base) T
  have G_bottom_of := ok_bottom_of (P := P) (w := w) (base := base) T
  have G_top_of := ok_top_of (P := P) (w := w) (base := base) T
  refine FunD.ok T.F_Share___le__ sc_Share___le__ (fun vs H Q E h => S.splen2 h) (fun cdv A outer s H vs Q E hr h => ?_)
  have hu := hu_of hr
  refine ⟨_, (pss_cons (ps_if (pt_not (pt_val (S.pe_fnS G_is_number (hr.mono (by decide)) rfl T.g_is_number T.F_is_number.kp (kb_is_number_1 T) S.pas0 (pa_cons (pv 1) pa_nil) pk_nil rfl rfl))) (pss_one S.ps_never) pss_nil)
      (pss_one (ps_ret (pe_cmpR op_le (pe_op S.op_mulA (S.pe_slK (K := K) rfl (pv 0) rfl) (S.pe_fnS G_bottom_of (hr.mono (by decide)) rfl T.g_bottom_of T.F_bottom_of.kp (kb_bottom_of_1 T) S.pas0 (pa_cons (pv 1) pa_nil) pk_nil rfl rfl)) (pe_op S.op_mulA (S.pe_fnS G_top_of (hr.mono (by decide)) rfl T.g_top_of T.F_top_of.kp (kb_top_of_1 T) S.pas0 (pa_cons (pv 1) pa_nil) pk_nil rfl rfl) (S.pe_slK (K := K) rfl (pv 0) rfl)) (nomark _))))), ?_⟩
  obtain ⟨_, _, rfl, a, t, b, u, v, rfl, ⟨dx, vs, hs, h0, h1⟩, hy, st, sb, su, sv, q⟩ := h
  refine ⟨_, rfl, rfl, rfl, _, rfl, u, v, hy, _, rfl, iteF ?_⟩
  refine ⟨_, rfl, a, _, dx, _, vs, 1, _, rfl, hs, T.sc_Share, T.sl_Share_top, h0, _, rfl, rfl, rfl, _, rfl, u, v, hy, _, _, rfl, rfl, st.cm sv, ?_⟩
  exact ⟨_, rfl, rfl, rfl, _, rfl, u, v, hy, _, rfl, a, _, dx, _, vs, 0, _, rfl, hs, T.sc_Share, T.sl_Share_bottom, h1, _, _, rfl, rfl, su.cm sb, _, _, rfl, rfl, q⟩
def spGtS (K : S.Frag) : Sp := Sp2 fun x y H Q _ => ∃ a t b u v, x = .ref a ∧ ShAt K H a t b ∧ NumAt K H y u v ∧ sm t ∧ sm b ∧ sm u ∧ sm v ∧ Q (.bl (decide (u * b < t * v))) H
theorem ok_Share___gt__ (T : Txt K mg) : FnOk P w K mg base (L2.CX P w) 3 (He.fAd K ("Share", some "__gt__")) (S.fdA K ("Share", some "__gt__")) ["self", "other"] (spGtS K) := by
  have G_is_number := ok_is_number (P := P) (w := w) (base := base) T
  have G_bottom_of := ok_bottom_of (P := P) (w := w) (base := base) T
  have G_top_of := ok_top_of (P := P) (w := w) (base := base) T
  refine FunD.ok T.F_Share___gt__ sc_Share___gt__ (fun vs H Q E h => S.splen2 h) (fun cdv A outer s H vs Q E hr h => ?_)
  have hu := hu_of hr
  refine ⟨_, (pss_cons (ps_if (pt_not (pt_val (S.pe_fnS G_is_number (hr.mono (by decide)) rfl T.g_is_number T.F_is_number.kp (kb_is_number_1 T) S.pas0 (pa_cons (pv 1) pa_nil) pk_nil rfl rfl))) (pss_one S.ps_never) pss_nil)
      (pss_one (ps_ret (pe_cmpR op_gt (pe_op S.op_mulA (S.pe_slK (K := K) rfl (pv 0) rfl) (S.pe_fnS G_bottom_of (hr.mono (by decide)) rfl T.g_bottom_of T.F_bottom_of.kp (kb_bottom_of_1 T) S.pas0 (pa_cons (pv 1) pa_nil) pk_nil rfl rfl)) (pe_op S.op_mulA (S.pe_fnS G_top_of (hr.mono (by decide)) rfl T.g_top_of T.F_top_of.kp (kb_top_of_1 T) S.pas0 (pa_cons (pv 1) pa_nil) pk_nil rfl rfl) (S.pe_slK (K := K) rfl (pv 0) rfl)) (nomark _))))), ?_⟩
  obtain ⟨_, _, rfl, a, t, b, u, v, rfl, ⟨dx, vs, hs, h0, h1⟩, hy, st, sb, su, sv, q⟩ := h
  refine ⟨_, rfl, rfl, rfl, _, rfl, u, v, hy, _, rfl, iteF ?_⟩
  refine ⟨_, rfl, a, _, dx, _, vs, 1, _, rfl, hs, T.sc_Share, T.sl_Share_top, h0, _, rfl, rfl, rfl, _, rfl, u, v, hy, _, _, rfl, rfl, st.cm sv, ?_⟩
  exact ⟨_, rfl, rfl, rfl, _, rfl, u, v, hy, _, rfl, a, _, dx, _, vs, 0, _, rfl, hs, T.sc_Share, T.sl_Share_bottom, h1, _, _, rfl, rfl, su.cm sb, _, _, rfl, rfl, q⟩
def spGeS (K : S.Frag) : Sp := Sp2 fun x y H Q _ => ∃ a t b u v, x = .ref a ∧ ShAt K H a t b ∧ NumAt K H y u v ∧ sm t ∧ sm b ∧ sm u ∧ sm v ∧ Q (.bl (decide (u * b ≤ t * v))) H
theorem ok_Share___ge__ (T : Txt K mg) : FnOk P w K mg base (L2.CX P w) 3 (He.fAd K ("Share", some "__ge__")) (S.fdA K ("Share", some "__ge__")) ["self", "other"] (spGeS K) := by
  have G_is_number := ok_is_number (P := P) (w := w) (base := base) T
  have G_bottom_of := ok_bottom_of (P := P) (w := w) (base := base) T
  have G_top_of := ok_top_of (P := P) (w := w) (base := base) T
  refine FunD.ok T.F_Share___ge__ sc_Share___ge__ (fun vs H Q E h => S.splen2 h) (fun cdv A outer s H vs Q E hr h => ?_)
  have hu := hu_of hr
  refine ⟨_, (pss_cons (ps_if (pt_not (pt_val (S.pe_fnS G_is_number (hr.mono (by decide)) rfl T.g_is_number T.F_is_number.kp (kb_is_number_1 T) S.pas0 (pa_cons (pv 1) pa_nil) pk_nil rfl rfl))) (pss_one S.ps_never) pss_nil)
      (pss_one (ps_ret (pe_cmpR op_ge (pe_op S.op_mulA (S.pe_slK (K := K) rfl (pv 0) rfl) (S.pe_fnS G_bottom_of (hr.mono (by decide)) rfl T.g_bottom_of T.F_bottom_of.kp (kb_bottom_of_1 T) S.pas0 (pa_cons (pv 1) pa_nil) pk_nil rfl rfl)) (pe_op S.op_mulA (S.pe_fnS G_top_of (hr.mono (by decide)) rfl T.g_top_of T.F_top_of.kp (kb_top_of_1 T) S.pas0 (pa_cons (pv 1) pa_nil) pk_nil rfl rfl) (S.pe_slK (K := K) rfl (pv 0) rfl)) (nomark _))))), ?_⟩
  obtain ⟨_, _, rfl, a, t, b, u, v, rfl, ⟨dx, vs, hs, h0, h1⟩, hy, st, sb, su, sv, q⟩ := h
  refine ⟨_, rfl, rfl, rfl, _, rfl, u, v, hy, _, rfl, iteF ?_⟩
  refine ⟨_, rfl, a, _, dx, _, vs, 1, _, rfl, hs, T.sc_Share, T.sl_Share_top, h0, _, rfl, rfl, rfl, _, rfl, u, v, hy, _, _, rfl, rfl, st.cm sv, ?_⟩
  exact ⟨_, rfl, rfl, rfl, _, rfl, u, v, hy, _, rfl, a, _, dx, _, vs, 0, _, rfl, hs, T.sc_Share, T.sl_Share_bottom, h1, _, _, rfl, rfl, su.cm sb, _, _, rfl, rfl, q⟩
def spIsNO (K : S.Frag) : Sp := Sp1 fun x H Q _ => OddV H x ∧ Q (.bl false) H
theorem ok_is_number_O (T : Txt K mg) : FnOk P w K mg base (L2.CX P w) 2 (He.fAd K ("is_number", none)) (S.fdA K ("is_number", none)) ["value"] ((spIsNO K)) := by
  have G_is_integer := ok_is_integer (P := P) (w := w) (base := base) T
  refine FunD.ok T.F_is_number sc_is_number (fun vs H Q E h => S.splen1 h) (fun cdv A outer s H vs Q E hr h => ?_)
  have hu := hu_of hr
  refine ⟨_, (pss_one (ps_ret (pe_or (pe_callB (S.isi2K (K := K) rfl (He.ga K "Share")) rfl T.n_isinstance S.boot_isinstance (pa_cons (pv 0) (pa_cons (pe_glob (v := .ref _) rfl T.g_Share rfl) pa_nil))) (pe_one (S.pe_fnS G_is_integer (hr.mono (by decide)) rfl T.g_is_integer T.F_is_integer.kp (kb_is_integer_1 T) S.pas0 (pa_cons (pv 0) pa_nil) pk_nil rfl rfl))))), ?_⟩
  obtain ⟨x, rfl, hx, q⟩ := h
  cases hx with
  | non => exact ⟨_, rfl, .inr ⟨_, _, _, _, false, rfl, .own _, .base .non, T.kb_Share_NoneType, _, rfl, _, rfl, rfl, rfl, _, rfl, false, Od.isi .non, q⟩⟩
  | bl b => exact ⟨_, rfl, .inr ⟨_, _, _, _, false, rfl, .own _, .base (.bl b), T.kb_Share_bool, _, rfl, _, rfl, rfl, rfl, _, rfl, false, Od.isi (.bl b), q⟩⟩
  | str z => exact ⟨_, rfl, .inr ⟨_, _, _, _, false, rfl, .own _, .base (.str z), T.kb_Share_str, _, rfl, _, rfl, rfl, rfl, _, rfl, false, Od.isi (.str z), q⟩⟩
  | tup h => exact ⟨_, rfl, .inr ⟨_, _, _, _, false, rfl, .own _, .base (.tup h), T.kb_Share_tuple, _, rfl, _, rfl, rfl, rfl, _, rfl, false, Od.isi (.tup h), q⟩⟩
  | lst h => exact ⟨_, rfl, .inr ⟨_, _, _, _, false, rfl, .own _, .base (.lst h), T.kb_Share_list, _, rfl, _, rfl, rfl, rfl, _, rfl, false, Od.isi (.lst h), q⟩⟩
  | dK h => exact ⟨_, rfl, .inr ⟨_, _, _, _, false, rfl, .own _, .base (.dK h), T.kb_Share_dict, _, rfl, _, rfl, rfl, rfl, _, rfl, false, Od.isi (.dK h), q⟩⟩
/-- == answers NotImplemented beside these -/
def condN : List V → Hp → Prop := fun vs H => ∃ x y, vs = [x, y] ∧ OddV H y
theorem ok_Share___eq___N (T : Txt K mg) : S.FnN P w K mg base 3 (He.fAd K ("Share", some "__eq__")) (S.fdA K ("Share", some "__eq__")) ["self", "other"] condN := by
  have G_is_number := ok_is_number_O (P := P) (w := w) (base := base) T
  refine S.FunD.okN T.F_Share___eq__ sc_Share___eq__ rfl T.n_NotImplemented (fun vs H h => by obtain ⟨_, _, rfl, _⟩ := h; rfl) (fun cdv A outer s H vs hr h => ?_)
  have hu := hu_of hr
  refine ⟨rfl, _, (pt_not (pt_val (S.pe_fnS G_is_number (hr.mono (by decide)) rfl T.g_is_number T.F_is_number.kp (kb_is_number_1 T) S.pas0 (pa_cons (pv 1) pa_nil) pk_nil rfl rfl))), ?_⟩
  obtain ⟨x, y, rfl, hy⟩ := h
  exact ⟨_, rfl, rfl, rfl, _, rfl, hy, _, rfl, rfl, rfl⟩
/-! the six comparisons of two whole numbers -/
def six (p q : Int) : List V := [.bl (decide (p = q)), .bl (!decide (p = q)), .bl (decide (p < q)), .bl (decide (p ≤ q)), .bl (decide (q < p)), .bl (decide (q ≤ p))]
theorem six_eq {p q p' q' : Int} (h1 : p < q ↔ p' < q') (h2 : q < p ↔ q' < p') : six p q = six p' q' := by
  have e1 : decide (p = q) = decide (p' = q') := decide_eq_decide.mpr (by omega)
  have e2 : decide (p < q) = decide (p' < q') := decide_eq_decide.mpr h1
  have e3 : decide (p ≤ q) = decide (p' ≤ q') := decide_eq_decide.mpr (by omega)
  have e4 : decide (q < p) = decide (q' < p') := decide_eq_decide.mpr h2
  have e5 : decide (q ≤ p) = decide (q' ≤ p') := decide_eq_decide.mpr (by omega)
  unfold six
  rw [e1, e2, e3, e4, e5]
structure Two (K : S.Frag) (H : Hp) (x y : V) (t b u v : Int) : Prop where
  hx : NumAt K H x t b
  hy : NumAt K H y u v
  o : One x y
  b0 : 0 < b
  v0 : 0 < v
  g1 : gI t b = 1
  g2 : gI u v = 1
  s1 : sm t
  s2 : sm b
  s3 : sm u
  s4 : sm v
theorem Two.same {H H' : Hp} {x y : V} {t b u v : Int} (h : Two K H x y t b u v) (s : Same H H') : Two K H' x y t b u v := { h with hx := h.hx.same s, hy := h.hy.same s }
theorem eqB {t b u v : Int} (b0 : 0 < b) (v0 : 0 < v) (g1 : gI t b = 1) (g2 : gI u v = 1) : (decide (t = u) && decide (b = v)) = decide (t * v = u * b) := by
  rw [Bool.eq_iff_iff]
  simp only [Bool.and_eq_true, decide_eq_true_eq]
  have := frac_eq (S := t) (c := b) (S' := u) (c' := v) b0 v0 b0 v0 g1 g2 rfl rfl
  exact this
section
variable {H : Hp} {x y : V} {t b u v : Int} {Q : VK}
theorem go_cmp {sp spR : Sp} (nf : PySem.W.notFirst K (He.ga K "Share") (.type "int") = true) (h : Two K H x y t b u v) (k1 : ∀ a, x = .ref a → ShAt K H a t b → sp [x, y] H Q E0) (k2 : ∀ a, y = .ref a → ShAt K H a u v → spR [y, x] H Q E0) : rCmpB K (He.ga K "Share") sp spR x y H Q := by
  rcases id h.hx with ⟨a, rfl, hs⟩ | ⟨rfl, rfl⟩
  · obtain ⟨dx, vs, h1, _⟩ := id hs
    refine .inl ⟨a, dx, vs, rfl, h1, ?_, k1 a rfl hs⟩
    rcases id h.hy with ⟨c, rfl, hc⟩ | ⟨rfl, rfl⟩
    · obtain ⟨dy, ws, h2, _⟩ := hc
      exact .inl ⟨c, dy, ws, rfl, h2⟩
    · exact .inr ⟨⟨_, rfl⟩, nf⟩
  · rcases id h.hy with ⟨c, rfl, hc⟩ | ⟨rfl, rfl⟩
    · obtain ⟨dy, ws, h2, _⟩ := id hc
      exact .inr ⟨c, dy, ws, _, rfl, rfl, h2, k2 c rfl hc⟩
    · rcases h.o with ⟨c, e⟩ | ⟨c, e⟩ <;> cases e
theorem go_eq (nf : PySem.W.notFirst K (He.ga K "Share") (.type "int") = true) (h : Two K H x y t b u v) (q : Q (.bl (decide (t * v = u * b))) H) : rCmpB K (He.ga K "Share") (spEqS K) (spEqS K) x y H Q := by
  refine go_cmp nf h (fun a e hs => ⟨_, _, rfl, a, t, b, u, v, e, hs, h.hy, ?_⟩) (fun a e hs => ⟨_, _, rfl, a, u, v, t, b, e, hs, h.hx, ?_⟩)
  · rw [eqB h.b0 h.v0 h.g1 h.g2]; exact q
  · rw [eqB h.v0 h.b0 h.g2 h.g1, show decide (u * b = t * v) = decide (t * v = u * b) from decide_eq_decide.mpr eq_comm]; exact q
theorem go_lt (nf : PySem.W.notFirst K (He.ga K "Share") (.type "int") = true) (h : Two K H x y t b u v) (q : Q (.bl (decide (t * v < u * b))) H) : rCmpB K (He.ga K "Share") (spLtS K) (spGtS K) x y H Q :=
  go_cmp nf h (fun a e hs => ⟨_, _, rfl, a, t, b, u, v, e, hs, h.hy, h.s1, h.s2, h.s3, h.s4, q⟩) (fun a e hs => ⟨_, _, rfl, a, u, v, t, b, e, hs, h.hx, h.s3, h.s4, h.s1, h.s2, q⟩)
theorem go_gt (nf : PySem.W.notFirst K (He.ga K "Share") (.type "int") = true) (h : Two K H x y t b u v) (q : Q (.bl (decide (u * b < t * v))) H) : rCmpB K (He.ga K "Share") (spGtS K) (spLtS K) x y H Q :=
  go_cmp nf h (fun a e hs => ⟨_, _, rfl, a, t, b, u, v, e, hs, h.hy, h.s1, h.s2, h.s3, h.s4, q⟩) (fun a e hs => ⟨_, _, rfl, a, u, v, t, b, e, hs, h.hx, h.s3, h.s4, h.s1, h.s2, q⟩)
theorem go_le (nf : PySem.W.notFirst K (He.ga K "Share") (.type "int") = true) (h : Two K H x y t b u v) (q : Q (.bl (decide (t * v ≤ u * b))) H) : rCmpB K (He.ga K "Share") (spLeS K) (spGeS K) x y H Q :=
  go_cmp nf h (fun a e hs => ⟨_, _, rfl, a, t, b, u, v, e, hs, h.hy, h.s1, h.s2, h.s3, h.s4, q⟩) (fun a e hs => ⟨_, _, rfl, a, u, v, t, b, e, hs, h.hx, h.s3, h.s4, h.s1, h.s2, q⟩)
theorem go_ge (nf : PySem.W.notFirst K (He.ga K "Share") (.type "int") = true) (h : Two K H x y t b u v) (q : Q (.bl (decide (u * b ≤ t * v))) H) : rCmpB K (He.ga K "Share") (spGeS K) (spLeS K) x y H Q :=
  go_cmp nf h (fun a e hs => ⟨_, _, rfl, a, t, b, u, v, e, hs, h.hy, h.s1, h.s2, h.s3, h.s4, q⟩) (fun a e hs => ⟨_, _, rfl, a, u, v, t, b, e, hs, h.hx, h.s3, h.s4, h.s1, h.s2, q⟩)
theorem go_ne (nf : PySem.W.notFirst K (He.ga K "Share") (.type "int") = true) (h : Two K H x y t b u v) (q : Q (.bl (!decide (t * v = u * b))) H) : rNeB K (He.ga K "Share") (spEqS K) x y H Q := by
  have k1 : ∀ a, x = .ref a → ShAt K H a t b → spEqS K [x, y] H (fun z H2 => ∃ r, z = .bl r ∧ Q (.bl (!r)) H2) E0 := fun a e hs => ⟨_, _, rfl, a, t, b, u, v, e, hs, h.hy, _, rfl, by rw [eqB h.b0 h.v0 h.g1 h.g2]; exact q⟩
  have k2 : ∀ a, y = .ref a → ShAt K H a u v → spEqS K [y, x] H (fun z H2 => ∃ r, z = .bl r ∧ Q (.bl (!r)) H2) E0 := fun a e hs => ⟨_, _, rfl, a, u, v, t, b, e, hs, h.hx, _, rfl, by rw [eqB h.v0 h.b0 h.g2 h.g1, show decide (u * b = t * v) = decide (t * v = u * b) from decide_eq_decide.mpr eq_comm]; exact q⟩
  rcases id h.hx with ⟨a, rfl, hs⟩ | ⟨rfl, rfl⟩
  · obtain ⟨dx, vs, h1, _⟩ := id hs
    rcases id h.hy with ⟨c, rfl, hc⟩ | ⟨rfl, rfl⟩
    · obtain ⟨dy, ws, h2, _⟩ := id hc
      exact .inl ⟨a, dx, vs, c, dy, ws, rfl, rfl, h1, h2, k1 a rfl hs⟩
    · exact .inr (.inl ⟨a, dx, vs, _, rfl, rfl, h1, nf, k1 a rfl hs⟩)
  · rcases id h.hy with ⟨c, rfl, hc⟩ | ⟨rfl, rfl⟩
    · obtain ⟨dy, ws, h2, _⟩ := id hc
      exact .inr (.inr ⟨c, dy, ws, _, rfl, rfl, h2, k2 c rfl hc⟩)
    · rcases h.o with ⟨c, e⟩ | ⟨c, e⟩ <;> cases e
end
def spCmp (K : S.Frag) : Sp := Sp2 fun x y H Q _ => ∃ t b u v, Two K H x y t b u v ∧ ∀ L H', Same H H' → H' L = some (.lst (six (t * v) (u * b))) → Q (.ref L) H'
theorem ok__law_compared (T : Txt K mg) : FnOk P w K mg base (L2.CX P w) 5 (He.fAd K ("_law_compared", none)) (S.fdA K ("_law_compared", none)) ["_law_x", "_law_y"] (spCmp K) := by
  have G_Share___ge__ := ok_Share___ge__ (P := P) (w := w) (base := base) T
  have G_Share___le__ := ok_Share___le__ (P := P) (w := w) (base := base) T
  have G_Share___gt__ := ok_Share___gt__ (P := P) (w := w) (base := base) T
  have G_Share___lt__ := ok_Share___lt__ (P := P) (w := w) (base := base) T
  have G_Share___eq__ := ok_Share___eq__ (P := P) (w := w) (base := base) T
  refine FunD.ok T.F__law_compared sc__law_compared (fun vs H Q E h => S.splen2 h) (fun cdv A outer s H vs Q E hr h => ?_)
  have hu := hu_of hr
  refine ⟨_, (pss_one (ps_ret (pe_lst (pa_cons (pe_cmpR (op_cmpBK (P := P) (w := w) (K := K) (mg := mg) (base := base) (C := (He.ga K "Share")) rfl rfl rfl rfl rfl S.ic_eq T.me_Share___eq__.1 T.me_Share___eq__.2 (S.raw_of G_Share___eq__ (kb_Share___eq___2 T)) T.me_Share___eq__.1 T.me_Share___eq__.2 (S.raw_of G_Share___eq__ (kb_Share___eq___2 T)) T.si_int (hr.mono (by decide)) (hr.mono (by decide))) (pv 0) (pv 1) (nomark _)) (pa_cons (pe_cmpR (op_neBK (P := P) (w := w) (K := K) (mg := mg) (base := base) (C := (He.ga K "Share")) rfl rfl rfl rfl rfl T.ne_Share T.hm_Share T.me_Share___eq__.1 T.me_Share___eq__.2 T.si_int (S.raw_of G_Share___eq__ (kb_Share___eq___2 T)) (hr.mono (by decide))) (pv 0) (pv 1) (nomark _)) (pa_cons (pe_cmpR (op_cmpBK (P := P) (w := w) (K := K) (mg := mg) (base := base) (C := (He.ga K "Share")) rfl rfl rfl rfl rfl S.ic_lt T.me_Share___lt__.1 T.me_Share___lt__.2 (S.raw_of G_Share___lt__ (kb_Share___lt___2 T)) T.me_Share___gt__.1 T.me_Share___gt__.2 (S.raw_of G_Share___gt__ (kb_Share___gt___2 T)) T.si_int (hr.mono (by decide)) (hr.mono (by decide))) (pv 0) (pv 1) (nomark _)) (pa_cons (pe_cmpR (op_cmpBK (P := P) (w := w) (K := K) (mg := mg) (base := base) (C := (He.ga K "Share")) rfl rfl rfl rfl rfl S.ic_le T.me_Share___le__.1 T.me_Share___le__.2 (S.raw_of G_Share___le__ (kb_Share___le___2 T)) T.me_Share___ge__.1 T.me_Share___ge__.2 (S.raw_of G_Share___ge__ (kb_Share___ge___2 T)) T.si_int (hr.mono (by decide)) (hr.mono (by decide))) (pv 0) (pv 1) (nomark _)) (pa_cons (pe_cmpR (op_cmpBK (P := P) (w := w) (K := K) (mg := mg) (base := base) (C := (He.ga K "Share")) rfl rfl rfl rfl rfl S.ic_gt T.me_Share___gt__.1 T.me_Share___gt__.2 (S.raw_of G_Share___gt__ (kb_Share___gt___2 T)) T.me_Share___lt__.1 T.me_Share___lt__.2 (S.raw_of G_Share___lt__ (kb_Share___lt___2 T)) T.si_int (hr.mono (by decide)) (hr.mono (by decide))) (pv 0) (pv 1) (nomark _)) (pa_cons (pe_cmpR (op_cmpBK (P := P) (w := w) (K := K) (mg := mg) (base := base) (C := (He.ga K "Share")) rfl rfl rfl rfl rfl S.ic_ge T.me_Share___ge__.1 T.me_Share___ge__.2 (S.raw_of G_Share___ge__ (kb_Share___ge___2 T)) T.me_Share___le__.1 T.me_Share___le__.2 (S.raw_of G_Share___le__ (kb_Share___le___2 T)) T.si_int (hr.mono (by decide)) (hr.mono (by decide))) (pv 0) (pv 1) (nomark _)) pa_nil))))))))), ?_⟩
  obtain ⟨x, y, rfl, t, b, u, v, h, q⟩ := h
  have nf := T.nf_Share
  refine ⟨_, rfl, _, rfl, go_eq nf h ⟨_, rfl, _, rfl, go_ne nf h ⟨_, rfl, _, rfl, go_lt nf h ⟨_, rfl, _, rfl, go_le nf h ⟨_, rfl, _, rfl, go_gt nf h ⟨_, rfl, _, rfl, go_ge nf h ?_⟩⟩⟩⟩⟩⟩
  exact ⟨by show 6 ≤ sizeLine; decide, fun L hL => q L _ (Same.new hL) upd_same⟩
def spDu (K : S.Frag) : Sp := Sp2 fun x y H Q _ => ∃ p q0 : Int, x = .int p ∧ y = .int q0 ∧ ∀ L H', Same H H' → H' L = some (.lst (six p q0)) → Q (.ref L) H'
theorem ok__law_due (T : Txt K mg) : FnOk P w K mg base (L2.CX P w) 1 (He.fAd K ("_law_due", none)) (S.fdA K ("_law_due", none)) ["_law_left", "_law_right"] (spDu K) := by
  refine FunD.ok T.F__law_due sc__law_due (fun vs H Q E h => S.splen2 h) (fun cdv A outer s H vs Q E hr h => ?_)
  have hu := hu_of hr
  refine ⟨_, (pss_one (ps_ret (pe_lst (pa_cons (pe_cmpR op_eq (pv 0) (pv 1) (nomark _)) (pa_cons (pe_cmpR op_ne (pv 0) (pv 1) (nomark _)) (pa_cons (pe_cmpR op_lt (pv 0) (pv 1) (nomark _)) (pa_cons (pe_cmpR op_le (pv 0) (pv 1) (nomark _)) (pa_cons (pe_cmpR op_gt (pv 0) (pv 1) (nomark _)) (pa_cons (pe_cmpR op_ge (pv 0) (pv 1) (nomark _)) pa_nil))))))))), ?_⟩
  obtain ⟨_, _, rfl, p, q0, rfl, rfl, q⟩ := h
  refine ⟨_, rfl, _, rfl, rfl, _, rfl, _, rfl, rfl, _, rfl, _, rfl, _, _, rfl, rfl, _, rfl, _, rfl, _, _, rfl, rfl, _, rfl, _, rfl, _, _, rfl, rfl, _, rfl, _, rfl, _, _, rfl, rfl, by show 6 ≤ sizeLine; decide, fun L hL => q L _ (Same.new hL) ?_⟩
  have e : decide (V.int p = V.int q0) = decide (p = q0) := decide_eq_decide.mpr ⟨fun h => by injection h, fun h => by rw [h]⟩
  rw [upd_same, e]
  rfl
def spFit (K : S.Frag) : Sp := Sp2 fun x y H Q _ => ∃ (L M : Addr) (p q0 : Int), x = .ref L ∧ y = .ref M ∧ H L = some (.lst (six p q0)) ∧ H M = some (.lst (six p q0)) ∧ Q (.bl true) H
theorem ok__law_flags_fit (T : Txt K mg) : FnOk P w K mg base (L2.CX P w) 1 (He.fAd K ("_law_flags_fit", none)) (S.fdA K ("_law_flags_fit", none)) ["_law_found", "_law_due_here"] (spFit K) := by
  refine FunD.ok T.F__law_flags_fit sc__law_flags_fit (fun vs H Q E h => S.splen2 h) (fun cdv A outer s H vs Q E hr h => ?_)
  have hu := hu_of hr
  refine ⟨_, (pss_cons (ps_for (S.own_of rfl) rfl (pi_range1 rfl T.n_range (pa_cons pe_int pa_nil)) (pg_name (i := 2) sc__law_flags_fit.nd rfl (by first | exact Or.inl rfl | exact Or.inr rfl))
        (pss_one (ps_if (PW.pt (pw_or (pt_not (pt_val (pe_callB (S.isiK (K := K) rfl) rfl T.n_isinstance S.boot_isinstance (pa_cons (pe_ix (S.ixK (K := K) rfl) (pv 0) (pv 2) (fun _ _ => rfl)) (pa_cons (pe_bltn (v := .ty "bool") rfl T.n_bool S.boot_bool rfl) pa_nil))))) (pw_or1 (pt_cmpR op_ne (pe_ix (S.ixK (K := K) rfl) (pv 0) (pv 2) (fun _ _ => rfl)) (pe_ix (S.ixK (K := K) rfl) (pv 1) (pv 2) (fun _ _ => rfl)) (nomark _))))) (pss_one (ps_ret pe_bl)) pss_nil)))
      (pss_one (ps_ret pe_bl))), ?_⟩
  obtain ⟨_, _, rfl, L, M, p, q0, rfl, rfl, hL, hM, q⟩ := h
  refine ⟨_, rfl, by decide, by decide, for_range (n := 6) (fun i σ J => J = H ∧ ∃ v2, σ = [some (.ref L), some (.ref M), v2]) ⟨rfl, _, rfl⟩ ?_ ?_⟩
  · rintro i σ J hi ⟨rfl, v2, rfl⟩
    obtain ⟨b, hb⟩ : ∃ b, (six p q0)[i]? = some (.bl b) := by
      match i, hi with
      | 0, _ => exact ⟨_, rfl⟩
      | 1, _ => exact ⟨_, rfl⟩
      | 2, _ => exact ⟨_, rfl⟩
      | 3, _ => exact ⟨_, rfl⟩
      | 4, _ => exact ⟨_, rfl⟩
      | 5, _ => exact ⟨_, rfl⟩
    have hb' : atI (six p q0) (0 + (i : Int)) = some (.bl b) := by rw [Int.zero_add]; exact atI_nat hb
    refine ⟨_, rfl, _, rfl, ixX (.inl (.inl (.inl hL))) hb' ⟨_, _, _, _, true, rfl, .ty _, .base (.bl b), kit_ty (by decide +kernel), _, rfl, iteF ?_⟩⟩
    exact ⟨_, rfl, _, rfl, ixX (.inl (.inl (.inl hL))) hb' ⟨_, rfl, _, rfl, ixX (.inl (.inl (.inl hM))) hb' ⟨rfl, _, rfl, iteN (by simp) ⟨rfl, _, rfl⟩⟩⟩⟩
  rintro σ J ⟨rfl, v2, rfl⟩
  exact q
end
end W

namespace W
open PySem PySem.Spec PyProof.Rows L2
section
variable {P : Program} {w : World} {K : S.Frag} {mg : Str → Option Value} {base : Heap}
open S
/-! the law -/
def rr (n : Int) : Prop := n.natAbs < 2 ^ 100
theorem rr.sm {n : Int} (h : rr n) : sm n := Nat.lt_of_lt_of_le h (Nat.pow_le_pow_right (by decide) (by decide))
theorem rr.big {n : Int} (h : rr n) : n.natAbs < 2 ^ 4000 := Nat.lt_of_lt_of_le h (Nat.pow_le_pow_right (by decide) (by decide))
theorem rr.cm {i j : Int} (a : rr i) (b : rr j) : CMulA i j := .inr (wide_mul (a := 100) (b := 100) a b (by decide) (by decide) (by decide))
theorem rr_of {i : Int} (h1 : -1000000000000000000000000000000 ≤ i) (h2 : i ≤ 1000000000000000000000000000000) : rr i := by
  have e : (2 : Nat) ^ 100 = 1267650600228229401496703205376 := by decide +kernel
  unfold rr
  rw [e]
  omega
theorem mkZ {H : Hp} {Z : VK} {E : XK} {t b : Int} {p dx : Addr} (np : H p = none) (ndx : H dx = none) (ne : dx ≠ p) (bt : t.natAbs < 2 ^ 4000) (bb : b.natAbs < 2 ^ 4000) (h : b ≠ 0)
    (k : ∀ (H' : Hp) (T B : Int), Same H H' → ShAt K H' p T B → 0 < B → gI T B = 1 → T * b = t * B → T.natAbs ≤ t.natAbs → B.natAbs ≤ b.natAbs → Z .non H') :
    spShare K [.ref p, .int t, .int b] (upd (upd H dx (.own p)) p (.ins (He.ga K "Share") dx [])) Z E := by
  have s0 : Same H (upd (upd H dx (.own p)) p (.ins (He.ga K "Share") dx [])) := Same.upd (Same.new ndx) np
  have du : dueS (.int t) (.int b) = "" := by simp [dueS, isInt, intV, h]
  exact ⟨_, _, _, rfl, p, dx, rfl, upd_same, ne, .int _, .int _, bt, bb, fun e H' kp hp => k H' _ _ (fun c o hc => kp c o (s0 c o hc) (ne_of_none hc np) (ne_of_none hc ndx)) hp (loB_pos h) (lo_one h) (lo_same h) (lo_leT h) (lo_leB h), fun e => absurd du e⟩
theorem ShAt.dr {H H' : Hp} {a r : Addr} {n t b : Int} (h : ShAt K H a t b) (hr : H r = some (.lst [.int n])) (d : Dr r H H') : ShAt K H' a t b := by
  obtain ⟨dx, vs, hs, e1, e2⟩ := h
  refine ⟨dx, vs, ?_, e1, e2⟩
  rcases hs with ⟨h, e⟩ | ⟨h, h'⟩
  · exact .inl ⟨d.kp _ _ (ne_of h hr (by intro z; cases z)) h, e⟩
  · exact .inr ⟨d.kp _ _ (ne_of h hr (by intro z; unfold SlX.SlO at z; cases z)) h, d.kp _ _ (ne_of h' hr (by intro z; cases z)) h'⟩
theorem NumAt.dr {H H' : Hp} {r : Addr} {n t b : Int} {x : V} (h : NumAt K H x t b) (hr : H r = some (.lst [.int n])) (d : Dr r H H') : NumAt K H' x t b := by
  rcases h with ⟨c, e, h⟩ | h
  · exact .inl ⟨c, e, h.dr hr d⟩
  · exact .inr h
theorem Two.dr {H H' : Hp} {r : Addr} {n : Int} {x y : V} {t b u v : Int} (h : Two K H x y t b u v) (hr : H r = some (.lst [.int n])) (d : Dr r H H') : Two K H' x y t b u v := { h with hx := h.hx.dr hr d, hy := h.hy.dr hr d }
theorem oddV_same {H H' : Hp} {v : V} (h : OddV H v) (s : Same H H') : OddV H' v := by
  cases h with
  | non => exact .non
  | str z => exact .str z
  | bl b => exact .bl b
  | lst h => exact .lst (s _ _ h)
  | tup h => exact .tup (s _ _ h)
  | dK h => exact .dK (s _ _ h)
theorem NumAt.sh {H : Hp} {a : Addr} {t b : Int} (h : NumAt K H (.ref a) t b) : ShAt K H a t b := by
  rcases h with ⟨c, e, h⟩ | ⟨e, _⟩
  · injection e with e
    rw [e]
    exact h
  · cases e
def spLaw (K : S.Frag) : Sp := Sp1 fun x H Q _ => ∃ (a : Addr) (ns : List Int), x = .ref a ∧ SqL K H a (ns.map V.int) ∧ ns.length ≤ 63 ∧ ∀ H', Q (.bl true) H'
theorem ok_law (T : Txt K mg) : FnOk P w K mg base (L2.CX P w) 6 (He.fAd K ("law", none)) (S.fdA K ("law", none)) ["_law_script"] (spLaw K) := by
  have G__law_cell := ok__law_cell (P := P) (w := w) (base := base) T
  have G__law_take := ok__law_take (P := P) (w := w) (base := base) T
  have G_Share___init__ := ok_Share___init__ (P := P) (w := w) (base := base) T
  have G__law_flags_fit := ok__law_flags_fit (P := P) (w := w) (base := base) T
  have G__law_due := ok__law_due (P := P) (w := w) (base := base) T
  have G__law_compared := ok__law_compared (P := P) (w := w) (base := base) T
  have G_Share___eq__ := ok_Share___eq__ (P := P) (w := w) (base := base) T
  refine FunD.ok T.F_law sc_law (fun vs H Q E h => S.splen1 h) (fun cdv A outer s H vs Q E hr h => ?_)
  have hu := hu_of hr
  refine ⟨_, (pss_cons (ps_set (i := 1) sc_law.nd rfl (by first | exact Or.inl rfl | exact Or.inr rfl) (pe_lst (pa_cons (S.pe_fnS G__law_cell (hr.mono (by decide)) rfl T.g__law_cell T.F__law_cell.kp (kb__law_cell_2 T) S.pas0 (pa_cons (pv 0) (pa_cons pe_int pa_nil)) pk_nil rfl rfl) pa_nil)))
      (pss_cons (ps_set (i := 2) sc_law.nd rfl (by first | exact Or.inl rfl | exact Or.inr rfl) (S.pe_fnS G__law_take (hr.mono (by decide)) rfl T.g__law_take T.F__law_take.kp (kb__law_take_2 T) S.pas0 (pa_cons (pv 1) (pa_cons pe_int pa_nil)) pk_nil rfl rfl))
      (pss_cons (ps_set (i := 3) sc_law.nd rfl (by first | exact Or.inl rfl | exact Or.inr rfl) (pe_op op_add pe_int (S.pe_fnS G__law_take (hr.mono (by decide)) rfl T.g__law_take T.F__law_take.kp (kb__law_take_2 T) S.pas0 (pa_cons (pv 1) (pa_cons pe_int pa_nil)) pk_nil rfl rfl)))
      (pss_cons (ps_set (i := 4) sc_law.nd rfl (by first | exact Or.inl rfl | exact Or.inr rfl) (pe_lst (pa_cons (pe_op op_sub (pe_op op_mod (pe_callTy call_int1 rfl T.n_int S.boot_int (pa_cons (S.pe_fnS G__law_cell (hr.mono (by decide)) rfl T.g__law_cell T.F__law_cell.kp (kb__law_cell_2 T) S.pas0 (pa_cons (pv 0) (pa_cons pe_int pa_nil)) pk_nil rfl rfl) pa_nil)) (pe_op op_add (pe_op S.op_mulA pe_int (pe_op op_pow pe_int pe_int)) pe_int)) (pe_op op_pow pe_int pe_int)) (pa_cons (pe_op op_add pe_int (pe_op op_mod (pe_callTy call_int1 rfl T.n_int S.boot_int (pa_cons (S.pe_fnS G__law_cell (hr.mono (by decide)) rfl T.g__law_cell T.F__law_cell.kp (kb__law_cell_2 T) S.pas0 (pa_cons (pv 0) (pa_cons pe_int pa_nil)) pk_nil rfl rfl) pa_nil)) (pe_op op_pow pe_int pe_int))) pa_nil))))
      (pss_cons (ps_set (i := 5) sc_law.nd rfl (by first | exact Or.inl rfl | exact Or.inr rfl) (pe_lst (pa_cons (pe_op op_sub (pe_op op_mod (pe_callTy call_int1 rfl T.n_int S.boot_int (pa_cons (S.pe_fnS G__law_cell (hr.mono (by decide)) rfl T.g__law_cell T.F__law_cell.kp (kb__law_cell_2 T) S.pas0 (pa_cons (pv 0) (pa_cons pe_int pa_nil)) pk_nil rfl rfl) pa_nil)) (pe_op op_add (pe_op S.op_mulA pe_int (pe_op op_pow pe_int pe_int)) pe_int)) (pe_op op_pow pe_int pe_int)) (pa_cons (pe_op op_add pe_int (pe_op op_mod (pe_callTy call_int1 rfl T.n_int S.boot_int (pa_cons (S.pe_fnS G__law_cell (hr.mono (by decide)) rfl T.g__law_cell T.F__law_cell.kp (kb__law_cell_2 T) S.pas0 (pa_cons (pv 0) (pa_cons pe_int pa_nil)) pk_nil rfl rfl) pa_nil)) (pe_op op_pow pe_int pe_int))) pa_nil))))
      (S.pss_cut (ps_if (pt_cmpR op_eq (pv 2) pe_int (nomark _)) (pss_one (ps_set (i := 5) sc_law.nd rfl (by first | exact Or.inl rfl | exact Or.inr rfl) (pe_lst (pa_cons (pe_op S.op_mulA (pe_ix (S.ixK (K := K) rfl) (pv 4) pe_int (fun _ _ => rfl)) (pv 3)) (pa_cons (pe_op S.op_mulA (pe_ix (S.ixK (K := K) rfl) (pv 4) pe_int (fun _ _ => rfl)) (pv 3)) pa_nil))))) pss_nil)
      (S.pss_cut (ps_if (pt_cmpR op_eq (pv 2) pe_int (nomark _)) (pss_one (ps_set (i := 5) sc_law.nd rfl (by first | exact Or.inl rfl | exact Or.inr rfl) (pe_lst (pa_cons (pe_op op_sub (pe_op op_add (pe_ix (S.ixK (K := K) rfl) (pv 4) pe_int (fun _ _ => rfl)) (pe_op op_mod (pv 3) pe_int)) pe_int) (pa_cons (pe_ix (S.ixK (K := K) rfl) (pv 4) pe_int (fun _ _ => rfl)) pa_nil))))) pss_nil)
      (pss_cons (ps_set (i := 6) sc_law.nd rfl (by first | exact Or.inl rfl | exact Or.inr rfl) (S.pe_mkS T.mk_Share G_Share___init__ (hr.mono (by decide)) rfl T.g_Share (kb_Share___init___3 T).choose_spec (S.pasE (takes_of rfl rfl rfl rfl)) (pa_cons (pe_ix (S.ixK (K := K) rfl) (pv 4) pe_int (fun _ _ => rfl)) (pa_cons (pe_ix (S.ixK (K := K) rfl) (pv 4) pe_int (fun _ _ => rfl)) pa_nil)) pk_nil rfl rfl))
      (pss_cons (ps_set (i := 7) sc_law.nd rfl (by first | exact Or.inl rfl | exact Or.inr rfl) (S.pe_mkS T.mk_Share G_Share___init__ (hr.mono (by decide)) rfl T.g_Share (kb_Share___init___3 T).choose_spec (S.pasE (takes_of rfl rfl rfl rfl)) (pa_cons (pe_ix (S.ixK (K := K) rfl) (pv 5) pe_int (fun _ _ => rfl)) (pa_cons (pe_ix (S.ixK (K := K) rfl) (pv 5) pe_int (fun _ _ => rfl)) pa_nil)) pk_nil rfl rfl))
      (pss_cons (ps_if (pt_not (pt_val (S.pe_fnS G__law_flags_fit (hr.mono (by decide)) rfl T.g__law_flags_fit T.F__law_flags_fit.kp (kb__law_flags_fit_2 T) S.pas0 (pa_cons (S.pe_fnS G__law_compared (hr.mono (by decide)) rfl T.g__law_compared T.F__law_compared.kp (kb__law_compared_2 T) S.pas0 (pa_cons (pv 6) (pa_cons (pv 7) pa_nil)) pk_nil rfl rfl) (pa_cons (S.pe_fnS G__law_due (hr.mono (by decide)) rfl T.g__law_due T.F__law_due.kp (kb__law_due_2 T) S.pas0 (pa_cons (pe_op S.op_mulA (pe_ix (S.ixK (K := K) rfl) (pv 4) pe_int (fun _ _ => rfl)) (pe_ix (S.ixK (K := K) rfl) (pv 5) pe_int (fun _ _ => rfl))) (pa_cons (pe_op S.op_mulA (pe_ix (S.ixK (K := K) rfl) (pv 5) pe_int (fun _ _ => rfl)) (pe_ix (S.ixK (K := K) rfl) (pv 4) pe_int (fun _ _ => rfl))) pa_nil)) pk_nil rfl rfl) pa_nil)) pk_nil rfl rfl))) (pss_one (ps_ret pe_bl)) pss_nil)
      (pss_cons (ps_if (pt_not (pt_val (S.pe_fnS G__law_flags_fit (hr.mono (by decide)) rfl T.g__law_flags_fit T.F__law_flags_fit.kp (kb__law_flags_fit_2 T) S.pas0 (pa_cons (S.pe_fnS G__law_compared (hr.mono (by decide)) rfl T.g__law_compared T.F__law_compared.kp (kb__law_compared_2 T) S.pas0 (pa_cons (pv 7) (pa_cons (pv 6) pa_nil)) pk_nil rfl rfl) (pa_cons (S.pe_fnS G__law_due (hr.mono (by decide)) rfl T.g__law_due T.F__law_due.kp (kb__law_due_2 T) S.pas0 (pa_cons (pe_op S.op_mulA (pe_ix (S.ixK (K := K) rfl) (pv 5) pe_int (fun _ _ => rfl)) (pe_ix (S.ixK (K := K) rfl) (pv 4) pe_int (fun _ _ => rfl))) (pa_cons (pe_op S.op_mulA (pe_ix (S.ixK (K := K) rfl) (pv 4) pe_int (fun _ _ => rfl)) (pe_ix (S.ixK (K := K) rfl) (pv 5) pe_int (fun _ _ => rfl))) pa_nil)) pk_nil rfl rfl) pa_nil)) pk_nil rfl rfl))) (pss_one (ps_ret pe_bl)) pss_nil)
      (pss_cons (ps_set (i := 8) sc_law.nd rfl (by first | exact Or.inl rfl | exact Or.inr rfl) (pe_op op_fdivW (pe_callTy call_int1 rfl T.n_int S.boot_int (pa_cons (pe_ix (S.ixK (K := K) rfl) (pv 4) pe_int (fun _ _ => rfl)) pa_nil)) (pe_ix (S.ixK (K := K) rfl) (pv 4) pe_int (fun _ _ => rfl))))
      (pss_cons (ps_for (S.own_of rfl) rfl (S.pi_listK (K := K) rfl (pe_lst (pa_cons (pv 8) (pa_cons (pe_op op_add (pv 8) pe_int) (pa_cons pe_int (pa_cons (S.pe_fnS G__law_take (hr.mono (by decide)) rfl T.g__law_take T.F__law_take.kp (kb__law_take_2 T) S.pas0 (pa_cons (pv 1) (pa_cons (pe_op op_pow pe_int pe_int) pa_nil)) pk_nil rfl rfl) pa_nil)))))) (pg_name (i := 9) sc_law.nd rfl (by first | exact Or.inl rfl | exact Or.inr rfl))
        (pss_cons (ps_if (pt_not (pt_val (S.pe_fnS G__law_flags_fit (hr.mono (by decide)) rfl T.g__law_flags_fit T.F__law_flags_fit.kp (kb__law_flags_fit_2 T) S.pas0 (pa_cons (S.pe_fnS G__law_compared (hr.mono (by decide)) rfl T.g__law_compared T.F__law_compared.kp (kb__law_compared_2 T) S.pas0 (pa_cons (pv 6) (pa_cons (pv 9) pa_nil)) pk_nil rfl rfl) (pa_cons (S.pe_fnS G__law_due (hr.mono (by decide)) rfl T.g__law_due T.F__law_due.kp (kb__law_due_2 T) S.pas0 (pa_cons (pe_ix (S.ixK (K := K) rfl) (pv 4) pe_int (fun _ _ => rfl)) (pa_cons (pe_op S.op_mulA (pv 9) (pe_ix (S.ixK (K := K) rfl) (pv 4) pe_int (fun _ _ => rfl))) pa_nil)) pk_nil rfl rfl) pa_nil)) pk_nil rfl rfl))) (pss_one (ps_ret pe_bl)) pss_nil)
      (pss_cons (ps_if (pt_not (pt_val (S.pe_fnS G__law_flags_fit (hr.mono (by decide)) rfl T.g__law_flags_fit T.F__law_flags_fit.kp (kb__law_flags_fit_2 T) S.pas0 (pa_cons (S.pe_fnS G__law_compared (hr.mono (by decide)) rfl T.g__law_compared T.F__law_compared.kp (kb__law_compared_2 T) S.pas0 (pa_cons (pv 9) (pa_cons (pv 6) pa_nil)) pk_nil rfl rfl) (pa_cons (S.pe_fnS G__law_due (hr.mono (by decide)) rfl T.g__law_due T.F__law_due.kp (kb__law_due_2 T) S.pas0 (pa_cons (pe_op S.op_mulA (pv 9) (pe_ix (S.ixK (K := K) rfl) (pv 4) pe_int (fun _ _ => rfl))) (pa_cons (pe_ix (S.ixK (K := K) rfl) (pv 4) pe_int (fun _ _ => rfl)) pa_nil)) pk_nil rfl rfl) pa_nil)) pk_nil rfl rfl))) (pss_one (ps_ret pe_bl)) pss_nil)
      (pss_one (ps_if (pt_not (pt_val (S.pe_fnS G__law_flags_fit (hr.mono (by decide)) rfl T.g__law_flags_fit T.F__law_flags_fit.kp (kb__law_flags_fit_2 T) S.pas0 (pa_cons (S.pe_fnS G__law_compared (hr.mono (by decide)) rfl T.g__law_compared T.F__law_compared.kp (kb__law_compared_2 T) S.pas0 (pa_cons (S.pe_mkS T.mk_Share G_Share___init__ (hr.mono (by decide)) rfl T.g_Share (kb_Share___init___2 T).choose_spec (S.pasE (takes_of rfl rfl rfl rfl)) (pa_cons (pv 9) pa_nil) pk_nil rfl rfl) (pa_cons (pv 9) pa_nil)) pk_nil rfl rfl) (pa_cons (S.pe_fnS G__law_due (hr.mono (by decide)) rfl T.g__law_due T.F__law_due.kp (kb__law_due_2 T) S.pas0 (pa_cons (pv 9) (pa_cons (pv 9) pa_nil)) pk_nil rfl rfl) pa_nil)) pk_nil rfl rfl))) (pss_one (ps_ret pe_bl)) pss_nil)))))
      (pss_cons (ps_for (S.own_of rfl) rfl (S.pi_listK (K := K) rfl (pe_lst (pa_cons pe_non (pa_cons pe_str (pa_cons (pe_tup (pa_cons pe_int (pa_cons pe_int pa_nil))) (pa_cons (pe_lst (pa_cons pe_int pa_nil)) (pa_cons pe_dnewK (pa_cons pe_bl (pa_cons pe_bl pa_nil))))))))) (pg_name (i := 10) sc_law.nd rfl (by first | exact Or.inl rfl | exact Or.inr rfl))
        (pss_one (ps_if (PW.pt (pw_or (pt_cmpR (op_eqNK (P := P) (w := w) (K := K) (mg := mg) (base := base) (C := (He.ga K "Share")) rfl rfl rfl rfl rfl T.me_Share___eq__.1 T.me_Share___eq__.2 T.six_Share (ok_Share___eq___N (P := P) (w := w) (base := base) T) (S.binds_ofH (kb_Share___eq___2 T)) (hr.mono (by decide))) (S.pe_mkS T.mk_Share G_Share___init__ (hr.mono (by decide)) rfl T.g_Share (kb_Share___init___2 T).choose_spec (S.pasE (takes_of rfl rfl rfl rfl)) (pa_cons pe_int pa_nil) pk_nil rfl rfl) (pv 10) (nomark _)) (pw_or (pt_cmpR (op_eqNK (P := P) (w := w) (K := K) (mg := mg) (base := base) (C := (He.ga K "Share")) rfl rfl rfl rfl rfl T.me_Share___eq__.1 T.me_Share___eq__.2 T.six_Share (ok_Share___eq___N (P := P) (w := w) (base := base) T) (S.binds_ofH (kb_Share___eq___2 T)) (hr.mono (by decide))) (S.pe_mkS T.mk_Share G_Share___init__ (hr.mono (by decide)) rfl T.g_Share (kb_Share___init___2 T).choose_spec (S.pasE (takes_of rfl rfl rfl rfl)) (pa_cons pe_int pa_nil) pk_nil rfl rfl) (pv 10) (nomark _)) (pw_or (pt_cmpR (op_eqNK (P := P) (w := w) (K := K) (mg := mg) (base := base) (C := (He.ga K "Share")) rfl rfl rfl rfl rfl T.me_Share___eq__.1 T.me_Share___eq__.2 T.six_Share (ok_Share___eq___N (P := P) (w := w) (base := base) T) (S.binds_ofH (kb_Share___eq___2 T)) (hr.mono (by decide))) (pv 10) (S.pe_mkS T.mk_Share G_Share___init__ (hr.mono (by decide)) rfl T.g_Share (kb_Share___init___2 T).choose_spec (S.pasE (takes_of rfl rfl rfl rfl)) (pa_cons pe_int pa_nil) pk_nil rfl rfl) (nomark _)) (pw_or1 (pt_not (pt_cmpR (op_neNK (P := P) (w := w) (K := K) (mg := mg) (base := base) (C := (He.ga K "Share")) rfl rfl rfl rfl rfl T.ne_Share T.hm_Share T.me_Share___eq__.1 T.me_Share___eq__.2 T.six_Share (ok_Share___eq___N (P := P) (w := w) (base := base) T) (S.binds_ofH (kb_Share___eq___2 T)) (hr.mono (by decide))) (S.pe_mkS T.mk_Share G_Share___init__ (hr.mono (by decide)) rfl T.g_Share (kb_Share___init___2 T).choose_spec (S.pasE (takes_of rfl rfl rfl rfl)) (pa_cons pe_int pa_nil) pk_nil rfl rfl) (pv 10) (nomark _)))))))) (pss_one (ps_ret pe_bl)) pss_nil)))
      (pss_one (ps_ret (pe_cmpR (S.eqGK (K := K) rfl (S.hu64 hr)) (pe_cmpR (op_inBK (P := P) (w := w) (K := K) (mg := mg) (base := base) (C := (He.ga K "Share")) rfl rfl rfl rfl rfl T.me_Share___eq__.1 T.me_Share___eq__.2 T.six_Share (S.raw_of G_Share___eq__ (kb_Share___eq___2 T)) (ok_Share___eq___N (P := P) (w := w) (base := base) T) (S.binds_ofH (kb_Share___eq___2 T)) (hr.mono (by decide)) (hr.mono (by decide))) (pv 6) (pe_lst (pa_cons (pv 7) (pa_cons pe_non pa_nil))) rfl) (pe_cmpR op_eq (pe_op S.op_mulA (pe_ix (S.ixK (K := K) rfl) (pv 4) pe_int (fun _ _ => rfl)) (pe_ix (S.ixK (K := K) rfl) (pv 5) pe_int (fun _ _ => rfl))) (pe_op S.op_mulA (pe_ix (S.ixK (K := K) rfl) (pv 5) pe_int (fun _ _ => rfl)) (pe_ix (S.ixK (K := K) rfl) (pv 4) pe_int (fun _ _ => rfl))) (nomark _)) (nomark _)))))))))))))))))), ?_⟩
  obtain ⟨_, rfl, a, ns, rfl, hS, hl, q⟩ := h
  have t24 : (10 ^ Int.toNat 24 : Int) = 1000000000000000000000000 := by decide +kernel
  have e24 : (2 * 10 ^ Int.toNat 24 + 1 : Int) = 2000000000000000000000001 := by decide +kernel
  refine ⟨_, rfl, rfl, rfl, _, _, rfl, a, ns, 0, rfl, rfl, Int.le_refl 0, hS, fun n0 _ => ⟨by show 1 ≤ sizeLine; decide, fun r hr0 => ?_⟩⟩
  have s0 := Same.new (o := .lst [.int n0]) hr0
  refine ⟨_, rfl, rfl, rfl, _, _, rfl, r, n0, 3, rfl, upd_same, rfl, by decide, by decide, fun md n1 md0 md1 => ?_⟩
  have s1 := Same.upd (o := .lst [.int n1]) s0 hr0
  refine ⟨_, rfl, rfl, rfl, _, _, rfl, r, n1, 30, rfl, upd_same, rfl, by decide, by decide, fun fc n2 fc0 fc1 => ⟨_, _, rfl, rfl, ?_⟩⟩
  have s2 := Same.upd (o := .lst [.int n2]) s1 hr0
  have er := upd_same (H := upd (upd H r (.lst [.int n0])) r (.lst [.int n1])) (a := r) (o := .lst [.int n2])
  have hS2 := sqL_same hS s2
  generalize upd (upd (upd H r (.lst [.int n0])) r (.lst [.int n1])) r (.lst [.int n2]) = J2 at s2 er hS2
  clear s0 s1
  refine ⟨_, rfl, rfl, rfl, _, _, rfl, a, ns, 1, rfl, rfl, by decide, hS2, fun c _ => .inl ⟨_, rfl, _, _, rfl, rfl, ⟨by decide, by decide, by decide⟩, _, _, rfl, rfl, mul_smallL (by decide), _, _, rfl, rfl, _, _, rfl, rfl, (by show (0 : Int) < 2 * 10 ^ Int.toNat 24 + 1; decide +kernel), _, _, rfl, rfl, ⟨by decide, by decide, by decide⟩, _, _, rfl, rfl, ?_⟩⟩
  refine ⟨_, rfl, rfl, rfl, _, _, rfl, a, ns, 2, rfl, rfl, by decide, hS2, fun c2 _ => .inl ⟨_, rfl, _, _, rfl, rfl, ⟨by decide, by decide, by decide⟩, _, _, rfl, rfl, (by show (0 : Int) < 10 ^ Int.toNat 24; decide +kernel), _, _, rfl, rfl, by show 2 ≤ sizeLine; decide, fun la hla => ?_⟩⟩
  have bnd : ∀ c c2 : Int, (-1000000000000000000000000 ≤ c % (2 * 10 ^ Int.toNat 24 + 1) - 10 ^ Int.toNat 24 ∧ c % (2 * 10 ^ Int.toNat 24 + 1) - 10 ^ Int.toNat 24 ≤ 1000000000000000000000000) ∧ (1 ≤ 1 + c2 % 10 ^ Int.toNat 24 ∧ 1 + c2 % 10 ^ Int.toNat 24 ≤ 1000000000000000000000000) := fun c c2 => by
    have m1 := mod_lo c (show (0 : Int) < 2 * 10 ^ Int.toNat 24 + 1 by decide +kernel)
    have m2 := mod_hi c (show (0 : Int) < 2 * 10 ^ Int.toNat 24 + 1 by decide +kernel)
    have m3 := mod_lo c2 (show (0 : Int) < 10 ^ Int.toNat 24 by decide +kernel)
    have m4 := mod_hi c2 (show (0 : Int) < 10 ^ Int.toNat 24 by decide +kernel)
    rw [e24] at *
    rw [t24] at *
    omega
  obtain ⟨⟨a1l, a1h⟩, a2l, a2h⟩ := bnd c c2
  change tSeq _ _ _ [some (.ref a), some (.ref r), some (.int md), some (.int (1 + fc)), some (.ref la), none, none, none, none, none, none] (upd J2 la (.lst [.int (c % (2 * 10 ^ Int.toNat 24 + 1) - 10 ^ Int.toNat 24), .int (1 + c2 % 10 ^ Int.toNat 24)]))
  generalize c % (2 * 10 ^ Int.toNat 24 + 1) - 10 ^ Int.toNat 24 = a0 at *
  generalize 1 + c2 % 10 ^ Int.toNat 24 = a1 at *
  have s3 := Same.new (o := .lst [.int a0, .int a1]) hla
  have eA := upd_same (H := J2) (a := la) (o := .lst [.int a0, .int a1])
  have er3 := s3 _ _ er
  have s23 := s2.trans s3
  generalize upd J2 la (.lst [.int a0, .int a1]) = J3 at s3 eA er3 s23
  clear s3 er hS2 hla
  have hS3 := sqL_same hS s23
  refine ⟨_, rfl, rfl, rfl, _, _, rfl, a, ns, 3, rfl, rfl, by decide, hS3, fun c3 _ => .inl ⟨_, rfl, _, _, rfl, rfl, ⟨by decide, by decide, by decide⟩, _, _, rfl, rfl, mul_smallL (by decide), _, _, rfl, rfl, _, _, rfl, rfl, (by show (0 : Int) < 2 * 10 ^ Int.toNat 24 + 1; decide +kernel), _, _, rfl, rfl, ⟨by decide, by decide, by decide⟩, _, _, rfl, rfl, ?_⟩⟩
  refine ⟨_, rfl, rfl, rfl, _, _, rfl, a, ns, 4, rfl, rfl, by decide, hS3, fun c4 _ => .inl ⟨_, rfl, _, _, rfl, rfl, ⟨by decide, by decide, by decide⟩, _, _, rfl, rfl, (by show (0 : Int) < 10 ^ Int.toNat 24; decide +kernel), _, _, rfl, rfl, by show 2 ≤ sizeLine; decide, fun lb hlb => ?_⟩⟩
  obtain ⟨⟨b1l, b1h⟩, b2l, b2h⟩ := bnd c3 c4
  change tSeq _ _ _ [some (.ref a), some (.ref r), some (.int md), some (.int (1 + fc)), some (.ref la), some (.ref lb), none, none, none, none, none] (upd J3 lb (.lst [.int (c3 % (2 * 10 ^ Int.toNat 24 + 1) - 10 ^ Int.toNat 24), .int (1 + c4 % 10 ^ Int.toNat 24)]))
  generalize c3 % (2 * 10 ^ Int.toNat 24 + 1) - 10 ^ Int.toNat 24 = b0 at *
  generalize 1 + c4 % 10 ^ Int.toNat 24 = b1 at *
  have s4 := Same.new (o := .lst [.int b0, .int b1]) hlb
  have eB := upd_same (H := J3) (a := lb) (o := .lst [.int b0, .int b1])
  have eA4 := s4 _ _ eA
  have er4 := s4 _ _ er3
  generalize upd J3 lb (.lst [.int b0, .int b1]) = J4 at s4 eB eA4 er4
  clear s4 eA er3 hS3 hlb bnd s2 J2
  have ra0 : rr a0 := rr_of (by omega) (by omega)
  have ra1 : rr a1 := rr_of (by omega) (by omega)
  have rfc : rr (1 + fc) := rr_of (by omega) (by omega)
  -- the other cases
  refine ⟨fun τ J => J la = some (.lst [.int a0, .int a1]) ∧ J r = some (.lst [.int n2]) ∧ ∃ (LB : Addr) (b0 b1 : Int), J LB = some (.lst [.int b0, .int b1]) ∧ rr b0 ∧ rr b1 ∧ 0 < b1 ∧ τ = [some (.ref a), some (.ref r), some (.int md), some (.int (1 + fc)), some (.ref la), some (.ref LB), none, none, none, none, none], ?_, ?_⟩
  · refine ⟨_, rfl, rfl, _, rfl, ?_⟩
    by_cases c1 : md = 1
    · refine iteY (by simp [c1]) ⟨_, rfl, ix3 eA4 rfl ⟨_, rfl, _, _, rfl, rfl, ra0.cm rfc, _, rfl, ix3 eA4 rfl ⟨_, rfl, _, _, rfl, rfl, ra1.cm rfc, by show 2 ≤ sizeLine; decide, fun L hL => ?_⟩⟩⟩
      have sL := Same.new (o := .lst [.int (a0 * (1 + fc)), .int (a1 * (1 + fc))]) hL
      have k1 : ∀ z : Int, -1000000000000000000000000 ≤ z → z ≤ 1000000000000000000000000 → rr (z * (1 + fc)) := fun z h1 h2 => by
        have h3 : z.natAbs ≤ 1000000000000000000000000 := by omega
        have h4 : (1 + fc).natAbs ≤ 30 := by omega
        have e : (2 : Nat) ^ 100 = 1267650600228229401496703205376 := by decide +kernel
        unfold rr
        rw [Int.natAbs_mul, e]
        exact Nat.lt_of_le_of_lt (Nat.mul_le_mul h3 h4) (by decide)
      exact ⟨sL _ _ eA4, sL _ _ er4, L, _, _, upd_same, k1 a0 a1l a1h, k1 a1 (by omega) a2h, Int.mul_pos (by omega) (by omega), rfl⟩
    · exact iteN (by simp [c1]) ⟨eA4, er4, lb, b0, b1, eB, rr_of (by omega) (by omega), rr_of (by omega) (by omega), by omega, rfl⟩
  rintro τ J5 ⟨eA5, er5, LB5, b05, b15, eB5, rb05, rb15, bp5, rfl⟩
  clear eB eA4 er4 b1l b1h b2l b2h b0 b1 J4 J3 s23
  refine ⟨fun τ J => J la = some (.lst [.int a0, .int a1]) ∧ J r = some (.lst [.int n2]) ∧ ∃ (LB : Addr) (b0 b1 : Int), J LB = some (.lst [.int b0, .int b1]) ∧ rr b0 ∧ rr b1 ∧ 0 < b1 ∧ τ = [some (.ref a), some (.ref r), some (.int md), some (.int (1 + fc)), some (.ref la), some (.ref LB), none, none, none, none, none], ?_, ?_⟩
  · refine ⟨_, rfl, rfl, _, rfl, ?_⟩
    by_cases c1 : md = 2
    · refine iteY (by simp [c1]) ⟨_, rfl, ix3 eA5 rfl ⟨_, rfl, _, _, rfl, rfl, (by show (0 : Int) < 3; decide), _, _, rfl, rfl, _, _, rfl, rfl, _, rfl, ix3 eA5 rfl ⟨by show 2 ≤ sizeLine; decide, fun L hL => ?_⟩⟩⟩
      have sL := Same.new (o := .lst [.int (a0 + (1 + fc) % 3 - 1), .int a1]) hL
      exact ⟨sL _ _ eA5, sL _ _ er5, L, _, _, upd_same, rr_of (by omega) (by omega), ra1, by omega, rfl⟩
    · exact iteN (by simp [c1]) ⟨eA5, er5, LB5, b05, b15, eB5, rb05, rb15, bp5, rfl⟩
  rintro τ J6 ⟨eA6, er6, lb, b0, b1, eB6, rb0, rb1, bp, rfl⟩
  clear eA5 er5 eB5 rb05 rb15 bp5 J5
  have ap : 0 < a1 := by omega
  -- the shares
  refine ⟨_, rfl, ix3 eA6 rfl ⟨_, rfl, ix3 eA6 rfl ⟨rfl, rfl, fun px dx np ndx ne => mkZ np ndx ne ra0.big ra1.big (Int.ne_of_gt ap) fun J7 t b s7 hpx tb tg te tl bl => ⟨rfl, ?_⟩⟩⟩⟩
  refine ⟨_, rfl, ix3 (s7 _ _ eB6) rfl ⟨_, rfl, ix3 (s7 _ _ eB6) rfl ⟨rfl, rfl, fun py dy np' ndy ne' => mkZ np' ndy ne' rb0.big rb1.big (Int.ne_of_gt bp) fun J8 u v s8 hpy ub ug ue ul vl => ⟨rfl, ?_⟩⟩⟩⟩
  have sx := s7.trans s8
  have eA8 := sx _ _ eA6
  have eB8 := sx _ _ eB6
  have er8 := sx _ _ er6
  have hpx8 := hpx.same s8
  have nxy : py ≠ px := fun e => by
    obtain ⟨dz, vs, hs, _⟩ := hpx
    rw [← e] at hs
    rcases hs with ⟨h, _⟩ | ⟨h, _⟩ <;> (rw [np'] at h; cases h)
  have rt : rr t := Nat.lt_of_le_of_lt tl ra0
  have rb : rr b := Nat.lt_of_le_of_lt bl ra1
  have ru : rr u := Nat.lt_of_le_of_lt ul rb0
  have rv : rr v := Nat.lt_of_le_of_lt vl rb1
  have Tw : Two K J8 (.ref px) (.ref py) t b u v := ⟨.inl ⟨px, rfl, hpx8⟩, .inl ⟨py, rfl, hpy⟩, .inl ⟨px, rfl⟩, tb, ub, tg, ug, rt.sm, rb.sm, ru.sm, rv.sm⟩
  have Tw' : Two K J8 (.ref py) (.ref px) u v t b := ⟨.inl ⟨py, rfl, hpy⟩, .inl ⟨px, rfl, hpx8⟩, .inl ⟨py, rfl⟩, ub, tb, ug, tg, ru.sm, rv.sm, rt.sm, rb.sm⟩
  have x1 := frac_lt tb ub ap bp te ue
  have x2 := frac_lt ub tb bp ap ue te
  have hxy : six (t * v) (u * b) = six (a0 * b1) (b0 * a1) := six_eq x1 x2
  have hyx : six (u * b) (t * v) = six (b0 * a1) (a0 * b1) := six_eq x2 x1
  clear hpx tl bl ul vl np ndx ne np' ndy ne' s7 s8 sx eA6 eB6 er6 J6 J7
  show tSeq _ _ _ [some (.ref a), some (.ref r), some (.int md), some (.int (1 + fc)), some (.ref la), some (.ref lb), some (.ref px), some (.ref py), none, none, none] _
  refine ⟨_, rfl, _, rfl, rfl, rfl, _, _, rfl, t, b, u, v, Tw, fun L J9 s9 eL => ?_⟩
  rw [hxy] at eL
  refine ⟨_, rfl, ix3 (s9 _ _ eA8) rfl ⟨_, rfl, ix3 (s9 _ _ eB8) rfl ⟨_, _, rfl, rfl, ra0.cm rb1, _, rfl, ix3 (s9 _ _ eB8) rfl ⟨_, rfl, ix3 (s9 _ _ eA8) rfl ⟨_, _, rfl, rfl, rb0.cm ra1, rfl, rfl, _, _, rfl, _, _, rfl, rfl, fun M J10 s10 eM => ?_⟩⟩⟩⟩⟩
  refine ⟨rfl, rfl, _, _, rfl, L, M, _, _, rfl, rfl, s10 _ _ eL, eM, _, rfl, iteF ?_⟩
  have z10 := s9.trans s10
  refine ⟨_, rfl, _, rfl, rfl, rfl, _, _, rfl, u, v, t, b, Tw'.same z10, fun L J11 s11 eL => ?_⟩
  rw [hyx] at eL
  have z11 := z10.trans s11
  refine ⟨_, rfl, ix3 (z11 _ _ eB8) rfl ⟨_, rfl, ix3 (z11 _ _ eA8) rfl ⟨_, _, rfl, rfl, rb0.cm ra1, _, rfl, ix3 (z11 _ _ eA8) rfl ⟨_, rfl, ix3 (z11 _ _ eB8) rfl ⟨_, _, rfl, rfl, ra0.cm rb1, rfl, rfl, _, _, rfl, _, _, rfl, rfl, fun M J12 s12 eM => ?_⟩⟩⟩⟩⟩
  refine ⟨rfl, rfl, _, _, rfl, L, M, _, _, rfl, rfl, s12 _ _ eL, eM, _, rfl, iteF ?_⟩
  have z12 := z11.trans s12
  have eA := z12 _ _ eA8
  have eB := z12 _ _ eB8
  have er := z12 _ _ er8
  have Tz := Tw.same z12
  clear z12 z11 z10 s9 s10 s11 s12 eA8 eB8 er8 eL eM hpx8 hpy Tw Tw'
  have cd : CDivW a0 a1 := ⟨ap, PySem.Flt.log2_lt_of (by decide) (Nat.lt_of_lt_of_le ra1 (Nat.pow_le_pow_right (by decide) (by decide)))⟩
  refine ⟨_, rfl, ix3 eA rfl (.inl ⟨_, rfl, _, rfl, ix3 eA rfl ⟨_, _, rfl, rfl, cd, ?_⟩⟩)⟩
  have nb : (a0 / a1).natAbs ≤ a0.natAbs := Int.natAbs_ediv_le_natAbs a0 a1
  refine ⟨_, rfl, _, rfl, _, _, rfl, rfl, _, rfl, _, _, rfl, rfl, ⟨by decide, by decide, by decide⟩, rfl, rfl, _, _, rfl, r, n2, _, rfl, er, rfl, (by decide +kernel), (by decide +kernel), fun tk n3 k0 k1 => ⟨by show 4 ≤ sizeLine; decide, fun LN hLN => ?_⟩⟩
  have d6 : Dr r J12 (upd J12 r (.lst [.int n3])) := Dr.upd
  have eA6 := d6.kp _ _ (ne_of eA er (by intro e; cases e)) eA
  have neB : lb ≠ r := ne_of eB er (by intro e; cases e)
  have eB6 := d6.kp _ _ neB eB
  have Tz6 := Tz.dr er d6
  have sN := Same.new (o := .lst [.int (a0 / a1), .int (a0 / a1 + 1), .int 0, .int tk]) hLN
  have eLN := upd_same (H := upd J12 r (.lst [.int n3])) (a := LN) (o := .lst [.int (a0 / a1), .int (a0 / a1 + 1), .int 0, .int tk])
  have eA7 := sN _ _ eA6
  have eB7 := sN _ _ eB6
  have Tz7 := Tz6.same sN
  have k1' : tk < 1000000 := by
    have : (10 ^ Int.toNat 6 : Int) = 1000000 := by decide +kernel
    have k2 : tk < 10 ^ Int.toNat 6 := k1
    omega
  have rnr : rr (a0 / a1) := rr_of (by omega) (by omega)
  have rnr1 : rr (a0 / a1 + 1) := rr_of (by omega) (by omega)
  have rtk : rr tk := rr_of (by omega) (by omega)
  have r00 : rr 0 := by show (0 : Int).natAbs < 2 ^ 100; decide +kernel
  clear sN hLN eA6 eB6 Tz6 d6 eA eB er Tz k1
  have o1 : (0 : Int) < 1 := by decide
  have g11 : ∀ n : Int, gI n 1 = 1 := gI_one
  have r11 : rr 1 := by show (1 : Int).natAbs < 2 ^ 100; decide +kernel
  refine ⟨LN, rfl, ⟨_, .inl (.inl eLN)⟩, for_list (xs := [.int (a0 / a1), .int (a0 / a1 + 1), .int 0, .int tk]) (fun i σ J => Same (upd (upd J12 r (.lst [.int n3])) LN (.lst [.int (a0 / a1), .int (a0 / a1 + 1), .int 0, .int tk])) J ∧ ∃ v9, σ = [some (.ref a), some (.ref r), some (.int md), some (.int (1 + fc)), some (.ref la), some (.ref lb), some (.ref px), some (.ref py), some (.int (a0 / a1)), v9, none]) ⟨fun _ _ h => h, _, rfl⟩ (fun i σ J _ h => .inl (.inl (h.1 _ _ eLN))) ?_ ?_⟩
  · rintro i x σ J hx ⟨sJ, v9, rfl⟩
    obtain ⟨num, rfl, rn⟩ : ∃ num, x = .int num ∧ rr num := by
      match i, hx with
      | 0, hx => cases hx; exact ⟨_, rfl, rnr⟩
      | 1, hx => cases hx; exact ⟨_, rfl, rnr1⟩
      | 2, hx => cases hx; exact ⟨_, rfl, r00⟩
      | 3, hx => cases hx; exact ⟨_, rfl, rtk⟩
      | i + 4, hx => simp at hx
    have eAJ := sJ _ _ eA7
    have TJ := Tz7.same sJ
    have T1 : Two K J (.ref px) (.int num) t b num 1 := ⟨TJ.hx, .inr ⟨rfl, rfl⟩, .inl ⟨px, rfl⟩, tb, o1, tg, g11 num, rt.sm, rb.sm, rn.sm, r11.sm⟩
    have T2 : Two K J (.int num) (.ref px) num 1 t b := ⟨.inr ⟨rfl, rfl⟩, TJ.hx, .inr ⟨px, rfl⟩, o1, tb, g11 num, tg, rn.sm, r11.sm, rt.sm, rb.sm⟩
    have y1 := frac_lt (S' := num) (c' := 1) tb o1 ap o1 te (rfl : num * 1 = num * 1)
    have y2 := frac_lt (S := num) (c := 1) o1 tb o1 ap (rfl : num * 1 = num * 1) te
    have h1 : six (t * 1) (num * b) = six a0 (num * a1) := by
      have := six_eq y1 y2
      rwa [Int.mul_one a0] at this
    have h2 : six (num * b) (t * 1) = six (num * a1) a0 := by
      have := six_eq y2 y1
      rwa [Int.mul_one a0] at this
    refine ⟨_, rfl, _, rfl, rfl, rfl, _, _, rfl, t, b, num, 1, T1, fun L J1 s1 eL => ?_⟩
    rw [h1] at eL
    refine ⟨_, rfl, ix3 (s1 _ _ eAJ) rfl ⟨_, rfl, _, rfl, ix3 (s1 _ _ eAJ) rfl ⟨_, _, rfl, rfl, rn.cm ra1, rfl, rfl, _, _, rfl, _, _, rfl, rfl, fun M J2 s2 eM => ?_⟩⟩⟩
    refine ⟨rfl, rfl, _, _, rfl, L, M, _, _, rfl, rfl, s2 _ _ eL, eM, _, rfl, iteF ?_⟩
    have z2 := s1.trans s2
    refine ⟨_, rfl, _, rfl, rfl, rfl, _, _, rfl, num, 1, t, b, T2.same z2, fun L J3 s3 eL => ?_⟩
    rw [h2] at eL
    have z3 := z2.trans s3
    refine ⟨_, rfl, _, rfl, ix3 (z3 _ _ eAJ) rfl ⟨_, _, rfl, rfl, rn.cm ra1, _, rfl, ix3 (z3 _ _ eAJ) rfl ⟨rfl, rfl, _, _, rfl, _, _, rfl, rfl, fun M J4 s4 eM => ?_⟩⟩⟩
    refine ⟨rfl, rfl, _, _, rfl, L, M, _, _, rfl, rfl, s4 _ _ eL, eM, _, rfl, iteF ?_⟩
    have z4 := z3.trans s4
    refine ⟨_, rfl, rfl, rfl, fun pz dz nz ndz nez => mkZ nz ndz nez rn.big r11.big (by decide) fun J5 T0 B0 s5 hpz Bp gT eT lT lB => ⟨rfl, ?_⟩⟩
    have rT : rr T0 := Nat.lt_of_le_of_lt lT rn
    have rB : rr B0 := Nat.lt_of_le_of_lt lB r11
    have h3 : six (T0 * 1) (num * B0) = six num num := by
      rw [eT]
      exact six_eq (by omega) (by omega)
    refine ⟨_, rfl, rfl, rfl, _, _, rfl, T0, B0, num, 1, ⟨.inl ⟨pz, rfl, hpz⟩, .inr ⟨rfl, rfl⟩, .inl ⟨pz, rfl⟩, Bp, o1, gT, g11 num, rT.sm, rB.sm, rn.sm, r11.sm⟩, fun L J6 s6 eL => ?_⟩
    rw [h3] at eL
    refine ⟨_, rfl, _, rfl, rfl, rfl, _, _, rfl, _, _, rfl, rfl, fun M J7 s7 eM => ?_⟩
    exact ⟨rfl, rfl, _, _, rfl, L, M, _, _, rfl, rfl, s7 _ _ eL, eM, _, rfl, iteF ⟨sJ.trans (((z4.trans s5).trans s6).trans s7), _, rfl⟩⟩
  rintro σ J ⟨sJ, v9, rfl⟩
  have eA := sJ _ _ eA7
  have eB := sJ _ _ eB7
  have Tz := Tz7.same sJ
  clear eA7 eB7 Tz7 eLN sJ rnr rnr1 rtk k0 k1' nb cd
  refine ⟨by show 2 ≤ sizeLine; decide, fun t1 ht1 => ⟨by show 1 ≤ sizeLine; decide, fun l1 hl1 => fun d1 hd1 => ⟨by show 7 ≤ sizeLine; decide, fun LO hLO => ?_⟩⟩⟩
  have s1 := Same.new (o := .tup [.int 1, .int 1]) ht1
  have s2 := Same.new (o := .lst [.int 1]) hl1
  have s3 := Same.new (o := .dK []) hd1
  have s4 := Same.new (o := .lst [.non, .str "1", .ref t1, .ref l1, .ref d1, .bl true, .bl false]) hLO
  have e1 := s4 _ _ (s3 _ _ (s2 _ _ (upd_same (H := J) (a := t1) (o := .tup [.int 1, .int 1]))))
  have e2 := s4 _ _ (s3 _ _ (upd_same (H := upd J t1 (.tup [.int 1, .int 1])) (a := l1) (o := .lst [.int 1])))
  have e3 := s4 _ _ (upd_same (H := upd (upd J t1 (.tup [.int 1, .int 1])) l1 (.lst [.int 1])) (a := d1) (o := .dK []))
  have eLO := upd_same (H := upd (upd (upd J t1 (.tup [.int 1, .int 1])) l1 (.lst [.int 1])) d1 (.dK [])) (a := LO) (o := .lst [.non, .str "1", .ref t1, .ref l1, .ref d1, .bl true, .bl false])
  have s14 := ((s1.trans s2).trans s3).trans s4
  refine ⟨LO, rfl, ⟨_, .inl (.inl eLO)⟩, for_list (xs := [.non, .str "1", .ref t1, .ref l1, .ref d1, .bl true, .bl false]) (fun i σ J' => Same (upd (upd (upd (upd J t1 (.tup [.int 1, .int 1])) l1 (.lst [.int 1])) d1 (.dK [])) LO (.lst [.non, .str "1", .ref t1, .ref l1, .ref d1, .bl true, .bl false])) J' ∧ ∃ v10, σ = [some (.ref a), some (.ref r), some (.int md), some (.int (1 + fc)), some (.ref la), some (.ref lb), some (.ref px), some (.ref py), some (.int (a0 / a1)), v9, v10]) ⟨fun _ _ h => h, _, rfl⟩ (fun i σ J' _ h => .inl (.inl (h.1 _ _ eLO))) ?_ ?_⟩
  · rintro i x σ J' hx ⟨sJ, v10, rfl⟩
    have od : OddV J' x := by
      match i, hx with
      | 0, hx => cases hx; exact .non
      | 1, hx => cases hx; exact .str _
      | 2, hx => cases hx; exact .tup (sJ _ _ e1)
      | 3, hx => cases hx; exact .lst (sJ _ _ e2)
      | 4, hx => cases hx; exact .dK (sJ _ _ e3)
      | 5, hx => cases hx; exact .bl _
      | 6, hx => cases hx; exact .bl _
      | i + 7, hx => simp at hx
    refine ⟨rfl, rfl, fun p1 q1 n1' m1' k1' => mkZ n1' m1' k1' r11.big r11.big (by decide) fun J1 T1 B1 z1 hp1 _ _ _ _ _ => ⟨rfl, ?_⟩⟩
    obtain ⟨dx1, vs1, hs1, _⟩ := hp1
    refine ⟨_, rfl, p1, dx1, vs1, x, hs1, oddV_same od z1, ⟨_, _, rfl, oddV_same od z1⟩, .inl ⟨rfl, rfl⟩, _, rfl, iteF ?_⟩
    refine ⟨rfl, rfl, fun p2 q2 n2' m2' k2' => mkZ n2' m2' k2' r00.big r11.big (by decide) fun J2 T2 B2 z2 hp2 _ _ _ _ _ => ⟨rfl, ?_⟩⟩
    obtain ⟨dx2, vs2, hs2, _⟩ := hp2
    have z12 := z1.trans z2
    refine ⟨_, rfl, p2, dx2, vs2, x, hs2, oddV_same od z12, ⟨_, _, rfl, oddV_same od z12⟩, .inl ⟨rfl, rfl⟩, _, rfl, iteF ?_⟩
    refine ⟨_, rfl, rfl, rfl, fun p3 q3 n3' m3' k3' => mkZ n3' m3' k3' r11.big r11.big (by decide) fun J3 T3 B3 z3 hp3 _ _ _ _ _ => ⟨rfl, ?_⟩⟩
    obtain ⟨dx3, vs3, hs3, _⟩ := hp3
    have z13 := z12.trans z3
    refine ⟨p3, dx3, vs3, x, hs3, oddV_same od z13, ⟨_, _, rfl, oddV_same od z13⟩, .inr ⟨rfl, rfl⟩, _, rfl, iteF ?_⟩
    refine ⟨rfl, rfl, fun p4 q4 n4' m4' k4' => mkZ n4' m4' k4' r11.big r11.big (by decide) fun J4 T4 B4 z4 hp4 _ _ _ _ _ => ⟨rfl, ?_⟩⟩
    obtain ⟨dx4, vs4, hs4, _⟩ := hp4
    have z14 := z13.trans z4
    exact ⟨_, rfl, p4, dx4, vs4, rfl, hs4, oddV_same od z14, ⟨_, _, rfl, oddV_same od z14⟩, _, rfl, iteF ⟨sJ.trans z14, _, rfl⟩⟩
  rintro σ J9 ⟨sJ, v10, rfl⟩
  have s9 := s14.trans sJ
  have eA9 := s9 _ _ eA
  have eB9 := s9 _ _ eB
  have Tz9 := Tz.same s9
  clear e1 e2 e3 eLO s1 s2 s3 s4 s14 sJ s9 eA eB Tz hLO
  have vB : (decide (u = t) && decide (v = b)) = decide (a0 * b1 = b0 * a1) := by
    rw [eqB ub tb ug tg]
    exact decide_eq_decide.mpr (by omega)
  refine ⟨_, rfl, _, rfl, by show 2 ≤ sizeLine; decide, fun LL hLL => ?_⟩
  have sL := Same.new (o := .lst [.ref py, .non]) hLL
  have TL := Tz9.same sL
  have hsx := TL.hx.sh
  have hsy := TL.hy.sh
  obtain ⟨dxx, vsx, hx1, _⟩ := id hsx
  obtain ⟨dxy, vsy, hy1, _⟩ := id hsy
  refine ⟨px, dxx, vsx, LL, [.ref py, .non], [decide (u = t) && decide (v = b), false], rfl, hx1, rfl, upd_same, rfl, fun i z bb h1 h2 => ?_, ?_⟩
  · match i, h1, h2 with
    | 0, h1, h2 => 
      cases h1
      cases h2
      exact .inl ⟨py, dxy, vsy, rfl, nxy, hy1, _, _, rfl, py, u, v, t, b, rfl, hsy, TL.hx, rfl, rfl⟩
    | 1, h1, h2 =>
      cases h1
      cases h2
      exact .inr ⟨.non, ⟨_, _, rfl, .non⟩, rfl⟩
    | i + 2, h1, _ => simp at h1
  refine ⟨_, rfl, ix3 (sL _ _ eA9) rfl ⟨_, rfl, ix3 (sL _ _ eB9) rfl ⟨_, _, rfl, rfl, ra0.cm rb1, _, rfl, ix3 (sL _ _ eB9) rfl ⟨_, rfl, ix3 (sL _ _ eA9) rfl ⟨_, _, rfl, rfl, rb0.cm ra1, rfl, ?_⟩⟩⟩⟩⟩
  have ez : decide (V.int (a0 * b1) = V.int (b0 * a1)) = decide (a0 * b1 = b0 * a1) := decide_eq_decide.mpr ⟨fun h => by injection h, fun h => by rw [h]⟩
  have ex : [decide (u = t) && decide (v = b), false].any id = decide (a0 * b1 = b0 * a1) := by rw [← vB]; simp
  show S.rEqG K (.bl ([decide (u = t) && decide (v = b), false].any id)) (.bl (decide (V.int (a0 * b1) = V.int (b0 * a1)))) _ _
  rw [ex, ez]
  exact ⟨1, true, by decide, (((eg_dat (K := K) (.bl (decide (a0 * b1 = b0 * a1))) (.bl (decide (a0 * b1 = b0 * a1))) rfl rfl).up (by simp [PyData.depth])).to (by simp [PyData.eqv])).eq, q _⟩
end
end W

namespace W
open PySem PySem.Spec PyProof.Rows L2
theorem facts {P : Program} {w : World} {K : S.Frag} {h : Heap} {mg : Str → Option Value} {f : Addr} (X : K.In h) (G : h.Ns mainGlobals mg) (hfa : mg ("law" : Str) = some (.ref f)) (c : S.SaysX cks fns gts K) :
    ∃ fd : FuncData, (∀ (s : Shared) (v : Value), BindsTo s fd ⟨[v], []⟩ [("_law_script", v)]) ∧ ∀ base : Heap, FnOk P w K mg base (L2.CX P w) 6 f fd ["_law_script"] (spLaw K) := by
  have T : Txt K mg := txt_of X G c
  have e := hfa.symm.trans T.g_law
  cases e
  have b := FunD.bindsA (ps := ["_law_script"]) T.F_law fun _ _ _ _ _ _ us hl => match us, hl with | [_], _ => rfl
  exact ⟨_, fun s v => b s [v] rfl, fun base => ok_law T⟩
end W
open PySem PySem.W PySem.Calls PyProof.Rows
set_option maxRecDepth 100000 in
set_option maxHeartbeats 0 in
theorem PySem.Challenge.cw_seenshares_k03_share_order_holds : PySem.Challenge.rw_seenshares_k03_share_order.Holds := by
  w_on; o_law
  refine HandSHeadRun.head_any (r := OpenLaw.row PySem.Challenge.rw_seenshares_k03_share_order) (q := view (OpenLaw.row PySem.Challenge.rw_seenshares_k03_share_order).prog [19]) (H := _root_.W.hk) (ob := _root_.W.ob) (M := 3000)
    (loose := _root_.W.lo) (d := HandSHeadRun.topDef (OpenLaw.row PySem.Challenge.rw_seenshares_k03_share_order).prog 19) (kwd := []) _root_.W.ob_eq (by kernel_rfl) (fun s => by kernel_rfl) _root_.W.run
    (by kernel_rfl) (by kernel_rfl) (by kernel_rfl) (by rfl) (by first | assumption | decide +kernel) (by decide +kernel) ⟨rfl, rfl, rfl, rfl, rfl, by decide +kernel⟩ ?hw ?hc
  case hw => w_witness2
  case hc =>
    refine _root_.S.walk_X (l := PySem.Challenge.rw_seenshares_k03_share_order) (n := 63) (k := 6) (x := "_law_script") rfl (by decide) (by kernel_rfl) ⟨rfl, by decide, by decide⟩ ?F
    intro w mg fa h Y G hmg0
    obtain ⟨K, KX, c⟩ := Y
    have hmg : mg ("law" : PySem.Str) = some (.ref fa) := by
      have e : (HandSHeadRun.topDef (OpenLaw.row PySem.Challenge.rw_seenshares_k03_share_order).prog 19).name = ("law" : PySem.Str) := by kernel_rfl
      rw [← e]; exact hmg0
    obtain ⟨fd, hb, hF⟩ := _root_.W.facts (P := (PySem.Challenge.rw_seenshares_k03_share_order).prog) (w := w) KX G hmg c
    exact ⟨K, fd, _root_.W.spLaw K, KX, hb, fun H a ns hl hbits _ hS => ⟨_, rfl, a, ns, rfl, hS, hl, fun _ => rfl⟩, fun base _ _ => hF base⟩

