import PyProof.Rows.All
import Wide.All
import OpenK.AllK
import Wide.FinOn
import KE.KStateDown
import Lean
import HandS.Base
import HandS.Call
import HandS.List
import HandS.Comp
import HandS.Ends
import HandS.Dict
import HandS.Iter
import HandS.Text
import HandS.More
import HandS.Exc
import HandS.FStr
import KE.KCallOwn
import KE.KOpsOwn
import HandS.ExcOwn
import HandS.TryOnly
import HandS.Words
import HandS.WordsList
import HandS.WordsDict
import HandS.WordsExc
import HandS.Defaults
import HandS.MakeKw
import HandS.IsInst
import HandS.Wide
import HandS.ExcInit
import HandS.ExcField
import HandS.ExcIs
import HandS.SlotsOwn
import HandS.NamedTupSort
import HandS.OwnEq
import HandS.EndBits
import HandS.Head0
import HandS.Head1
import HandS.Head2
import HandS.HeadEnd
import HandS.HeadHook1
import HandS.HeadHook2
import HandS.DictComp
import HandS.Property
import HandS.Deep
import HandS.Walk
import HandS.TupAny
import KE.KEqDict
import KE.DataEq
import PySem.Challenge.RW_seenshares_k09_program_equality
set_option Elab.async false
set_option linter.all false
set_option maxRecDepth 100000
set_option maxHeartbeats 4000000
namespace S
open PySem PySem.Spec PyProof.Rows L2
/-! the head's facts as plain Bools over the written part -/
abbrev Frag := PySem.W.Frag
abbrev Ck := Frag → Bool
def obsX (ck : List Ck) (fn : List He.DefD) (K : Frag) : He.AlD :=
  (ck.all (fun c => c K) && fn.all (fun d => d.ok K), fn.map (fun d => He.fnW K d.at_))
def obsXG (n : Nat) (ck : List Ck) (fn : List He.DefD) (g : Addr → Option Obj) : He.AlD :=
  obsX ck fn (He.frG g (He.asD g n))
def SaysX (ck : List Ck) (fn : List He.DefD) (K : Frag) : Prop := obsX ck fn K = He.valD fn
def hookX (n : Nat) (ck : List Ck) (fn : List He.DefD) : PySem.W.Hook where
  α := He.AlD
  obs := fun s => obsXG n ck fn s.heap.get?
  val := fun _ => He.valD fn
  says := fun _ h => ∃ K : Frag, K.In h ∧ SaysX ck fn K
  of := fun _ _ e => ⟨_, He.frG_in, e⟩
  keeps := fun _ _ _ ⟨K, hK, c⟩ k => ⟨K, PySem.W.Frag.In.keeps hK k, c⟩
theorem obsXG_eq {n : Nat} {ck : List Ck} {fn : List He.DefD} {g : Addr → Option Obj} {s : Shared}
    (h : ∀ a, g a = s.heap.get? a) : obsXG n ck fn g = (hookX n ck fn).obs s := by
  have e : g = s.heap.get? := funext h
  subst e
  exact rfl
theorem SaysX.bools {ck : List Ck} {fn : List He.DefD} {K : Frag} (c : SaysX ck fn K) :
    (ck.all (fun c => c K) && fn.all (fun d => d.ok K)) = true := congrArg Prod.fst c
theorem SaysX.fact {ck : List Ck} {fn : List He.DefD} {K : Frag} (c : SaysX ck fn K) (i : Nat) {f : Ck}
    (h : ck[i]? = some f := by rfl) : f K = true :=
  List.all_eq_true.mp (He.ba c.bools).1 f (List.mem_of_getElem? h)
/-- the function object that stands there -/
def fdA (K : Frag) (p : Str × Option Str) : FuncData := match K.lookup (He.fAd K p) with
  | some ⟨_, _, .func fd, _⟩ => fd
  | _ => PySem.W.fnOf "" "" ⟨[], [], none, [], [], none, []⟩ [] ⟨.function, [], false, false, []⟩ .none .none .none .none none .none .none
abbrev FunA (K : Frag) (d : He.DefD) : Prop :=
  FunD K d.name d.qual d.params d.body d.scope (d.dvs K) (d.kws K) (He.fAd K d.at_) (fdA K d.at_)
theorem SaysX.def_ {ck : List Ck} {fn : List He.DefD} {K : Frag} (c : SaysX ck fn K) (i : Nat) {d : He.DefD}
    (h : fn[i]? = some d := by rfl) : FunA K d := by
  have e : fn.map (fun d => He.fnW K d.at_) = fn.map He.DefD.val := congrArg Prod.snd c
  have e2 := congrArg (fun l => l[i]?) e
  simp only [List.getElem?_map, h, Option.map_some, Option.some.injEq] at e2
  obtain ⟨fd, F⟩ := He.DefD.funD e2 (List.all_eq_true.mp (He.ba c.bools).2 d (List.mem_of_getElem? h))
  have q : fdA K d.at_ = fd := by
    obtain ⟨oc, od, dV, kV, doc, pm, an, cdv, ct, osl, r, lk, _⟩ := F.ex
    unfold fdA
    rw [lk]
  unfold FunA
  rw [q]
  exact F
/-! own exception classes, over ValueError at any depth -/
def oexO (K : Frag) (C : Addr) : Bool := (match K.lookup C with
  | some ⟨.type "type", _, .cls cd, sl⟩ => (match cd.mro, sl.toList with
    | .ref C' :: bm, [_, _, _, _, some (.builtin n), _] =>
      C' == C && (n == "ValueError.__new__" && (!cd.hasDel && (cd.hasDict && PySem.HandSPX.refsVE bm)))
    | _, _ => false)
  | _ => false)
theorem oexO_ok {K : Frag} {C : Addr} (q : oexO K C = true) :
    ∃ nm qn N bs bm sn sub ab col dd k0 k1 k2 k3 k5, K.lookup C = some (excClassObj nm qn C N bs bm true sn sub ab col dd k0 k1 k2 k3 k5 "ValueError.__new__") ∧ PySem.HandSPX.refsVE bm = true := by
  unfold oexO at q
  split at q
  · rename_i dd cd sl ho
    split at q
    · rename_i c1 bm k0 k1 k2 k3 n k5 hm hs
      simp only [Bool.and_eq_true, beq_iff_eq, Bool.not_eq_true'] at q
      obtain ⟨e1, e2, e3, e4, e5⟩ := q
      subst e1 e2
      obtain ⟨nm, bs, mro, ns, qn, hd, sn, sub, ab, col, dl⟩ := cd
      simp only at hm e3 e4
      subst hm e3 e4
      obtain ⟨l⟩ := sl
      simp only at hs
      subst hs
      exact ⟨nm, qn, ns, bs, bm, sn, sub, ab, col, dd, k0, k1, k2, k3, k5, ho, e5⟩
    · cases q
  · cases q
def oexB (K : Frag) (C : Addr) : Bool := oexO K C && (He.eqO (PySem.W.findIn K (.ref C) "__setattr__") (some (some (.builtin "object.__setattr__"))) &&
  (decide (PySem.W.subIn K (.ref C) (.type "BaseException") = some true) && (decide (PySem.W.typeIn K (.ref C) = some (.type "type")) && PySem.W.keepIn K (.ref C))))
theorem oexB_ok {K : Frag} {C : Addr} (q : oexB K C = true) : OexC K C := by
  obtain ⟨a, q⟩ := He.ba q
  obtain ⟨b, q⟩ := He.ba q
  obtain ⟨c, q⟩ := He.ba q
  obtain ⟨d, e⟩ := He.ba q
  exact ⟨oexO_ok a, He.eqO_ok b, of_decide_eq_true c, of_decide_eq_true d, e⟩
def excB (K : Frag) (D : Addr) : Bool := xfB K D && (He.eqO (PySem.W.findIn K (.ref D) "__class__") (some (some (.builtin "object.__class__"))) &&
  (He.eqO (PySem.W.specialIn K (.builtin "object.__class__") "__get__") (some (some (.builtin "getset_descriptor.__get__"))) &&
  (decide (PySem.W.takesIn K (.builtin "object.__class__") = some true) && decide (PySem.W.mroIn K D (.type "object") = some true))))
theorem excB_ok {K : Frag} {D : Addr} (q : excB K D = true) : ExcC K D := by
  obtain ⟨a, q⟩ := He.ba q
  obtain ⟨b, q⟩ := He.ba q
  obtain ⟨c, q⟩ := He.ba q
  obtain ⟨d, e⟩ := He.ba q
  have x := xfB_ok a
  exact ⟨x.ga, x.gg, x.exC, x.hdC, He.eqO_ok b, He.eqO_ok c, of_decide_eq_true d, of_decide_eq_true e⟩
end S
namespace S
open PySem PySem.Spec PyProof.Rows L2
/-! promises by their number of arguments -/
def Sp1 (f : V → Hp → VK → XK → Prop) : Sp := fun vs H Q E => ∃ x, vs = [x] ∧ f x H Q E
def Sp2 (f : V → V → Hp → VK → XK → Prop) : Sp := fun vs H Q E => ∃ x y, vs = [x, y] ∧ f x y H Q E
def Sp3 (f : V → V → V → Hp → VK → XK → Prop) : Sp := fun vs H Q E => ∃ x y z, vs = [x, y, z] ∧ f x y z H Q E
def Sp4 (f : V → V → V → V → Hp → VK → XK → Prop) : Sp := fun vs H Q E => ∃ x y z u, vs = [x, y, z, u] ∧ f x y z u H Q E
def Sp5 (f : V → V → V → V → V → Hp → VK → XK → Prop) : Sp := fun vs H Q E => ∃ x y z u v, vs = [x, y, z, u, v] ∧ f x y z u v H Q E
section
variable {vs : List V} {H : Hp} {Q : VK} {E : XK}
theorem splen1 {f} (h : Sp1 f vs H Q E) : vs.length = 1 := by obtain ⟨_, rfl, _⟩ := h; rfl
theorem splen2 {f} (h : Sp2 f vs H Q E) : vs.length = 2 := by obtain ⟨_, _, rfl, _⟩ := h; rfl
theorem splen3 {f} (h : Sp3 f vs H Q E) : vs.length = 3 := by obtain ⟨_, _, _, rfl, _⟩ := h; rfl
theorem splen4 {f} (h : Sp4 f vs H Q E) : vs.length = 4 := by obtain ⟨_, _, _, _, rfl, _⟩ := h; rfl
theorem splen5 {f} (h : Sp5 f vs H Q E) : vs.length = 5 := by obtain ⟨_, _, _, _, _, rfl, _⟩ := h; rfl
end
/-! built-ins by name -/
theorem boot_int : bootBuiltins "int" = some (.type "int") := by decide +kernel
theorem boot_bool : bootBuiltins "bool" = some (.type "bool") := by decide +kernel
theorem boot_str : bootBuiltins "str" = some (.type "str") := by decide +kernel
theorem boot_list : bootBuiltins "list" = some (.type "list") := by decide +kernel
theorem boot_tuple : bootBuiltins "tuple" = some (.type "tuple") := by decide +kernel
theorem boot_dict : bootBuiltins "dict" = some (.type "dict") := by decide +kernel
theorem boot_len : bootBuiltins "len" = some (.builtin "len") := by decide +kernel
theorem boot_abs : bootBuiltins "abs" = some (.builtin "abs") := by decide +kernel
theorem boot_isinstance : bootBuiltins "isinstance" = some (.builtin "isinstance") := by decide +kernel
section
variable {X : Cx} {CX : CXT} {k n : Nat} {f C : Addr} {fd : FuncData} {ps ks : List Str} {sp : Sp} {E : L2.St → XK} {x m : Str} {p pos apos : Pos} {o e : Expr} {es : List Expr} {kws : List Keyword} {ta : TE} {t tk : TA} {g : List Value → List Value → List Value} {gV : List V → List V → List V}
theorem pe_globI {i : Int} (hg : Gl X x) (h : ∃ t, X.mg x = some (.int i t)) (hd : (x == ("__debug__" : Str)) = false := by decide) : PE X (.Name x pos) (tC (.int i)) := by
  obtain ⟨t, h⟩ := h
  exact pe_glob hg h ⟨t, rfl⟩ hd
theorem pe_globS {z : Str} (hg : Gl X x) (h : ∃ t, X.mg x = some (.str z t)) (hd : (x == ("__debug__" : Str)) = false := by decide) : PE X (.Name x pos) (tC (.str z)) := by
  obtain ⟨t, h⟩ := h
  exact pe_glob hg h ⟨t, rfl⟩ hd
/-! what is raised, wished for at the slots -/
theorem pas0 {X : Cx} : ∀ σ : L2.St, PassesAt (L2.CX X.prog X.w) X σ E0 := fun σ pins H s e s' I c => passL pins σ H s e s' I c
theorem pasE {X : Cx} {W : WX} (tk : Takes X W) : ∀ σ : L2.St, PassesAt (L2.CX X.prog X.w) X σ (fun cls d H => W cls d σ H) := fun σ => passAt tk σ
theorem own_of {K : Value → Shared → Prop} {E1 : Value → Shared → Prop} (hx : X.xe = fun e s' => wpAny (model X.prog X.w) X.A (leaving X.env e) (fun _ s2 => K e s2) E1 s') : PassesOwn (model X.prog X.w) X.A X.env X.xe := passes_of hx
theorem kb_of_binds {K : Frag} {ds : List Value} {dvs : List V} (hb : Binds K fd ps ds) (hd : Vals dvs ds) (hl : n + dvs.length = ps.length) : KBn K fd ps n [] (fun us _ => us ++ ds) (fun vs _ => vs ++ dvs) where
  to := fun s us ws k l1 l2 => by
    have e : ([] : List Str).zip ws = [] := rfl
    rw [e]
    exact hb s us k (by rw [List.length_append, l1, ← hd.length]; exact hl)
  rel := fun r _ => r.append hd
/-! f(e, .., k = v, ..); C(e, .., k = v, ..); o.m(e, .., k = v, ..) -/
def tFnS (n m : Nat) (sp : Sp) (gV : List V → List V → List V) (E : L2.St → XK) (t tk : TA) : TE := fun σ H Q =>
  t σ H fun vs H1 => tk σ H1 fun zs H2 => vs.length = n ∧ zs.length = m ∧ sp (gV vs zs) H2 Q (E σ)
def tMkS (C : Addr) (n m : Nat) (sp : Sp) (gV : List V → List V → List V) (E : L2.St → XK) (t tk : TA) : TE := fun σ H Q =>
  t σ H fun vs H1 => tk σ H1 fun zs H2 => vs.length = n ∧ zs.length = m ∧ ∀ x dx, H2 x = none → H2 dx = none → dx ≠ x →
    sp (gV (.ref x :: vs) zs) (upd (upd H2 dx (.own x)) x (.ins C dx [])) (fun v H3 => v = .non ∧ Q (.ref x) H3) (E σ)
def tMtS (C : Addr) (m : Str) (n l : Nat) (sp : Sp) (gV : List V → List V → List V) (E : L2.St → XK) (ta : TE) (t tk : TA) : TE := fun σ H Q =>
  ta σ H fun x H1 => ∃ a dx fs, x = .ref a ∧ H1 a = some (.ins C dx fs) ∧ fs.lookup m = none ∧
    t σ H1 fun vs H2 => tk σ H2 fun zs H3 => vs.length = n ∧ zs.length = l ∧ sp (gV (x :: vs) zs) H3 Q (E σ)
section
variable {pins : List (Addr × Obj)} {σ : L2.St} {H : Hp} {s : Shared} {Q : VK} {us ws : List Value} {vs zs : List V}
theorem run_S (F : FnOk X.prog X.w X.K X.mg X.base CX k f fd ps sp) (hr : Room k X.A) (hb : KBn X.K fd ps n ks g gV) (hx : PassesAt CX X σ (E σ)) (I : Inv X pins σ H s) (r : Vals vs us) (rz : Vals zs ws)
    (l1 : vs.length = n) (l2 : zs.length = ks.length) (h : sp (gV vs zs) H Q (E σ)) : wpAny (model X.prog X.w) X.A (call (.ref f) us (ks.zip ws)) (EP X pins σ Q) X.xe s := by
  have a1 : us.length = n := r.length.symm.trans l1
  have a2 : ws.length = ks.length := rz.length.symm.trans l2
  refine wpAny_call (codeAny_mono (F.run X.A X.stack s H ⟨us, ks.zip ws⟩ (g us ws) (gV vs zs) Q (E σ) hr I.env0 (hb.to s us ws I.kIn a1 a2) (hb.rel r rz) h) fun r s' hq => ?_)
  match r, hq with
  | .error e, hq => exact hx pins H s e s' I hq
  | .ok (.ret u), hq => exact I.after hq
  | .ok .next, hq => exact hq.elim
  | .ok .brk, hq => exact hq.elim
  | .ok .cont, hq => exact hq.elim
theorem run_mkS (M : Mk X.K C f) (F : FnOk X.prog X.w X.K X.mg X.base CX k f fd ps sp) (hr : Room (k + 1) X.A) (hb : KBn X.K fd ps (n + 1) ks g gV) (hx : PassesAt CX X σ (E σ)) (I : Inv X pins σ H s) (r : Vals vs us) (rz : Vals zs ws)
    (l1 : vs.length = n) (l2 : zs.length = ks.length) (h : ∀ x dx, H x = none → H dx = none → dx ≠ x → sp (gV (.ref x :: vs) zs) (upd (upd H dx (.own x)) x (.ins C dx [])) (fun v H2 => v = .non ∧ Q (.ref x) H2) (E σ)) :
    wpAny (model X.prog X.w) X.A (call (.ref C) us (ks.zip ws)) (EP X pins σ Q) X.xe s := by
  have hq := h (s.heap.objs.size + 1) s.heap.objs.size (I.hok.fresh (Nat.le_succ _)) (I.hok.fresh (Nat.le_refl _)) (Nat.ne_of_lt (Nat.lt_succ_self _))
  have J := Inv.made (C := C) I
  have r1 : Vals (V.ref (s.heap.objs.size + 1) :: vs) (Value.ref (s.heap.objs.size + 1) :: us) := .cons rfl r
  have a1 : (Value.ref (s.heap.objs.size + 1) :: us).length = n + 1 := by rw [← r1.length]; exact congrArg Nat.succ l1
  have a2 : ws.length = ks.length := rz.length.symm.trans l2
  have run := F.run _ X.stack _ _ ⟨Value.ref (s.heap.objs.size + 1) :: us, ks.zip ws⟩ (g (Value.ref (s.heap.objs.size + 1) :: us) ws) _ _ (E σ) (hr.make C us (ks.zip ws)) (J.env0.make C us (ks.zip ws)) (hb.to _ _ ws J.kIn a1 a2) (hb.rel r1 rz) hq
  refine wpAny_call (make_map (f := f) I.kIn M.makes M.init (beq_iff_eq.mp M.fn) (codeAny_mono run fun r s' hq2 => ?_))
  match r, hq2 with
  | .error e, hq2 => exact hx pins _ _ e s' J hq2
  | .ok (.ret u), hq2 =>
    obtain ⟨v, H2, J2, rv, ev, q3⟩ := J.after hq2
    subst ev
    exact ⟨rv, ⟨V.ref (s.heap.objs.size + 1), H2, J2, rfl, q3⟩⟩
  | .ok .next, hq2 => exact hq2.elim
  | .ok .brk, hq2 => exact hq2.elim
  | .ok .cont, hq2 => exact hq2.elim
end
theorem pe_fnS (F : FnOk X.prog X.w X.K X.mg X.base CX k f fd ps sp) (hr : Room k X.A) (hg : Gl X x) (hm : X.mg x = some (.ref f)) (hk : PySem.W.keepIn X.K (.ref f) = true) (hb : KBn X.K fd ps n ks g gV) (hx : ∀ σ, PassesAt CX X σ (E σ))
    (ha : PA X (e :: es) t) (hkw : PK X kws tk) (hall : (backToKw pos (keywordEach kws X.env)).all (·.1.isSome) = true) (hks : (backToKw pos (keywordEach kws X.env)).filterMap (·.1) = ks)
    (hdb : (x == ("__debug__" : Str)) = false := by decide) (he : starEach (e :: es) X.env = (false, eval e X.env) :: starEach es X.env := by rfl)
    (hpl : ((backTo pos (starEach (e :: es) X.env)).any (·.1) || (backToKw pos (keywordEach kws X.env)).any (·.1.isNone)) = false := by rfl) :
    PE X (.Call (.Name x p) (e :: es) kws pos) (tFnS n ks.length sp gV E t tk) := ⟨fun pins s σ H Q I h =>
  wpAny_Call_Name_kw (ld_glob I hg hm (PySem.W.callWith_KW (h₀ := X.base) I.ok.mod.kin hk hall (thn (ha.run pos pins s σ H _ I h) fun us s1 ⟨vs, H1, I1, r, q⟩ =>
    thn (hkw.run pos pins s1 σ H1 _ I1 q) fun ws s2 ⟨zs, H2, I2, rz, l1, l2, q2⟩ => ⟨I2.kIn, by rw [hks]; exact run_S F hr hb (hx σ) I2 r rz l1 l2 q2⟩) hpl he) hdb)⟩
theorem pe_mkS (M : Mk X.K C f) (F : FnOk X.prog X.w X.K X.mg X.base CX k f fd ps sp) (hr : Room (k + 1) X.A) (hg : Gl X x) (hm : X.mg x = some (.ref C)) (hb : KBn X.K fd ps (n + 1) ks g gV) (hx : ∀ σ, PassesAt CX X σ (E σ))
    (ha : PA X (e :: es) t) (hkw : PK X kws tk) (hall : (backToKw pos (keywordEach kws X.env)).all (·.1.isSome) = true) (hks : (backToKw pos (keywordEach kws X.env)).filterMap (·.1) = ks)
    (hdb : (x == ("__debug__" : Str)) = false := by decide) (he : starEach (e :: es) X.env = (false, eval e X.env) :: starEach es X.env := by rfl)
    (hpl : ((backTo pos (starEach (e :: es) X.env)).any (·.1) || (backToKw pos (keywordEach kws X.env)).any (·.1.isNone)) = false := by rfl) :
    PE X (.Call (.Name x p) (e :: es) kws pos) (tMkS C n ks.length sp gV E t tk) := ⟨fun pins s σ H Q I h =>
  wpAny_Call_Name_kw (ld_glob I hg hm (PySem.W.callWith_KW (h₀ := X.base) I.ok.mod.kin M.kp hall (thn (ha.run pos pins s σ H _ I h) fun us s1 ⟨vs, H1, I1, r, q⟩ =>
    thn (hkw.run pos pins s1 σ H1 _ I1 q) fun ws s2 ⟨zs, H2, I2, rz, l1, l2, q2⟩ => ⟨I2.kIn, by rw [hks]; exact run_mkS M F hr hb (hx σ) I2 r rz l1 l2 q2⟩) hpl he) hdb)⟩
theorem pe_mtS {pl : Sem Bool} (he : PE X o ta) (c : Cls X.K C) (hm : Meth X.K C m f) (F : FnOk X.prog X.w X.K X.mg X.base CX k f fd ps sp) (hr : Room k X.A) (hb : KBn X.K fd ps (n + 1) ks g gV) (hx : ∀ σ, PassesAt CX X σ (E σ))
    (ha : PA X (e :: es) t) (hkw : PK X kws tk) (hall : (backToKw pos (keywordEach kws X.env)).all (·.1.isSome) = true) (hks : (backToKw pos (keywordEach kws X.env)).filterMap (·.1) = ks)
    (hst : starEach (e :: es) X.env = (false, eval e X.env) :: starEach es X.env := by rfl)
    (hpl : ((backTo pos (starEach (e :: es) X.env)).any (·.1) || (backToKw pos (keywordEach kws X.env)).any (·.1.isNone)) = false := by rfl)
    (ht : eval (.Call (.Attribute o m apos) (e :: es) kws pos) X.env = (do
      let ov ← eval o X.env
      standAt apos.atName
      let (f, first) ← holding [ov] (getMethod ov m pl)
      callWith pos f first (backTo pos (starEach (e :: es) X.env)) (backToKw pos (keywordEach kws X.env))) := by rfl) :
    PE X (.Call (.Attribute o m apos) (e :: es) kws pos) (tMtS C m n ks.length sp gV E ta t tk) := by
  refine ⟨fun pins s σ H Q I h => PySem.W.methodCall_KW (pl := pl) (thn (he.run pins s σ H _ I h) fun u s1 ⟨x, H1, I1, rx, a, dx, fs, ex, ea, l, q⟩ => ?_) ht⟩
  subst ex
  cases (show u = Value.ref a from rx)
  refine getmeth_ok I1 ea c hm l (PySem.W.callWith_KW (first := [.ref a]) (h₀ := X.base) I.ok.mod.kin hm.kp hall (thn (ha.run pos pins s1 σ H1 _ I1 q) fun us s2 ⟨vs, H2, I2, r, q2⟩ =>
    thn (hkw.run pos pins s2 σ H2 _ I2 q2) fun ws s3 ⟨zs, H3, I3, rz, l1, l2, q3⟩ => ⟨I3.kIn, ?_⟩) hpl hst)
  rw [hks]
  exact run_S (us := .ref a :: us) (vs := .ref a :: vs) F hr hb (hx σ) I3 (.cons rfl r) rz (congrArg Nat.succ l1) l2 q3
theorem pe_mtS0 {pl : Sem Bool} (he : PE X o ta) (c : Cls X.K C) (hm : Meth X.K C m f) (F : FnOk X.prog X.w X.K X.mg X.base CX k f fd ps sp) (hr : Room k X.A) (hb : KBn X.K fd ps (0 + 1) ks g gV) (hx : ∀ σ, PassesAt CX X σ (E σ))
    (hkw : PK X kws tk) (hall : (backToKw pos (keywordEach kws X.env)).all (·.1.isSome) = true) (hks : (backToKw pos (keywordEach kws X.env)).filterMap (·.1) = ks)
    (hpl : ((backTo pos (starEach [] X.env)).any (·.1) || (backToKw pos (keywordEach kws X.env)).any (·.1.isNone)) = false := by rfl)
    (ht : eval (.Call (.Attribute o m apos) [] kws pos) X.env = (do
      let ov ← eval o X.env
      standAt apos.atName
      let (f, first) ← holding [ov] (getMethod ov m pl)
      callWith pos f first (backTo pos (starEach [] X.env)) (backToKw pos (keywordEach kws X.env))) := by rfl) :
    PE X (.Call (.Attribute o m apos) [] kws pos) (tMtS C m 0 ks.length sp gV E ta tNil tk) := by
  refine ⟨fun pins s σ H Q I h => PySem.W.methodCall_KW (pl := pl) (thn (he.run pins s σ H _ I h) fun u s1 ⟨x, H1, I1, rx, a, dx, fs, ex, ea, l, q⟩ => ?_) ht⟩
  subst ex
  cases (show u = Value.ref a from rx)
  refine getmeth_ok I1 ea c hm l (PySem.W.callWith_KW0 (first := [.ref a]) (h₀ := X.base) I.ok.mod.kin hm.kp hall
    (thn (hkw.run pos pins s1 σ H1 _ I1 q) fun ws s3 ⟨zs, H3, I3, rz, l1, l2, q3⟩ => ⟨I3.kIn, ?_⟩) hpl)
  rw [hks]
  exact run_S (us := [.ref a]) (vs := [.ref a]) F hr hb (hx σ) I3 (.cons rfl .nil) rz rfl l2 q3
/-! raise C(e, ..), C with an own __init__ -/
theorem ps_raiseO {W : WX} {fI : Addr} {pos2 : Pos} (hc : X.calm = true) (tk : Takes X W) (T : OexC X.K C) (iC : PySem.W.findIn X.K (.ref C) "__init__" = some (some (.ref fI))) (tI : PySem.W.typeIn X.K (.ref fI) = some (.type "function"))
    (F : FnOk X.prog X.w X.K X.mg X.base (L2.CX X.prog X.w) k fI fd ps sp) (hr : Room (k + 1) X.A) (hb : KBn X.K fd ps n [] (fun us _ => us ++ []) (fun vs _ => vs ++ [])) (hg : Gl X x) (hm : X.mg x = some (.ref C)) (ha : PA X (e :: es) t)
    (hn : n = ps.length := by rfl)
    (hdb : (x == ("__debug__" : Str)) = false := by decide) (he : starEach (e :: es) X.env = (false, eval e X.env) :: starEach es X.env := by rfl) (hpl : (backTo pos (starEach es X.env)).any (·.1) = false := by rfl) :
    PS X (.Raise (some (.Call (.Name x p) (e :: es) [] pos)) none pos2) (fun _ σ H => tMkO C sp [] t σ H fun cls d H' => W cls d σ H') := by
  refine ps_raise hc tk (pmk_oex (ds := []) (dvs := []) T iC tI F hr (fun s us k hl => ?_) .nil passL hg hm ha hdb he hpl)
  exact hb.to s us [] k (by rw [List.append_nil] at hl; rw [hl, hn]) rfl
end
/-! isinstance of the caught error, with a dict of its own -/
section
open PySem.W PySem.Calls
variable {prog : Program} {w : World} {A : Around} {Ex : Value → Shared → Prop} {s : Shared} {K : Frag} {x D : Addr} {ox : Obj} {od : Option Obj}
theorem findObj_dataX {C : Addr} {name : Str} {a g : Value} {od : Option Obj} (hc : (clsIn K C).isSome = true) (ha : findIn K (.ref C) name = some (some a)) (hg : specialIn K a "__get__" = some (some g)) (ht : takesIn K a = some true) : findObj K C od name = some (.bind g a) := by
  obtain ⟨cd, hc⟩ := Option.isSome_iff_exists.mp hc
  unfold findObj
  simp [hc, ha, hg, ht]
theorem kin_classX (c : ExcC K D) {Q : Option Value → Shared → Prop} (X : K.In s.heap) (I : InstAt s.heap x ox D od) (h : Q (some (.ref D)) { s with toks := s.toks + 1 }) : wpAny (model prog w) A (getAttr? (.ref x) "__class__") Q Ex s := by
  have hf : findObj K D od "__class__" = some (.bind (.builtin "getset_descriptor.__get__") (.builtin "object.__class__")) :=
    findObj_dataX (by obtain ⟨cd, hc, _⟩ := any_some c.hd; rw [hc]; rfl) c.ha c.hn c.ht
  obtain ⟨hp, g, d, t, os⟩ := s
  have a0 := I.type (M := model prog w)
  have a1 := looks_findIn (M := model prog w) X c.hg
  have a2 := looks_findIn (M := model prog w) X c.hk
  have a3 := looks_find (M := model prog w) X I hf
  have sub : Looks (model prog w) hp (isInstance (.ref x) (.type "BaseException")) true := a0.andThen (looks_subIn X c.hs)
  have hx2 : (Value.builtin "BaseException.__getattribute__" == Value.builtin "object.__getattribute__") = false := by decide +kernel
  unfold getAttr? getAttrBy? getAttrBy
  refine wpAny_bind (wpAny_mkText (wpAny_bind (wpAny_attempt (wpAny_holding (wpAny_bind (a0.at (wpAny_bind (a1.at ?_))))))))
  have hx1 : (onTheHeap (Value.ref D) && Value.builtin "BaseException.__getattribute__" == Value.builtin "object.__getattribute__") = false := by
    rw [hx2]; rfl
  dsimp only
  rw [hx1, if_neg Bool.false_ne_true]
  unfold getAttrByItsOwn hookBefore
  refine wpAny_bind ?_
  rw [if_pos (show onTheHeap (Value.ref D) = true from rfl)]
  refine a2.at (wpAny_bind (wpAny_attempt (wpAny_holding ?_)))
  unfold callGetattribute
  have hx0 : ∀ z : Bool, (false && z) = false := fun _ => rfl
  rw [hx0, if_neg Bool.false_ne_true]
  unfold boundAndCalled
  rw [PySem.F.excAttr_ValueError.ga.bind (.ref x)]
  refine wpAny_bind (wpAny_pure ?_)
  refine wpAny_call (codeAny_call_builtin PySem.F.excAttr_ValueError.ga.plain PySem.F.entry_bexc_ga ?_)
  refine @check_slot (model prog w) _ _ ⟨hp, g, d, t + 1, os⟩ "BaseException.__getattribute__" "BaseException" "__getattribute__" (.ref x) [.str "__class__" t] [] _ (by decide +kernel) (by decide +kernel) sub (PySem.F.args_bexc_ga (.ref x) (.str "__class__" t)) ?_
  unfold Builtin.«object.__getattribute__»
  refine wpAny_bind (wpAny_of_eq (a := ((Value.ref x : Value), [Value.str "__class__" t])) (by first | rfl | (simp only [slotArgs]; rfl)) ?_)
  refine wpAny_bind (wpAny_pure (wpAny_bind (a0.at (wpAny_bind (a3.at ?_)))))
  refine wpAny_bind (wpAny_holding (wpAny_call (class_get (s := ⟨hp, g, d, t + 1, os⟩) (ox := ox) (od := od) X I c.hm ?_)))
  refine wpAny_pure ?_
  dsimp only
  rw [handedOut_of (v := .ref D) rfl]
  first
    | exact wpAny_pure (wpAny_pure h) | exact wpAny_pure h | exact wpAny_pure (wpAny_bind (wpAny_pure (wpAny_pure h)))
theorem kitx_excX (c : ExcC K D) : KitX K (.ref x) (.ref D) (fun h => InstAt h x ox D od) where
  ty := fun _ _ _ I => I.type
  it := fun _ _ X _ A' Q' E' s' k q => by
    obtain ⟨cd, hc, _⟩ := any_some c.hd
    unfold clsIn at hc
    split at hc
    · rename_i ho
      unfold isType loadHead
      exact wpAny_bind (wpAny_loadPart (k _ _ (X _ _ ho)) (wpAny_pure q))
    · cases hc
  ne := fun h tp dd its n sl X htp => (handS_kitx_exc (x := x) (ox := ox) c.hg c.hk c.hs c.hd c.ha c.hn c.ht c.hm).ne h tp dd its n sl X htp
  ca := fun X I k => kin_classX c X I k
end
/-- isinstance(e, c), e the error that the suite holds (class D, dict d) -/
def rIsX (K : Frag) (D a : Addr) (cls : Value) (d : Option Addr) : List V → Hp → VK → Prop := fun xs H Q => cls = .ref D ∧
  (d = none ∨ ∃ dd fs, d = some dd ∧ H dd = some (.xd fs)) ∧ ∃ (c : V) (cv : Value) (b : Bool), xs = [.ref a, c] ∧ ClsV c cv ∧ PySem.W.kitOne K (.ref D) cv = some b ∧ Q (.bl b) H
theorem call_isX {X : Cx} {a D : Addr} {oe : Obj} {cls : Value} {d : Option Addr} {pn : List (Addr × Obj)} (C : ExcC X.K D) (hz : Zc cls d oe) (hf : ∃ vs, oe.data = .fields vs) :
    CallR (X.suite a ((a, oe) :: pn)) (.builtin "isinstance") (rIsX X.K D a cls d) := by
  intro pins s σ H xs us Q I r h
  obtain ⟨ec, hd, c, cv, b, rfl, hcv, e, q⟩ := h
  obtain ⟨u1, u2, rfl, r1, r2⟩ := vals2 r
  cases (show u1 = Value.ref a from r1)
  cases hcv.eq r2
  obtain ⟨ha, _⟩ := I.pin (a, oe) (List.mem_append_left _ List.mem_cons_self)
  obtain ⟨vs, hv⟩ := hf
  have nc : PySem.W.notCls oe = true := by unfold PySem.W.notCls; rw [hv]
  obtain ⟨h1, h2⟩ := hz
  subst ec
  obtain ⟨od, J⟩ : ∃ od, PySem.W.InstAt s.heap a oe D od := by
    rcases hd with rfl | ⟨dd, fs, rfl, hx⟩
    · exact ⟨none, ha, h1, nc, by rw [h2]; trivial⟩
    · obtain ⟨mA, hns, _⟩ := (show ObjOk X.prog X.w H s.heap dd (.xd fs) from I.hok dd _ hx)
      obtain ⟨od, ho, _⟩ := lookIn_ns hns
      exact ⟨some od, ha, h1, nc, by rw [h2]; exact ho⟩
  exact PySem.W.kia_one (kitx_excX C) I.kIn J e (fun z => nomatch z) fun tk => ⟨.bl b, H, I.tok tk, rfl, q⟩
/-! an instance of an own class: what isinstance asks of its class -/
structure InsT (K : Frag) (C : Addr) : Prop where
  ha : PySem.W.findIn K (.ref C) "__class__" = some (some (.builtin "object.__class__"))
  hn : PySem.W.specialIn K (.builtin "object.__class__") "__get__" = some (some (.builtin "getset_descriptor.__get__"))
  ht : PySem.W.takesIn K (.builtin "object.__class__") = some true
  hm : PySem.W.mroIn K C (.type "object") = some true
def insB (K : Frag) (C : Addr) : Bool := He.eqO (PySem.W.findIn K (.ref C) "__class__") (some (some (.builtin "object.__class__"))) &&
  (He.eqO (PySem.W.specialIn K (.builtin "object.__class__") "__get__") (some (some (.builtin "getset_descriptor.__get__"))) &&
  (decide (PySem.W.takesIn K (.builtin "object.__class__") = some true) && decide (PySem.W.mroIn K C (.type "object") = some true)))
theorem insB_ok {K : Frag} {C : Addr} (q : insB K C = true) : InsT K C := by
  obtain ⟨b, q⟩ := He.ba q
  obtain ⟨c, q⟩ := He.ba q
  obtain ⟨d, e⟩ := He.ba q
  exact ⟨He.eqO_ok b, He.eqO_ok c, of_decide_eq_true d, of_decide_eq_true e⟩
theorem InsT.ty {K : Frag} {C a dx : Addr} {H : Hp} {fs : List (Str × V)} (i : InsT K C) (c : Cls K C) (h : H a = some (.ins C dx fs)) : TyX K H (.ref a) (.ref C) := .base (.ins h c i.ha i.hn i.ht i.hm)
/-! * where one factor is small, or both have less than a million bits together -/
def CMulA (i j : Int) : Prop := CMul i j ∨ CMulW i j
theorem op_mulA {X : Cx} : OpR X (binaryOp .Mult) (rI CMulA fun i j => .int (i * j)) := opI fun _ _ _ _ _ _ _ hc q =>
  hc.elim (fun h => mul_int q h.ok) (fun h => mul_int q h.ok)
/-- x is an int (no bool), or known to be none -/
inductive IsI (K : Frag) (H : Hp) : V → Bool → Prop where
  | int (i : Int) : IsI K H (.int i) true
  | bl (b : Bool) : IsI K H (.bl b) false
  | oth {x : V} {t : Value} (h : TyX K H x t) (e : PySem.W.kitOne K t (.type "int") = some false) : IsI K H x false
/-! the end of a law: a head by facts, the script's bits told -/
theorem walk_X {l : PySem.W.OpenLaw} {n k : Nat} {q : Program} {loose : List Str} {XP : (Str → Option Value) → Heap → Prop} {YP : World → Heap → Prop} {d : DefRec} {x : Str}
    (hn : l.most = some n) (hn2 : n ≤ sizeLine) (hdf : d.params.defaults = []) (hr : Room k callerA)
    (F : ∀ (w : World) (mg : Str → Option Value) (fa : Addr) (h : Heap), YP w h → h.Ns mainGlobals mg → mg d.name = some (.ref fa) →
      ∃ (K : Frag) (fd : FuncData) (sp : Sp), K.In h ∧ (∀ (s : Shared) (u : Value), BindsTo s fd ⟨[u], []⟩ [(x, u)]) ∧
        (∀ (H : Hp) (a : Addr) (ns : List Int), ns.length ≤ n → (∀ z ∈ ns, Builtin.Int.intBits z ≤ 1048576) → Only H → SqL K H a (ns.map V.int) → sp [.ref a] H (fun v _ => v = .bl true) E0) ∧
        ∀ base : Heap, K.In base → base.Ns mainGlobals mg → FnOk l.prog w K mg base (L2.CX l.prog w) k fa fd [x] sp) :
    PySem.W.WalkO q loose XP YP l.row.toRowW d [] (fun f vs => PySem.call f vs) := by
  refine Att.attach_callB hn hdf fun w s0 s1 mg mb fa o pm cd doc a vs ns G Y ho hd hcd hmg hobj hints hlen hbits hg => ?_
  obtain ⟨K, fd, sp, KX, hb, hsp, hF⟩ := F w mg fa _ Y G.T.g hmg
  refine law_call KX G.T.g G.T.b G.T.builtins G.T.nolimit hg hobj hints (Nat.le_trans hlen hn2) hr hF hb (fun H hO hS => hsp H a ns hlen hbits hO hS) fun H e s' c => ?_
  obtain ⟨_, _, _, _, _, _, _, _, _, _, _, _, z⟩ := c
  exact z
end S
namespace S
open PySem PySem.Spec PyProof.Rows L2
section
open PySem.W PySem.Calls
variable {prog : Program} {w : World} {A : Around} {Ex : Value → Shared → Prop} {s : Shared} {K : Frag} {x C f : Addr} {ox : Obj} {od : Option Obj} {b tb : Value}
/-- object.__ne__ over an own __eq__ that gives a bool -/
theorem objNe_K {Q : Fin → Shared → Prop} (hu : A.units < cLine) (X : K.In s.heap) (I : InstAt s.heap x ox C od) (hs : findIn K (.ref C) "__eq__" = some (some (.ref f))) (hf : isFn K (.ref f) = true)
    (h : wpAny (model prog w) A (call (.ref f) [.ref x, b]) (fun v s' => ∃ r, v = .bool r ∧ Q (.done (.ret (.bool (!r)))) s') Ex s) :
    wpAny (model prog w) A (Builtin.«object.__ne__» ⟨[.ref x, b], []⟩) Q Ex s := by
  unfold Builtin.«object.__ne__»
  refine wpAny_bind (wpAny_of_eq (a := ((Value.ref x : Value), [b])) (by first | rfl | (simp only [slotArgs]; rfl)) ?_)
  dsimp only
  refine wpAny_bind (wpAny_cRoomFor hu ?_)
  refine wpAny_bind (ifBound_K X I hs hf (wpAny_mono h (fun v s' hv => ?_) fun _ _ e => e))
  obtain ⟨r, rfl, q⟩ := hv
  dsimp only
  refine wpAny_bind (wpAny_truthy_bool ?_)
  first | exact wpAny_pure q | exact q
theorem ne_K {Q : Value → Shared → Prop} (hu : A.units + 1 < cLine) (X : K.In s.heap) (I : InstAt s.heap x ox C od) (hb : Looks (model prog w) s.heap (typeOf b) tb) (hn : notFirst K C tb = true)
    (hne : findIn K (.ref C) "__ne__" = some (some (.builtin "object.__ne__"))) (hm : mroIn K C (.type "object") = some true)
    (hs : findIn K (.ref C) "__eq__" = some (some (.ref f))) (hf : isFn K (.ref f) = true)
    (h : wpAny (model prog w) A.in1 (call (.ref f) [.ref x, b]) (fun v s' => ∃ r, v = .bool r ∧ Q (.bool (!r)) s') Ex s) : wpAny (model prog w) A (richCompare .NotEq (.ref x) b) Q Ex s := by
  have one : wpAny (model prog w) A (tryCompare (.ref x) "__ne__" b) (fun r s' => ∃ v, r = some v ∧ Q v s') Ex s := by
    unfold tryCompare
    refine wpAny_bind (NtL.csib (I.type.andThen (looks_findIn X hne)) (F.cmp_object.ne.bind _) ?_)
    refine wpAny_call (codeAny_call_builtin F.cmp_object.ne.plain F.cmpEntry_ne (check_slot F.cmpKind_ne F.cmpSplit_ne (I.type.andThen (looks_mroIn X hm)) (F.cmpArgs_ne _ _) ?_))
    refine objNe_K (A := A.in1) hu X I hs hf (wpAny_mono h (fun v s' hv => ?_) fun _ _ e => e)
    obtain ⟨r, rfl, q⟩ := hv
    exact ⟨r, rfl, wpAny_pure ⟨_, rfl, q⟩⟩
  unfold richCompare
  simp only [oneThing_ref]
  refine wpAny_holding (wpAny_bind (wpAny_cRoomFor (Nat.lt_of_succ_lt hu) ?_))
  rw [cmpInfo_NotEq]
  dsimp only
  refine wpAny_bind (I.type.here (wpAny_bind (hb.here ?_)))
  split
  · rename_i q
    have e : subIn K tb (.ref C) = some false := by
      rcases Bool.or_eq_true_iff.mp hn with e | e
      · rw [beq_iff_eq.mp e] at q
        simp at q
      · exact beq_iff_eq.mp e
    refine wpAny_bind ((looks_subIn X e).here ?_)
    simp only [Bool.false_eq_true, if_false]
    refine wpAny_bind (wpAny_mono one (fun r s' z => ?_) fun _ _ e => e)
    obtain ⟨v, rfl, hq⟩ := z
    exact wpAny_pure hq
  · refine wpAny_bind (wpAny_pure ?_)
    simp only [Bool.false_eq_true, if_false]
    refine wpAny_bind (wpAny_mono one (fun r s' z => ?_) fun _ _ e => e)
    obtain ⟨v, rfl, hq⟩ := z
    exact wpAny_pure hq
end
section
variable {X : Cx} {n : Nat} {C g : Addr} {sp : Sp}
/-- x op y by x's own method, both instances -/
def rOwnI (K : Frag) (C : Addr) (sp : Sp) : R2 := fun x y H Q => ∃ a dx fs b C' dy gs, x = .ref a ∧ y = .ref b ∧ H a = some (.ins C dx fs) ∧ H b = some (.ins C' dy gs) ∧ PySem.W.notFirst K C (.ref C') = true ∧ sp [x, y] H Q E0
theorem op_ownI {op : CmpOp} (hop : ∀ a b, compareOp op a b = richCompare op a b) (hs : PySem.W.findIn X.K (.ref C) (cmpInfo op).2.1 = some (some (.ref g))) (hf : PySem.W.isFn X.K (.ref g) = true)
    (F : FnR X.prog X.w X.K X.mg X.base (L2.CX X.prog X.w) n g sp) (hr : Room n X.A) : OpR X (compareOp op) (rOwnI X.K C sp) := by
  intro pins s σ H x y v u Q I rx ry h
  obtain ⟨a, dx, fs, b, C', dy, gs, rfl, rfl, ha, hb, hn, q⟩ := h
  cases (show v = Value.ref a from rx)
  cases (show u = Value.ref b from ry)
  obtain ⟨mA, O, _⟩ := ins_get I.hok ha
  obtain ⟨od, J, _⟩ := O.look
  obtain ⟨mB, O2, _⟩ := ins_get I.hok hb
  obtain ⟨od2, J2, _⟩ := O2.look
  obtain ⟨m, hF⟩ := I.fr
  rw [hop]
  refine PySem.W.cmp_K (op := op) (tb := .ref C') hr.units0 hF I.ok.mod.kin J J2.type hn hs hf ?_
  refine wpAny_mono (wpAny_call (run_fnR (us := [.ref a, .ref b]) (vs := [.ref a, .ref b]) F hr passL I (.cons rfl (.cons rfl .nil)) q)) (fun w s' z => ?_) fun _ _ x => x
  obtain ⟨z2, H2, I2, rz, qz⟩ := z
  exact SlX.cmpback rz ⟨z2, H2, I2, rz, qz⟩
/-- x != y by x's own == -/
def rNeI (K : Frag) (C : Addr) (sp : Sp) : R2 := fun x y H Q => ∃ a dx fs b C' dy gs, x = .ref a ∧ y = .ref b ∧ H a = some (.ins C dx fs) ∧ H b = some (.ins C' dy gs) ∧ PySem.W.notFirst K C (.ref C') = true ∧
  sp [x, y] H (fun z H2 => ∃ r, z = .bl r ∧ Q (.bl (!r)) H2) E0
theorem op_neI (hne : PySem.W.findIn X.K (.ref C) "__ne__" = some (some (.builtin "object.__ne__"))) (hm : PySem.W.mroIn X.K C (.type "object") = some true)
    (hs : PySem.W.findIn X.K (.ref C) "__eq__" = some (some (.ref g))) (hf : PySem.W.isFn X.K (.ref g) = true)
    (F : FnR X.prog X.w X.K X.mg X.base (L2.CX X.prog X.w) n g sp) (hr : Room (n + 1) X.A) : OpR X (compareOp .NotEq) (rNeI X.K C sp) := by
  intro pins s σ H x y v u Q I rx ry h
  obtain ⟨a, dx, fs, b, C', dy, gs, rfl, rfl, ha, hb, hn, q⟩ := h
  cases (show v = Value.ref a from rx)
  cases (show u = Value.ref b from ry)
  obtain ⟨mA, O, _⟩ := ins_get I.hok ha
  obtain ⟨od, J, _⟩ := O.look
  obtain ⟨mB, O2, _⟩ := ins_get I.hok hb
  obtain ⟨od2, J2, _⟩ := O2.look
  show wpAny _ _ (richCompare .NotEq (.ref a) (.ref b)) _ _ _
  refine ne_K (tb := .ref C') (hu_of hr) I.kIn J J2.type hn hne hm hs hf ?_
  refine wpAny_mono (wpAny_call (SlX.run_at (us := [.ref a, .ref b]) (ws := [.ref a, .ref b]) F hr.in1 I.env0.in1 passL I (.cons rfl (.cons rfl .nil)) q)) (fun w s' z => ?_) fun _ _ x => x
  obtain ⟨z2, H2, I2, rz, r, rfl, qz⟩ := z
  cases (show w = Value.bool r from rz)
  exact ⟨r, rfl, .bl (!r), H2, I2, rfl, qz⟩
theorem hop_eq : ∀ a b, compareOp .Eq a b = richCompare .Eq a b := fun _ _ => rfl
end
/-! keyword-only defaults and no others: f(e, .., k = v, ..) -/
theorem kbinds0 {K : Frag} {x qual : Str} {params : Arguments} {body : List Stmt} {scope : Scope} {kws : List (Str × V)} {f : Addr} {fd : FuncData} {ps : List Str} (F : FunD K x qual params body scope [] kws f fd) (n : Nat) (ks : List Str) (ms : List (Str × V))
    (g : {α : Type} → List α → List α → List α → List α) (hk : kws ≠ []) (hms : ∀ q ∈ ms, q ∈ kws)
    (hrel : ∀ {vs mz zs : List V} {us mv ws : List Value}, Vals vs us → Vals mz mv → Vals zs ws → Vals (g vs mz zs) (g us mv ws))
    (h : ∀ (D : Addr) (doc pm : Value) (an : Option Addr) (cdv ct : Value) (us mv ws : List Value), us.length = n → mv.length = ms.length → ws.length = ks.length →
      KwChain D ((ms.map (·.1)).zip mv) (bindArgs (PySem.W.fnOf x qual params body scope .none (.ref D) doc pm an cdv ct) ⟨us, ks.zip ws⟩) (ps.zip (g us mv ws))) :
    ∃ mv : List Value, KBn K fd ps n ks (fun us ws => g us mv ws) (fun vs zs => g vs (ms.map (·.2)) zs) := by
  obtain ⟨oc, od, dV, kV, doc, pm, an, cdv, ct, osl, rfl, lk, hcd, hD, hK⟩ := F.ex
  rcases hD with ⟨_, rfl⟩ | ⟨e, _⟩
  · rcases hK with e | ⟨D, rfl, hq⟩
    · exact absurd e hk
    · obtain ⟨mv, hl, rk, hks⟩ := kwd_vals (ms := ms) fun q hm => hq q (hms q hm)
      refine ⟨mv, ⟨fun s us ws X l1 l2 => BindsTo.of_looks fun M => KwChain.looks X hks (h D doc pm an cdv ct us mv ws l1 hl l2), fun r1 r2 => hrel r1 rk r2⟩⟩
  · exact absurd rfl e
/-! a block cut by a word: what follows is shown once -/
def tCut (t u : TS) : TS := fun D σ H => ∃ M : L2.St → Hp → Prop, t { D with nx := M } σ H ∧ ∀ τ J, M τ J → u D τ J
theorem pss_cut {X : Cx} {st : Stmt} {rest : List Stmt} {t u : TS} (h1 : PS X st t) (h2 : PSs X rest u) : PSs X (st :: rest) (tCut t u) :=
  ⟨fun pins s σ H D I ⟨M, hm, hu⟩ => wpAny_execs_cons (thn (h1.run pins s σ H { D with nx := M } I hm) fun f s1 q => by
    match f, q with
    | .next, ⟨τ, J, I2, q⟩ => exact h2.run pins s1 τ J D I2 (hu τ J q)
    | .ret v, q => exact q
    | .brk, q => exact q
    | .cont, q => exact q)⟩
/-! ways -/
theorem iteY {c A B : Prop} [Decidable c] (h : c) (a : A) : if c then A else B := by rw [if_pos h]; exact a
theorem iteN {c A B : Prop} [Decidable c] (h : ¬ c) (b : B) : if c then A else B := by rw [if_neg h]; exact b
theorem iteB {x : Bool} {A B : Prop} (h : if x then A else B) : if x = true then A else B := h
/-! small laws of heaps and fields -/
theorem putF_nil (f : Str) (v : V) : putF f v [] = [(f, v)] := rfl
theorem putF_cons_ne {f k : Str} {v u : V} {r : List (Str × V)} (h : ¬ k = f) : putF f v ((k, u) :: r) = (k, u) :: putF f v r := by
  show (if k = f then _ else _) = _
  rw [if_neg h]
theorem Same.new {H : Hp} {p : Addr} {o : HO} (h : H p = none) : Same H (upd H p o) := fun b u e => by
  rw [upd_ne (ne_of_none e h)]
  exact e
theorem Same.upd {H H' : Hp} {p : Addr} {o : HO} (e : Same H H') (h : H p = none) : Same H (L2.upd H' p o) := fun b u q => by
  rw [upd_ne (ne_of_none q h)]
  exact e b u q
/-! an own error with one field -/
/-- self.f = v in __init__ -/
def sp_err (C : Addr) (f : Str) : Sp := Sp2 fun x y H Q _ => ∃ a, x = .ref a ∧ H a = some (exo a C none) ∧ ∀ dx, H dx = none → dx ≠ a → Q .non (upd (upd H dx (exd dx [(f, y)])) a (exo a C (some dx)))
theorem raise_err {C : Addr} {f : Str} {t : TA} {σ : L2.St} {H : Hp} {Q : XK} (y : V)
    (k : ∀ d H', H d = none → Same H H' → H' d = some (.xd [(f, y)]) → Q (.ref C) (some d) H') (ht : ∀ R, R [y] H → t σ H R := by exact fun R r => r) : tMkO C (sp_err C f) [] t σ H Q := by
  refine ht _ ⟨by show 1 ≤ 1000; decide, fun a ha => ⟨_, _, rfl, a, rfl, upd_same, fun dx hdx hne => ⟨rfl, dx, [(f, y)], ?_, ?_, ?_, ?_⟩⟩⟩
  · exact upd_same
  · rw [upd_ne hne, upd_same]
  · rw [upd_ne hne] at hdx
    exact hdx
  · have h0 : H dx = none := by rw [upd_ne hne] at hdx; exact hdx
    refine k dx _ h0 (fun b o e => ?_) upd_same
    have n1 : b ≠ dx := ne_of_none e h0
    have n2 : b ≠ a := ne_of_none e ha
    rw [upd_ne n1, del_ne n2, upd_ne n2, upd_ne n1, upd_ne n2]
    exact e
/-! the law's own draws -/
/-- a cell is some integer of at least 0 -/
def spCellN (K : Frag) : Sp := Sp2 fun x y H Q _ => ∃ (a : Addr) (ns : List Int) (k : Int), x = .ref a ∧ y = .int k ∧ 0 ≤ k ∧ SqL K H a (ns.map V.int) ∧ ∀ n : Int, 0 ≤ n → Q (.int n) H
theorem int_at {ns : List Int} {k : Nat} (h : k < ns.length) : atI (ns.map V.int) ((k : Nat) : Int) = some (.int (ns.getD k 0)) := by
  refine atI_nat ?_
  rw [List.getElem?_map, List.getElem?_eq_getElem h, List.getD_eq_getElem?_getD, List.getElem?_eq_getElem h]
  rfl
theorem mul_small {i j : Int} (h : -(2 ^ 64) < j ∧ j < 2 ^ 64) : CMulA i j := .inl (.inr h)
theorem mul_smallL {i j : Int} (h : -(2 ^ 64) < i ∧ i < 2 ^ 64) : CMulA i j := .inl (.inl h)
theorem mod_small (x : Int) {m : Int} (h : 0 < m) (h2 : m < 2 ^ 64) : -(2 ^ 64) < x % m ∧ x % m < 2 ^ 64 := by
  have a := Int.emod_nonneg x (show m ≠ 0 by omega)
  have b := Int.emod_lt_of_pos x h
  omega
theorem mod_lo (x : Int) {m : Int} (h : 0 < m) : 0 ≤ x % m := Int.emod_nonneg x (by omega)
theorem mod_hi (x : Int) {m : Int} (h : 0 < m) : x % m < m := Int.emod_lt_of_pos x h
theorem div_small {i j : Int} (h : 0 < j) (h2 : j < 2 ^ 64) : CDivW i j := wide_div (b := 64) h (by omega) (by decide) (by decide)
end S
namespace S
open PySem PySem.Spec PyProof.Rows L2
/-! the rules that lean on the written part, with its own name -/
section
variable {X : Cx} {K : Frag}
theorem ixK (hK : X.K = K) : IxR X (rIx K) := hK ▸ ix_seq
theorem lenK (hK : X.K = K) : CallR X (.builtin "len") (rLen K) := hK ▸ call_len
theorem isiK (hK : X.K = K) : CallR X (.builtin "isinstance") (rIsi K) := hK ▸ call_isi
theorem isiTK (hK : X.K = K) : CallR X (.builtin "isinstance") (rIsiT K) := hK ▸ call_isiT
theorem inK (hK : X.K = K) : OpR X (compareOp .In) (rIn K false) := hK ▸ op_in_seq
theorem notInK (hK : X.K = K) : OpR X (compareOp .NotIn) (rIn K true) := hK ▸ op_notIn_seq
theorem eqDK (hK : X.K = K) (hu : X.A.units + 64 < cLine) : OpR X (compareOp .Eq) (rEqD K) := hK ▸ op_eqD hu
theorem neDK (hK : X.K = K) (hu : X.A.units + 64 < cLine) : OpR X (compareOp .NotEq) (rNeD K) := hK ▸ op_neD hu
theorem slLK (hK : X.K = K) : SlR X (rSlL K) := hK ▸ sl_list
theorem slTK (hK : X.K = K) : SlR X (rSlT K) := hK ▸ sl_tup
variable {e o l value tg a : Expr} {es : List Expr} {ta tv tl : TE} {f : Str} {pos pos' : Pos}
theorem pe_fldK (hK : X.K = K) (he : PE X e ta) (hb : attributeBase e f X.env (eval e X.env) = eval e X.env) : PE X (.Attribute e f pos) (tFld K ta f) := hK ▸ pe_fld he hb
theorem ps_fldK (hK : X.K = K) (ha : PE X o ta) (hv : PE X value tv) (hs : swapsWith value (some (.Attribute o f pos')) pos.line X.env = pure false) : PS X (.Assign [.Attribute o f pos'] value pos) (sFld K ta tv f) := hK ▸ ps_fld ha hv hs
theorem ps_ostK (hK : X.K = K) (ha : PE X o ta) (hv : PE X value tv) (hs : swapsWith value (some (.Attribute o f pos')) pos.line X.env = pure false) : PS X (.Assign [.Attribute o f pos'] value pos) (tOst K f ta tv) := hK ▸ ps_ost ha hv hs
theorem pe_slK (hK : X.K = K) (he : PE X e ta) (hb : attributeBase e f X.env (eval e X.env) = eval e X.env) : PE X (.Attribute e f pos) (SlX.tSl K ta f) := hK ▸ SlX.pe_sl he hb
theorem ps_slK (hK : X.K = K) (ha : PE X o ta) (hv : PE X value tv) (hs : swapsWith value (some (.Attribute o f pos')) pos.line X.env = pure false) : PS X (.Assign [.Attribute o f pos'] value pos) (SlX.sSl K ta tv f) := hK ▸ SlX.ps_sl ha hv hs
theorem pi_listK (hK : X.K = K) (hl : PE X l tl) : PI X tg l (iList K tl) := hK ▸ pi_list hl
theorem pi_tupK (hK : X.K = K) (hl : PE X l tl) : PI X tg l (iTup K tl) := hK ▸ pi_tup hl
def tTruK (K : Frag) (ta : TE) : TT := fun σ H Q => ta σ H fun x H' => ∃ k, TruV K x H' k ∧ Q k H'
theorem pt_truthK (hK : X.K = K) (ha : PE X a ta) (he : ∀ whole, isTrue a X.env whole = (do let v ← whole; standAt a.pos; holding [v] (truthy v))) : PT X a (tTruK K ta) := by
  subst hK
  exact pt_truth ha he
end
end S
namespace S
open PySem PySem.Spec PyProof.Rows L2
/-! flat data: None, bools, ints, texts -/
def sca : V → Bool
  | .non => true
  | .bl _ => true
  | .int _ => true
  | .str x => PyData.strOk x
  | _ => false
def dat : V → PyData
  | .bl b => .bool b
  | .int i => .int i
  | .str x => .str x
  | _ => .none
theorem dp_dat {K : Frag} {H : Hp} {v : V} (h : sca v = true) : Dp K H v (dat v) := by
  cases v with
  | non => exact .non
  | bl b => exact .bl b
  | int i => exact .int i
  | str x => exact .str x
  | _ => cases h
theorem dpAll_dat {K : Frag} {H : Hp} : ∀ {vs : List V}, vs.all sca = true → DpAll K H vs (vs.map dat)
  | [], _ => .nil
  | v :: vs, h => by
    rw [List.all_cons, Bool.and_eq_true] at h
    exact .cons (dp_dat h.1) (dpAll_dat h.2)
theorem lay_dat {v : V} (h : sca v = true) : (dat v).canLay0 = true := by
  cases v with
  | str x => simpa [dat, PyData.canLay0, sca] using h
  | _ => simp [dat, PyData.canLay0]
theorem layAll_dat : ∀ {vs : List V}, vs.all sca = true → PyData.canLayAll0 (vs.map dat) = true
  | [], _ => rfl
  | v :: vs, h => by
    rw [List.all_cons, Bool.and_eq_true] at h
    simp [PyData.canLayAll0, lay_dat h.1, layAll_dat h.2]
theorem depth_dat (v : V) : (dat v).depth = 0 := by cases v <;> simp [dat, PyData.depth]
theorem depthAll_dat : ∀ (vs : List V), PyData.depthAll (vs.map dat) = 0
  | [] => rfl
  | v :: vs => by simp [PyData.depthAll, depth_dat, depthAll_dat vs]
theorem shaped_list {vs : List V} (h : vs.all sca = true) : SeqAt.shaped (.list (vs.map dat)) = true := by
  simp [SeqAt.shaped, PyData.canLay0, layAll_dat h, PyData.depth, depthAll_dat]
theorem shaped_tup {vs : List V} (h : vs.all sca = true) : SeqAt.shaped (.tuple (vs.map dat)) = true := by
  simp [SeqAt.shaped, PyData.canLay0, layAll_dat h, PyData.depth, depthAll_dat]
theorem eqv_refl (v : V) : PyData.eqv (dat v) (dat v) = true := by cases v <;> simp [dat, PyData.eqv]
theorem eqvAll_refl : ∀ (vs : List V), PyData.eqvAll (vs.map dat) (vs.map dat) = true
  | [] => rfl
  | v :: vs => by simp [PyData.eqvAll, eqv_refl, eqvAll_refl vs]
theorem rEqL {K : Frag} {H : Hp} {a b : Addr} {xs ys : List V} {Q : VK} (ha : SqL K H a xs) (hb : SqL K H b ys) (hx : xs.all sca = true) (hy : ys.all sca = true) (q : Q (.bl (PyData.eqvAll (xs.map dat) (ys.map dat))) H) : rEqD K (.ref a) (.ref b) H Q :=
  ⟨_, _, .lst ha (dpAll_dat hx), .lst hb (dpAll_dat hy), shaped_list hx, shaped_list hy, by simpa only [PyData.eqv] using q⟩
theorem rEqT {K : Frag} {H : Hp} {a b : Addr} {xs ys : List V} {Q : VK} (ha : SqT K H a xs) (hb : SqT K H b ys) (hx : xs.all sca = true) (hy : ys.all sca = true) (q : Q (.bl (PyData.eqvAll (xs.map dat) (ys.map dat))) H) : rEqD K (.ref a) (.ref b) H Q :=
  ⟨_, _, .tup ha (dpAll_dat hx), .tup hb (dpAll_dat hy), shaped_tup hx, shaped_tup hy, by simpa only [PyData.eqv] using q⟩
theorem rEqL_true {K : Frag} {H : Hp} {a b : Addr} {xs : List V} {Q : VK} (ha : SqL K H a xs) (hb : SqL K H b xs) (hx : xs.all sca = true) (q : Q (.bl true) H) : rEqD K (.ref a) (.ref b) H Q := rEqL ha hb hx hx (by rw [eqvAll_refl]; exact q)
theorem rEqT_true {K : Frag} {H : Hp} {a b : Addr} {xs : List V} {Q : VK} (ha : SqT K H a xs) (hb : SqT K H b xs) (hx : xs.all sca = true) (q : Q (.bl true) H) : rEqD K (.ref a) (.ref b) H Q := rEqT ha hb hx hx (by rw [eqvAll_refl]; exact q)
/-- a def with all its parameters written, by positional values -/
theorem raw_of {P : Program} {w : World} {K : Frag} {mg : Str → Option Value} {base : Heap} {CX : CXT} {k n : Nat} {f : Addr} {fd : FuncData} {ps : List Str} {sp : Sp} (F : FnOk P w K mg base CX k f fd ps sp)
    (hb : KBn K fd ps n [] (fun us _ => us ++ []) (fun vs _ => vs ++ [])) (hn : n = ps.length := by rfl) : FnR P w K mg base CX k f sp := by
  refine (F.raw (ds := []) (dvs := []) (fun s us k hl => ?_) .nil).imp fun vs H Q E h => ?_
  · exact hb.to s us [] k (by rw [List.append_nil] at hl; rw [hl, hn]) rfl
  · rw [List.append_nil]
    exact h
theorem hu64 {A : Around} {k : Nat} (hr : Room k A) : A.units + 64 < cLine := by have := hr.un; omega
/-! a for over a text's signs -/
theorem for_str {x : Str} {g : TG} {tb : TS} {D : Ends} {σ : L2.St} {H : Hp} (Pv : Nat → L2.St → Hp → Prop) (h0 : Pv 0 σ H)
    (hs : ∀ i c σ H, x.cps[i]? = some c → Pv i σ H → g (.str ⟨#[c]⟩) σ H fun σ2 H2 => tb { D with nx := Pv (i + 1), ct := Pv (i + 1), bk := D.nx } σ2 H2) (hd : ∀ σ H, Pv x.cps.size σ H → D.nx σ H) :
    ∃ Z : Nat → Nat → L2.St → Hp → Prop, (∃ m, Z 0 m σ H) ∧ ∀ i m σ H, Z i m σ H →
      ((Its x).stop i H ∧ D.nx σ H) ∨ ((Its x).go i H ∧ ∃ N : L2.St → Hp → Prop, (∀ σ' H', N σ' H' → ∃ m', m' < m ∧ Z (i + 1) m' σ' H') ∧ ∀ v H', (Its x).yld i H v H' → g v σ H' fun σ2 H2 => tb { D with nx := N, ct := N, bk := D.nx } σ2 H2) := by
  refine ⟨fun i m σ H => m = x.cps.size - i ∧ i ≤ x.cps.size ∧ Pv i σ H, ⟨x.cps.size, by simp, Nat.zero_le _, h0⟩, ?_⟩
  rintro i m σ H ⟨rfl, hi, p⟩
  by_cases hlt : i < x.cps.size
  · refine .inr ⟨hlt, Pv (i + 1), fun σ' H' p' => ⟨x.cps.size - (i + 1), by omega, rfl, hlt, p'⟩, fun v H' y => ?_⟩
    obtain ⟨rfl, c, hc, rfl⟩ := y
    exact hs i c σ H' hc p
  · have e : i = x.cps.size := by omega
    subst e
    exact .inl ⟨Nat.le_refl _, hd σ H p⟩
end S
namespace S
open PySem PySem.Spec PyProof.Rows L2
/-! x in a list whose items' own == may make objects -/
section
open MeetsSeq MeetsSeq2 MeetsSeq3 SeqRoads2
variable {prog : Program} {w : World} {A : Around} {R : Result → Shared → Prop}
/-- at each turn the list is read anew: the items still to come; a hit ends the walk -/
def ContI (prog : Program) (w : World) (A : Around) (R : Result → Shared → Prop) (l : Addr) (x : Value) (N : Nat) (I : Nat → Shared → Prop) : Prop :=
  ∀ i s, I i s → ∃ (its : Array Value) (n : Nat), s.heap.get? l = some { cls := .type "list", data := .seq its n } ∧ its.size = N ∧
    ∀ h1 : i < its.size, wpAny (model prog w) A.in1 (eqBool its[i] x) (fun r s' => if r = true then R (.ok (.ret (.bool true))) s' else I (i + 1) s') (fun e s' => R (.error e) s') s
theorem cont_loop (l : Addr) (x : Value) (N : Nat) (I : Nat → Shared → Prop) (hl : ContI prog w A R l x N I) (fin : ∀ s, I N s → R (.ok (.ret (.bool false))) s) (k : Nat) :
    ∀ i : Nat, N - i = k → i ≤ N → ∀ s, I i s →
      wpAny (model prog w) A.in1 (Builtin.«list.__contains__.loop» ⟨[.ref l, x, rawInt i], []⟩) (GQ.FinOf prog w A R) (fun e s' => R (.error e) s') s := by
  induction k with
  | zero =>
    intro i hk hi s h
    obtain ⟨its, n, h1, hs, _⟩ := hl _ _ h
    have e : i = N := by omega
    have hR : R (.ok (.ret (.bool false))) s := fin s (e ▸ h)
    obtain ⟨hp, g, d, tk, os⟩ := s
    wp_walk using wpAny_loadPart' h1
    have hn : its[((i : Nat) : Int).toNat]? = none := by simp; omega
    rw [hn]
    wp_walk
    exact hR
  | succ k ih =>
    intro i hk hi s h
    obtain ⟨its, n, h1, hs, turn⟩ := hl _ _ h
    have hlt : i < its.size := by omega
    have ht := turn hlt
    obtain ⟨hp, g, d, tk, os⟩ := s
    wp_walk using wpAny_loadPart' h1
    have hn : its[((i : Nat) : Int).toNat]? = some its[i] := by simp [hlt]
    rw [hn]
    refine wpAny_bind (wpAny_mono ht (fun r s2 h2 => ?_) fun _ _ z => z)
    cases r with
    | true =>
      rw [if_pos rfl] at h2
      obtain ⟨hp2, g2, d2, tk2, os2⟩ := s2
      wp_walk
      exact h2
    | false =>
      rw [if_neg Bool.false_ne_true] at h2
      have hc : ((i : Int) + 1) = ((i + 1 : Nat) : Int) := by omega
      have hrec := ih (i + 1) (by omega) (by omega) s2 h2
      obtain ⟨hp2, g2, d2, tk2, os2⟩ := s2
      wp_walk
      rw [hc]
      exact ⟨plainId_quiet plain_contains_loop _, codeAny_builtin entry_contains_loop (by rw [Around.under_plainId plain_contains_loop _]; exact hrec)⟩
theorem cont_list (l : Addr) (x : Value) (N : Nat) (I : Nat → Shared → Prop) (hl : ContI prog w A R l x N I) (fin : ∀ s, I N s → R (.ok (.ret (.bool false))) s) {s : Shared} (h : I 0 s) :
    wpAny (model prog w) A.in1 (Builtin.«list.__contains__» ⟨[.ref l, x], []⟩) (GQ.FinOf prog w A R) (fun e s' => R (.error e) s') s := by
  obtain ⟨its, n, h1, hs, _⟩ := hl _ _ h
  have hrec := cont_loop (A := A) (R := R) l x N I hl fin _ 0 rfl (Nat.zero_le _) s h
  obtain ⟨hp, g, d, tk, os⟩ := s
  wp_walk using wpAny_loadPart' h1
  exact ⟨plainId_quiet plain_contains_loop _, codeAny_builtin entry_contains_loop (by rw [Around.under_plainId plain_contains_loop _]; exact hrec)⟩
theorem contains_G {E : Value → Shared → Prop} {s : Shared} {l : Addr} {x : Value} {N : Nat} {Q : Bool → Shared → Prop} (I : Nat → Shared → Prop)
    (hl : ContI prog w A (wants (fun v s' => ∃ b, v = .bool b ∧ Q b s') E) l x N I) (fin : ∀ s, I N s → Q false s) (h : I 0 s) : wpAny (model prog w) A (contains (.ref l) x) Q E s := by
  obtain ⟨its, n, h1, _⟩ := hl _ _ h
  refine wpAny_contains_slot (T := "list") ⟨_, h1, rfl⟩ F.slot_list_contains (wpAny_mono (GQ.call_here (Q := fun v s' => ∃ b, v = .bool b ∧ Q b s') F.slot_list_contains ⟨_, h1, rfl⟩ F.entry_list_contains (F.args_list_contains_2 _ _) ?_) (fun v s' hv => ?_) fun _ _ e => e)
  · exact cont_list l x N I hl (fun s' q => ⟨false, rfl, fin s' q⟩) h
  · obtain ⟨b, rfl, q⟩ := hv
    exact wpAny_truthy_bool q
end
section
variable {X : Cx} {n : Nat} {C g : Addr} {sp : Sp}
/-- x in y, y a list of instances of C that are compared by their own == : e b tells the answer for the item at b -/
def rInO (C : Addr) (sp : Sp) (neg : Bool) : R2 := fun x y H Q => ∃ (a l dx : Addr) (fs : List (Str × V)) (bs : List Addr) (e : Addr → Bool), x = .ref a ∧ y = .ref l ∧ H l = some (.lst (bs.map V.ref)) ∧ H a = some (.ins C dx fs) ∧
  (∀ b ∈ bs, ∃ dy gs, H b = some (.ins C dy gs)) ∧ (∀ b ∈ bs, ∀ H1, Same H H1 → ∀ Z : VK, (∀ H2, Same H1 H2 → Z (.bl (e b)) H2) → sp [.ref b, .ref a] H1 Z E0) ∧
  ∀ H', Same H H' → Q (.bl (if neg then !(bs.any fun b => decide (b = a) || e b) else bs.any fun b => decide (b = a) || e b)) H'
theorem contO (hs : PySem.W.findIn X.K (.ref C) "__eq__" = some (some (.ref g))) (hf : PySem.W.isFn X.K (.ref g) = true) (F : FnR X.prog X.w X.K X.mg X.base (L2.CX X.prog X.w) n g sp) (hr : Room (n + 1) X.A)
    {pins : List (Addr × Obj)} {s : Shared} {σ : L2.St} {H : Hp} {a l dx : Addr} {fs : List (Str × V)} {bs : List Addr} {e : Addr → Bool} (I : Inv X pins σ H s) (hl : H l = some (.lst (bs.map V.ref))) (ha : H a = some (.ins C dx fs))
    (hb : ∀ b ∈ bs, ∃ dy gs, H b = some (.ins C dy gs)) (hsp : ∀ b ∈ bs, ∀ H1, Same H H1 → ∀ Z : VK, (∀ H2, Same H1 H2 → Z (.bl (e b)) H2) → sp [.ref b, .ref a] H1 Z E0) {Q : Bool → Shared → Prop}
    (q : ∀ s' H', Inv X pins σ H' s' → Same H H' → Q (bs.any fun b => decide (b = a) || e b) s') : wpAny (model X.prog X.w) X.A (contains (.ref l) (.ref a)) Q X.xe s := by
  refine contains_G (N := bs.length) (fun i s' => ∃ H1, Inv X pins σ H1 s' ∧ Same H H1 ∧ (bs.take i).any (fun b => decide (b = a) || e b) = false) ?_ ?_ ⟨H, I, fun _ _ z => z, rfl⟩
  · rintro i s1 ⟨H1, I1, sm, no⟩
    obtain ⟨hz, its, m, rv, hg⟩ := (show ObjOk X.prog X.w H1 s1.heap l (.lst (bs.map V.ref)) from I1.hok l _ (sm _ _ hl))
    have hlen : its.length = bs.length := by rw [← rv.length, List.length_map]
    refine ⟨its.toArray, m, hg, by simp [hlen], fun h1 => ?_⟩
    have hi : i < bs.length := by simpa [hlen] using h1
    obtain ⟨u, hu, ru⟩ := rv.get (i := i) (x := .ref bs[i]) (by simp [hi])
    have eu : its.toArray[i] = Value.ref bs[i] := by
      have : its[i]? = some (Value.ref bs[i]) := by rw [hu]; exact congrArg some ru
      have h2 : i < its.length := by omega
      rw [List.getElem?_eq_getElem h2] at this
      simpa using Option.some.inj this
    rw [eu]
    have mem : bs[i] ∈ bs := List.getElem_mem hi
    have step : ∀ r : Bool, (decide (bs[i] = a) || e bs[i]) = r → ∀ s2 H2, Inv X pins σ H2 s2 → Same H H2 → (if r = true then wants (fun v s' => ∃ b, v = .bool b ∧ Q b s') X.xe (.ok (.ret (.bool true))) s2 else ∃ H1, Inv X pins σ H1 s2 ∧ Same H H1 ∧ (bs.take (i + 1)).any (fun b => decide (b = a) || e b) = false) := by
      intro r er s2 H2 I2 sm2
      have tk : bs.take (i + 1) = bs.take i ++ [bs[i]] := by rw [List.take_succ, List.getElem?_eq_getElem hi]; rfl
      cases r with
      | true =>
        rw [if_pos rfl]
        refine ⟨true, rfl, ?_⟩
        have hq := q s2 H2 I2 sm2
        rw [show (bs.any fun b => decide (b = a) || e b) = true from List.any_eq_true.mpr ⟨_, mem, er⟩] at hq
        exact hq
      | false =>
        rw [if_neg Bool.false_ne_true]
        refine ⟨H2, I2, sm2, ?_⟩
        rw [tk, List.any_append, no, List.any_cons, er]
        rfl
    by_cases hab : bs[i] = a
    · rw [hab]
      exact SeqAt.EqAt.same (A := X.A.in1) (s := s1) (.ref a) X.prog X.w _ _ (step true (by simp [hab]) s1 H1 I1 sm)
    · obtain ⟨dy, gs, hbi⟩ := hb _ mem
      refine GQ.eqBool_refG hab ?_
      obtain ⟨mA, O, _⟩ := ins_get I1.hok (sm _ _ hbi)
      obtain ⟨od, J, _⟩ := O.look
      obtain ⟨mB, O2, _⟩ := ins_get I1.hok (sm _ _ ha)
      obtain ⟨od2, J2, _⟩ := O2.look
      obtain ⟨m2, hF⟩ := I1.fr
      refine PySem.W.cmp_K (op := .Eq) (tb := .ref C) hr.in1.units0 hF I1.ok.mod.kin J J2.type (by simp [PySem.W.notFirst]) hs hf ?_
      refine wpAny_mono (wpAny_call (SlX.run_at (us := [.ref bs[i], .ref a]) (ws := [.ref bs[i], .ref a]) (Q := fun z H2 => z = .bl (e bs[i]) ∧ Same H1 H2) F hr.in1 I1.env0.in1 passL I1 (.cons rfl (.cons rfl .nil)) (hsp _ mem H1 sm _ fun H2 s2 => ⟨rfl, s2⟩))) (fun z s2 hz2 => ?_) fun _ _ x => x
      obtain ⟨z2, H2, I2, rz, rfl, sm2⟩ := hz2
      cases (show z = Value.bool (e bs[i]) from rz)
      exact ⟨e bs[i], rfl, step _ (by simp [hab]) s2 H2 I2 (sm.trans sm2)⟩
  · rintro s1 ⟨H1, I1, sm, no⟩
    have hq := q s1 H1 I1 sm
    rw [List.take_length] at no
    rw [no] at hq
    exact hq
theorem op_inO (hs : PySem.W.findIn X.K (.ref C) "__eq__" = some (some (.ref g))) (hf : PySem.W.isFn X.K (.ref g) = true) (F : FnR X.prog X.w X.K X.mg X.base (L2.CX X.prog X.w) n g sp) (hr : Room (n + 1) X.A) : OpR X (compareOp .In) (rInO C sp false) := by
  intro pins s σ H x y v u Q I rx ry h
  obtain ⟨a, l, dx, fs, bs, e, rfl, rfl, hl, ha, hb, hsp, q⟩ := h
  cases (show v = Value.ref a from rx)
  cases (show u = Value.ref l from ry)
  show wpAny _ _ (do return Value.bool (← contains (.ref l) (.ref a))) _ _ _
  exact wpAny_bind (contO hs hf F hr I hl ha hb hsp fun s' H' I' sm => wpAny_pure ⟨.bl _, H', I', rfl, q H' sm⟩)
theorem op_notInO (hs : PySem.W.findIn X.K (.ref C) "__eq__" = some (some (.ref g))) (hf : PySem.W.isFn X.K (.ref g) = true) (F : FnR X.prog X.w X.K X.mg X.base (L2.CX X.prog X.w) n g sp) (hr : Room (n + 1) X.A) : OpR X (compareOp .NotIn) (rInO C sp true) := by
  intro pins s σ H x y v u Q I rx ry h
  obtain ⟨a, l, dx, fs, bs, e, rfl, rfl, hl, ha, hb, hsp, q⟩ := h
  cases (show v = Value.ref a from rx)
  cases (show u = Value.ref l from ry)
  show wpAny _ _ (do return Value.bool (!(← contains (.ref l) (.ref a)))) _ _ _
  exact wpAny_bind (contO hs hf F hr I hl ha hb hsp fun s' H' I' sm => wpAny_pure ⟨.bl _, H', I', rfl, q H' sm⟩)
end
end S
namespace S
open PySem PySem.Spec PyProof.Rows L2
/-! ### classes with slots -/
/-- the descriptor of a slot -/
def slA (K : Frag) (C : Addr) (f : Str) : Addr := match PySem.W.findIn K (.ref C) f with | some (some (.ref p)) => p | _ => 0
def sclB (K : Frag) (C : Addr) : Bool := PySem.W.plainGet K C Str.empty && (PySem.W.isClsIn K C && (PySem.W.plainOver K C && He.eqO (PySem.W.findIn K (.ref C) "__setattr__") (some (some (.builtin "object.__setattr__")))))
theorem sclB_ok {K : Frag} {C : Addr} (q : sclB K C = true) : SlX.SCls K C := by
  obtain ⟨a, q⟩ := He.ba q
  obtain ⟨b, q⟩ := He.ba q
  obtain ⟨c, d⟩ := He.ba q
  exact ⟨a, b, c, He.eqO_ok d⟩
theorem sisB_ok {K : Frag} {C : Addr} (q : insB K C = true) : SlX.SIsi K C := let i := insB_ok q; ⟨i.ha, i.hn, i.ht, i.hm⟩
def sltB (K : Frag) (C : Addr) (f : Str) (i : Nat) : Bool := He.eqO (PySem.W.findIn K (.ref C) f) (some (some (.ref (slA K C f)))) && (He.eqO (PySem.W.specialIn K (.ref (slA K C f)) "__get__") (some (some (.builtin "member_descriptor.__get__"))) &&
  (decide (PySem.W.takesIn K (.ref (slA K C f)) = some true) && (decide (PySem.W.typeIn K (.ref (slA K C f)) = some (.type "member_descriptor")) && decide (PySem.W.slotIn K (slA K C f) C = some i))))
theorem sltB_ok {K : Frag} {C : Addr} {f : Str} {i : Nat} (hi : i < 1000) (q : sltB K C f i = true) : SlX.Slot1 K C f (slA K C f) i := by
  obtain ⟨a, q⟩ := He.ba q
  obtain ⟨b, q⟩ := He.ba q
  obtain ⟨c, q⟩ := He.ba q
  obtain ⟨d, e⟩ := He.ba q
  exact ⟨He.eqO_ok a, He.eqO_ok b, of_decide_eq_true c, of_decide_eq_true d, of_decide_eq_true e, hi⟩
section
variable {X : Cx} {CX : CXT} {k n : Nat} {f C : Addr} {fd : FuncData} {ps ks : List Str} {sp : Sp} {E : L2.St → XK} {m : Str} {pos apos : Pos} {o e : Expr} {es : List Expr} {kws : List Keyword} {ta : TE} {t tk : TA} {g : List Value → List Value → List Value} {gV : List V → List V → List V}
def tMtL (C : Addr) (n l : Nat) (sp : Sp) (gV : List V → List V → List V) (E : L2.St → XK) (ta : TE) (t tk : TA) : TE := fun σ H Q =>
  ta σ H fun x H1 => ∃ a dx fs, x = .ref a ∧ SlX.Slt H1 a C dx fs ∧
    t σ H1 fun vs H2 => tk σ H2 fun zs H3 => vs.length = n ∧ zs.length = l ∧ sp (gV (x :: vs) zs) H3 Q (E σ)
theorem pe_mtL {pl : Sem Bool} (he : PE X o ta) (c : SlX.SCls X.K C) (hm : Meth X.K C m f) (F : FnOk X.prog X.w X.K X.mg X.base CX k f fd ps sp) (hr : Room k X.A) (hb : KBn X.K fd ps (n + 1) ks g gV) (hx : ∀ σ, PassesAt CX X σ (E σ))
    (ha : PA X (e :: es) t) (hkw : PK X kws tk) (hall : (backToKw pos (keywordEach kws X.env)).all (·.1.isSome) = true) (hks : (backToKw pos (keywordEach kws X.env)).filterMap (·.1) = ks)
    (hst : starEach (e :: es) X.env = (false, eval e X.env) :: starEach es X.env := by rfl)
    (hpl : ((backTo pos (starEach (e :: es) X.env)).any (·.1) || (backToKw pos (keywordEach kws X.env)).any (·.1.isNone)) = false := by rfl)
    (ht : eval (.Call (.Attribute o m apos) (e :: es) kws pos) X.env = (do
      let ov ← eval o X.env
      standAt apos.atName
      let (f, first) ← holding [ov] (getMethod ov m pl)
      callWith pos f first (backTo pos (starEach (e :: es) X.env)) (backToKw pos (keywordEach kws X.env))) := by rfl) :
    PE X (.Call (.Attribute o m apos) (e :: es) kws pos) (tMtL C n ks.length sp gV E ta t tk) := by
  refine ⟨fun pins s σ H Q I h => PySem.W.methodCall_KW (pl := pl) (thn (he.run pins s σ H _ I h) fun u s1 ⟨x, H1, I1, rx, a, dx, fs, ex, ea, q⟩ => ?_) ht⟩
  subst ex
  cases (show u = Value.ref a from rx)
  refine SlX.getmethsl_ok I1 ea c hm (PySem.W.callWith_KW (first := [.ref a]) (h₀ := X.base) I.ok.mod.kin hm.kp hall (thn (ha.run pos pins s1 σ H1 _ I1 q) fun us s2 ⟨vs, H2, I2, r, q2⟩ =>
    thn (hkw.run pos pins s2 σ H2 _ I2 q2) fun ws s3 ⟨zs, H3, I3, rz, l1, l2, q3⟩ => ⟨I3.kIn, ?_⟩) hpl hst)
  rw [hks]
  exact run_S (us := .ref a :: us) (vs := .ref a :: vs) F hr hb (hx σ) I3 (.cons rfl r) rz (congrArg Nat.succ l1) l2 q3
theorem pe_mtL0 {pl : Sem Bool} (he : PE X o ta) (c : SlX.SCls X.K C) (hm : Meth X.K C m f) (F : FnOk X.prog X.w X.K X.mg X.base CX k f fd ps sp) (hr : Room k X.A) (hb : KBn X.K fd ps (0 + 1) ks g gV) (hx : ∀ σ, PassesAt CX X σ (E σ))
    (hkw : PK X kws tk) (hall : (backToKw pos (keywordEach kws X.env)).all (·.1.isSome) = true) (hks : (backToKw pos (keywordEach kws X.env)).filterMap (·.1) = ks)
    (hpl : ((backTo pos (starEach [] X.env)).any (·.1) || (backToKw pos (keywordEach kws X.env)).any (·.1.isNone)) = false := by rfl)
    (ht : eval (.Call (.Attribute o m apos) [] kws pos) X.env = (do
      let ov ← eval o X.env
      standAt apos.atName
      let (f, first) ← holding [ov] (getMethod ov m pl)
      callWith pos f first (backTo pos (starEach [] X.env)) (backToKw pos (keywordEach kws X.env))) := by rfl) :
    PE X (.Call (.Attribute o m apos) [] kws pos) (tMtL C 0 ks.length sp gV E ta tNil tk) := by
  refine ⟨fun pins s σ H Q I h => PySem.W.methodCall_KW (pl := pl) (thn (he.run pins s σ H _ I h) fun u s1 ⟨x, H1, I1, rx, a, dx, fs, ex, ea, q⟩ => ?_) ht⟩
  subst ex
  cases (show u = Value.ref a from rx)
  refine SlX.getmethsl_ok I1 ea c hm (PySem.W.callWith_KW0 (first := [.ref a]) (h₀ := X.base) I.ok.mod.kin hm.kp hall
    (thn (hkw.run pos pins s1 σ H1 _ I1 q) fun ws s3 ⟨zs, H3, I3, rz, l1, l2, q3⟩ => ⟨I3.kIn, ?_⟩) hpl)
  rw [hks]
  exact run_S (us := [.ref a]) (vs := [.ref a]) F hr hb (hx σ) I3 (.cons rfl .nil) rz rfl l2 q3
end
/-! str(x) by the class's own def -/
section
variable {X : Cx} {C g : Addr} {n : Nat} {sp : Sp}
def rStrL (C : Addr) (sp : Sp) : List V → Hp → VK → Prop := fun xs H Q => ∃ a dx vs, xs = [V.ref a] ∧ SlX.Slt H a C dx vs ∧ sp [.ref a] H (fun z H' => ∃ y, z = .str y ∧ Q z H') E0
theorem call_strL (hs : PySem.W.findIn X.K (.ref C) "__str__" = some (some (.ref g))) (hf : PySem.W.isFn X.K (.ref g) = true) (F : FnR X.prog X.w X.K X.mg X.base (L2.CX X.prog X.w) n g sp) (hr : Room (n + 2) X.A) : CallR X (.type "str") (rStrL C sp) := by
  intro pins s σ H xs us Q I r h
  obtain ⟨a, dx, vs, rfl, hsl, q⟩ := h
  obtain ⟨u, rfl, ru⟩ := r.one
  cases (show u = Value.ref a from ru)
  obtain ⟨sl, od, _, J, _⟩ := SlX.slt_inst I hsl
  have hr2 : Room n X.A.in1.in1 := (show Room (n + 1) X.A.in1 from Room.in1 hr).in1
  refine PySem.W.kso_call hr2.units0 I.kIn J hs hf (wpAny_mono (wpAny_call (SlX.run_at (us := [.ref a]) (ws := [.ref a]) F hr2 I.env0.in1.in1 passL I (.cons rfl .nil) q)) (fun w s' z => ?_) fun _ _ x => x)
  obtain ⟨z', H', I', rz, y, ey, qz⟩ := z
  subst ey
  obtain ⟨t, e⟩ := (show ∃ t, w = Value.str y t from rz)
  cases e
  exact ⟨.str y, H', I', ⟨t, rfl⟩, qz⟩
end
/-! isinstance of an instance with slots, or of another thing -/
section
variable {X : Cx} {K : Frag}
theorem call_or {v : Value} {r1 r2 : List V → Hp → VK → Prop} (h1 : CallR X v r1) (h2 : CallR X v r2) : CallR X v (fun xs H Q => r1 xs H Q ∨ r2 xs H Q) := by
  intro pins s σ H xs us Q I r h
  rcases h with h | h
  · exact h1 pins s σ H xs us Q I r h
  · exact h2 pins s σ H xs us Q I r h
theorem isiLK (hK : X.K = K) (C : Addr) : CallR X (.builtin "isinstance") (SlX.rIsiSl K (.ref C)) := hK ▸ SlX.call_isiSl (.ref C)
theorem isi2K (hK : X.K = K) (C : Addr) : CallR X (.builtin "isinstance") (fun xs H Q => SlX.rIsiSl K (.ref C) xs H Q ∨ rIsi K xs H Q) := call_or (isiLK hK C) (isiK hK)
end
end S
namespace S
open PySem PySem.Spec PyProof.Rows L2
/-! ### + - * // of own instances with slots, among themselves and with ints -/
theorem ps_never {X : Cx} {st : Stmt} : PS X st (fun _ _ _ => False) := ⟨fun _ _ _ _ _ _ h => h.elim⟩
section
open PySem.W PySem.Calls
variable {prog : Program} {w : World} {A : Around} {E : Value → Shared → Prop} {s : Shared} {K : Frag} {x C f f0 : Addr} {ox : Obj} {od : Option Obj}
/-- at x stands no int -/
def NoInt (x : Addr) (s : Shared) : Prop := ∃ o : Obj, s.heap.get? x = some o ∧ ∀ i t, o.data ≠ .prim (.int i t)
theorem asInt_no {M : Model} {A : Around} {E : Value → Shared → Prop} {s : Shared} {x : Addr} {Q : Option Int → Shared → Prop} (h : NoInt x s) (q : Q none s) : wpAny M A (asInt? (.ref x)) Q E s := by
  obtain ⟨o, ho, hn⟩ := h
  show wpAny M A (load x >>= _) Q E s
  refine wpAny_bind (wpAny_load ho ?_)
  split
  · rename_i i t e
    exact absurd e (hn i t)
  · exact wpAny_pure q
theorem decl_bin {prog : Program} {w : World} {A : Around} {R : Result → Shared → Prop} {s : Shared} {name : String} {f : Int → Int → Sem Fin} {a : Int} {t : Tok} {x : Addr} (h : NoInt x s) (q : R (.ok (.ret .notImplemented)) s) :
    wpAny (model prog w) A.in1 (Builtin.Int.intBinary name f false ⟨[.int a t, .ref x], []⟩) (fun fin s' => match fin with | .done f => R (.ok f) s' | .again c' => c'.quiet = true ∧ codeAny (model prog w) A c' R s') (fun e s' => R (.error e) s') s := by
  unfold Builtin.Int.intBinary
  refine wpAny_bind (wpAny_of_eq (a := (.int a t, [.ref x])) rfl ?_)
  refine wpAny_bind (wpAny_of_eq (a := a) rfl ?_)
  refine wpAny_bind (asInt_no h ?_)
  exact wpAny_bind (wpAny_rule (wpAny_pure q))
theorem decl_add (a : Int) (t : Tok) (x : Addr) : GivesAt (NoInt x) (Builtin.«int.__add__» ⟨[.int a t, .ref x], []⟩) (.val (Value.notImplemented)) := fun prog w A R s h q => decl_bin h q
theorem decl_sub (a : Int) (t : Tok) (x : Addr) : GivesAt (NoInt x) (Builtin.«int.__sub__» ⟨[.int a t, .ref x], []⟩) (.val (Value.notImplemented)) := fun prog w A R s h q => decl_bin h q
theorem decl_mul (a : Int) (t : Tok) (x : Addr) : GivesAt (NoInt x) (Builtin.«int.__mul__» ⟨[.int a t, .ref x], []⟩) (.val (Value.notImplemented)) := fun prog w A R s h q => decl_bin h q
theorem decl_floordiv (a : Int) (t : Tok) (x : Addr) : GivesAt (NoInt x) (Builtin.«int.__floordiv__» ⟨[.int a t, .ref x], []⟩) (.val (Value.notImplemented)) := fun prog w A R s h q => by
  unfold Builtin.«int.__floordiv__»
  refine wpAny_bind ?_
  refine wpAny_bind (m := asInt? (.int a t)) (wpAny_of_eq (a := some a) rfl ?_)
  refine wpAny_bind (m := asInt? (.ref x)) (asInt_no h ?_)
  exact wpAny_pure (decl_bin h q)
/-- what is known of int's own slot for an operator -/
structure IntOp (op : Operator) (idl : String) (B : Builtin) : Prop where
  fl : fillsNumberSlot (.type "int") op.info.2 = pure true
  sl : Slot "int" (PySem.dunder op.info.2) idl
  en : entryFor table idl = some B
  ar : ∀ a b : Value, argsOk idl ⟨[a, b], []⟩
  de : ∀ (a : Int) (t : Tok) (x : Addr), GivesAt (NoInt x) (B ⟨[.int a t, .ref x], []⟩) (.val (Value.notImplemented))
theorem io_add : IntOp .Add "int.__add__" Builtin.«int.__add__» := ⟨PySem.F.fills_int_add, PySem.F.slot_int_add, PySem.F.entry_int_add, PySem.F.args_int_add_2, decl_add⟩
theorem io_sub : IntOp .Sub "int.__sub__" Builtin.«int.__sub__» := ⟨PySem.F.fills_int_sub, PySem.F.slot_int_sub, PySem.F.entry_int_sub, PySem.F.args_int_sub_2, decl_sub⟩
theorem io_mul : IntOp .Mult "int.__mul__" Builtin.«int.__mul__» := ⟨PySem.F.fills_int_mul, PySem.F.slot_int_mul, PySem.F.entry_int_mul, PySem.F.args_int_mul_2, decl_mul⟩
theorem io_fdiv : IntOp .FloorDiv "int.__floordiv__" Builtin.«int.__floordiv__» := ⟨PySem.F.fills_int_floordiv, PySem.F.slot_int_floordiv, PySem.F.entry_int_floordiv, PySem.F.args_int_floordiv_2, decl_floordiv⟩
theorem bin_refl {op : Operator} {idl : String} {B : Builtin} {i : Int} {t : Tok} {Q : Value → Shared → Prop} (io : IntOp op idl B) (X : K.In s.heap) (I : InstAt s.heap x ox C od) (hno : NoInt x s) (hc : selfFirst K C = true)
    (hs : findIn K (.ref C) (PySem.dunder op.info.2) = some (some (.ref f0))) (hsR : findIn K (.ref C) (dunderR op.info.2) = some (some (.ref f))) (hf : isFn K (.ref f) = true) (hsub : subIn K (.ref C) (.type "int") = some false)
    (h : wpAny (model prog w) A (call (.ref f) [.ref x, .int i t]) (PySem.W.CmpBack Q) E s) : wpAny (model prog w) A (binaryOp op (.int i t) (.ref x)) Q E s := by
  obtain ⟨fl, sl, en, ar, de⟩ := io
  obtain ⟨cd, rest, hcd, hm⟩ := ksp_first hc
  rcases hi : op.info with ⟨sym, nm⟩
  rw [hi] at fl sl hs hsR
  simp only [binaryOp, hi]
  refine wpAny_holding (wpAny_bind ?_)
  simp only [binaryOp1]
  have ha := typeIs_int s i t
  refine wpAny_bind (wpAny_typeOf ha (wpAny_bind (I.type.here (wpAny_bind (wpAny_of_eq fl ?_)))))
  have hne : (Value.type "int" == Value.ref C) = false := Bool.eq_false_iff.mpr fun q => by cases beq_iff_eq.mp q
  simp only [hne, Bool.false_eq_true, if_false]
  refine wpAny_bind ((fills_K X hcd hm hs).here ?_)
  simp only [Bool.and_self, if_true]
  refine wpAny_bind ((looks_subIn X hsub).here ?_)
  have hpy : numberSlotInPython (.type "int") nm = pure false := rfl
  simp only [Bool.false_eq_true, if_false, pure_bind, Bool.not_false, Bool.and_self, if_true, hpy]
  simp only [tryMethod]
  refine wpAny_bind (wpAny_bind (wpAny_callSpecial?_slot ha sl (wpAny_mono (call_givesAt (Q := fun v s1 => v = .notImplemented ∧ s1 = s) sl ha en (ar _ _) (de i t x) hno ⟨rfl, rfl⟩) (fun v s1 h1 => ?_) fun _ _ x => x)))
  obtain ⟨rfl, rfl⟩ := h1
  refine wpAny_pure (wpAny_bind (wpAny_bind (special_fn X I hsR (beq_iff_eq.mp hf) (wpAny_mono h (fun v s' hv => ?_) fun _ _ e => e))))
  cases v <;> first | exact hv.elim | exact wpAny_pure (wpAny_bind (wpAny_rule (wpAny_pure (wpAny_pure hv))))
end
/-- what of the text a class must have for an operator -/
structure BinC (K : Frag) (C : Addr) (nm : String) (f g : Addr) : Prop where
  sf : PySem.W.selfFirst K C = true
  at_ : PySem.W.findIn K (.ref C) (PySem.dunder nm) = some (some (.ref f))
  fn : PySem.W.isFn K (.ref f) = true
  atR : PySem.W.findIn K (.ref C) (dunderR nm) = some (some (.ref g))
  fnR : PySem.W.isFn K (.ref g) = true
  su : PySem.W.subIn K (.ref C) (.type "int") = some false
  us : PySem.W.subIn K (.type "int") (.ref C) = some false
  i1 : ∃ fo, PySem.W.findIn K (.type "int") (PySem.dunder nm) = some fo
  i2 : ∃ ro, PySem.W.findIn K (.type "int") (dunderR nm) = some ro
def binB (K : Frag) (C : Addr) (nm : String) (f g : Addr) : Bool := PySem.W.selfFirst K C && (He.eqO (PySem.W.findIn K (.ref C) (PySem.dunder nm)) (some (some (.ref f))) && (PySem.W.isFn K (.ref f) &&
  (He.eqO (PySem.W.findIn K (.ref C) (dunderR nm)) (some (some (.ref g))) && (PySem.W.isFn K (.ref g) && (decide (PySem.W.subIn K (.ref C) (.type "int") = some false) && (decide (PySem.W.subIn K (.type "int") (.ref C) = some false) &&
  ((PySem.W.findIn K (.type "int") (PySem.dunder nm)).isSome && (PySem.W.findIn K (.type "int") (dunderR nm)).isSome)))))))
theorem binB_ok {K : Frag} {C : Addr} {nm : String} {f g : Addr} (q : binB K C nm f g = true) : BinC K C nm f g := by
  obtain ⟨a, q⟩ := He.ba q
  obtain ⟨b, q⟩ := He.ba q
  obtain ⟨c, q⟩ := He.ba q
  obtain ⟨d, q⟩ := He.ba q
  obtain ⟨e, q⟩ := He.ba q
  obtain ⟨f, q⟩ := He.ba q
  obtain ⟨g, q⟩ := He.ba q
  obtain ⟨h, i⟩ := He.ba q
  exact ⟨a, He.eqO_ok b, c, He.eqO_ok d, e, of_decide_eq_true f, of_decide_eq_true g, Option.isSome_iff_exists.mp h, Option.isSome_iff_exists.mp i⟩
/-- x op y, one of them an instance of C, the other too, or an int -/
def rBinL (C : Addr) (sp spR : Sp) (E : XK) : R2 := fun x y H Q =>
  (∃ a dx vs b dy ws, x = .ref a ∧ y = .ref b ∧ SlX.Slt H a C dx vs ∧ SlX.Slt H b C dy ws ∧ sp [x, y] H Q E) ∨
  (∃ a dx vs i, x = .ref a ∧ y = .int i ∧ SlX.Slt H a C dx vs ∧ sp [x, y] H Q E) ∨
  (∃ b dy ws i, x = .int i ∧ y = .ref b ∧ SlX.Slt H b C dy ws ∧ spR [y, x] H Q E)
def tBinL (C : Addr) (sp spR : Sp) (E : L2.St → XK) (ta tb : TE) : TE := fun σ H Q => ta σ H fun x H1 => tb σ H1 fun y H2 => rBinL C sp spR (E σ) x y H2 Q
section
variable {X : Cx} {C f g : Addr} {n k : Nat} {sp spR : Sp} {E : L2.St → XK} {op : Operator} {idl : String} {B : Builtin} {a b : Expr} {ta tb : TE} {pos : Pos}
/-- the callee runs below the running body, what is raised wished for at the slots -/
theorem run_fnAt {CX : CXT} {E : XK} {pins : List (Addr × Obj)} {σ : L2.St} {H : Hp} {s : Shared} {Q : VK} {us : List Value} {ws : List V} (F : FnR X.prog X.w X.K X.mg X.base CX n f sp) (hr : Room n X.A) (hx : PassesAt CX X σ E) (I : Inv X pins σ H s) (r : Vals ws us) (h : sp ws H Q E) :
    codeAny (model X.prog X.w) X.A (.call (.ref f) ⟨us, []⟩) (fun r s' => match r with | .ok (.ret v) => EP X pins σ Q v s' | .ok _ => False | .error e => X.xe e s') s := by
  refine codeAny_mono (F X.A X.stack s H us ws Q E hr I.env0 r h) fun r s' hq => ?_
  match r, hq with
  | .error e, hq => exact hx pins H s e s' I hq
  | .ok (.ret u), hq => exact I.after hq
  | .ok .next, hq => exact hq.elim
  | .ok .brk, hq => exact hq.elim
  | .ok .cont, hq => exact hq.elim
theorem cb_of {pins : List (Addr × Obj)} {σ : L2.St} {Q : VK} {w : Value} {s' : Shared} (z : EP X pins σ Q w s') : PySem.W.CmpBack (EP X pins σ Q) w s' := by
  obtain ⟨v, H', I', rz, qz⟩ := z
  exact SlX.cmpback rz ⟨v, H', I', rz, qz⟩
theorem pe_binL (io : IntOp op idl B) (c : BinC X.K C op.info.2 f g) (F : FnR X.prog X.w X.K X.mg X.base (L2.CX X.prog X.w) n f sp) (hr : Room n X.A) (G : FnR X.prog X.w X.K X.mg X.base (L2.CX X.prog X.w) k g spR) (hr2 : Room k X.A)
    (hx : ∀ σ, PassesAt (L2.CX X.prog X.w) X σ (E σ)) (ha : PE X a ta) (hb : PE X b tb) : PE X (.BinOp a op b pos) (tBinL C sp spR E ta tb) := by
  refine ⟨fun pins s σ H Q I h => wpAny_BinOp (binT ha hb I (R := fun x y H2 => rBinL C sp spR (E σ) x y H2 Q) h fun v u s2 x y H2 I2 rx ry q => ?_)⟩
  obtain ⟨m, hF⟩ := I2.fr
  rcases q with ⟨a, dx, vs, b, dy, ws, rfl, rfl, h1, h2, q⟩ | ⟨a, dx, vs, i, rfl, rfl, h1, q⟩ | ⟨b, dy, ws, i, rfl, rfl, h1, q⟩
  · cases (show v = Value.ref a from rx)
    cases (show u = Value.ref b from ry)
    obtain ⟨sl, od, _, J, _⟩ := SlX.slt_inst I2 h1
    obtain ⟨sl', od', _, J', _⟩ := SlX.slt_inst I2 h2
    exact PySem.W.binop_K hF I2.ok.mod.kin J J'.type c.sf c.at_ c.fn (wpAny_mono (wpAny_call (run_fnAt (us := [.ref a, .ref b]) (ws := [.ref a, .ref b]) F hr (hx σ) I2 (.cons rfl (.cons rfl .nil)) q)) (fun w s' z => cb_of z) fun _ _ x => x)
  · cases (show v = Value.ref a from rx)
    obtain ⟨t, rfl⟩ := (show ∃ t, u = Value.int i t from ry)
    obtain ⟨sl, od, _, J, _⟩ := SlX.slt_inst I2 h1
    obtain ⟨fo, e1⟩ := c.i1
    obtain ⟨ro, e2⟩ := c.i2
    exact PySem.W.ksp_binT (T := "int") hF I2.ok.mod.kin J rfl c.sf c.at_ c.fn c.atR (.inr ⟨_, rfl⟩) e1 e2 c.us (wpAny_mono (wpAny_call (run_fnAt (us := [.ref a, .int i t]) (ws := [.ref a, .int i]) F hr (hx σ) I2 (.cons rfl (.cons ⟨t, rfl⟩ .nil)) q)) (fun w s' z => cb_of z) fun _ _ x => x)
  · obtain ⟨t, rfl⟩ := (show ∃ t, v = Value.int i t from rx)
    cases (show u = Value.ref b from ry)
    obtain ⟨sl, od, _, J, _⟩ := SlX.slt_inst I2 h1
    exact bin_refl io I2.kIn J ⟨_, J.at_, fun _ _ => by intro z; cases z⟩ c.sf c.at_ c.atR c.fnR c.su (wpAny_mono (wpAny_call (run_fnAt (us := [.ref b, .int i t]) (ws := [.ref b, .int i]) G hr2 (hx σ) I2 (.cons rfl (.cons ⟨t, rfl⟩ .nil)) q)) (fun w s' z => cb_of z) fun _ _ x => x)
/-- - x -/
def rNegL (C : Addr) (sp : Sp) : V → Hp → VK → Prop := fun x H Q => ∃ a dx vs, x = .ref a ∧ SlX.Slt H a C dx vs ∧ sp [x] H Q E0
theorem un_negL (hs : PySem.W.findIn X.K (.ref C) "__neg__" = some (some (.ref f))) (hf : PySem.W.isFn X.K (.ref f) = true) (F : FnR X.prog X.w X.K X.mg X.base (L2.CX X.prog X.w) n f sp) (hr : Room n X.A) : UnR X (unaryOp .USub) (rNegL C sp) := by
  intro pins s σ H x v Q I rx h
  obtain ⟨a, dx, vs, rfl, h1, q⟩ := h
  cases (show v = Value.ref a from rx)
  obtain ⟨sl, od, _, J, _⟩ := SlX.slt_inst I h1
  obtain ⟨m, hF⟩ := I.fr
  exact PySem.W.ksp_neg hF I.ok.mod.kin J hs hf (wpAny_call (run_fnR (us := [.ref a]) (vs := [.ref a]) F hr passL I (.cons rfl .nil) q))
/-! raise C(), C a class of the text with no __init__ -/
theorem pmk_own0 {bmB : List Value} {BB newId initId : String} {x : Str} {p : Pos} (F : ExcBaseFacts BB newId initId bmB) (q : PySem.W.excIn X.K C bmB newId = true) (gC : X.mg x = some (.ref C))
    (kC : PySem.W.keepIn X.K (.ref C) = true) (r : Raises X (.ref C)) (hg : Gl X x) (hdb : (x == ("__debug__" : Str)) = false := by decide) :
    PMk X (.Call (.Name x p) [] [] pos) (fun _ H Q => Q (.ref C) none H) := by
  intro pins s σ H Q I h
  refine wpAny_Call_Name_kw (ld_glob I hg gC ?_ hdb)
  refine PySem.W.callWith_K0 (first := []) I.kIn kC ?_
  show wpAny _ _ (call (.ref C) []) _ _ _
  obtain ⟨bm, N, nm, qn, bs, hdct, sn, sub, ab, col, dd, k0, k1, k2, k3, k5, mN, hC, hN, hni, T⟩ := exc_obj I.kIn q
  refine wpAny_call_exc_subT F T hC hN hni (fun h' e hm => ?_) (Nat.zero_le _)
  exact mk_of I hm r h (I.hok.gone hm.new)
end
structure Ex0 (K : Frag) (C : Addr) : Prop where
  ex : PySem.W.excIn K C [.type "ValueError", .type "Exception", .type "BaseException", .type "object"] "ValueError.__new__" = true
  kp : PySem.W.keepIn K (.ref C) = true
  sb : PySem.W.subIn K (.ref C) (.type "BaseException") = some true
  ty : PySem.W.typeIn K (.ref C) = some (.type "type")
def ex0B (K : Frag) (C : Addr) : Bool := PySem.W.excIn K C [.type "ValueError", .type "Exception", .type "BaseException", .type "object"] "ValueError.__new__" && (PySem.W.keepIn K (.ref C) &&
  (decide (PySem.W.subIn K (.ref C) (.type "BaseException") = some true) && decide (PySem.W.typeIn K (.ref C) = some (.type "type"))))
theorem ex0B_ok {K : Frag} {C : Addr} (q : ex0B K C = true) : Ex0 K C := by
  obtain ⟨a, q⟩ := He.ba q
  obtain ⟨b, q⟩ := He.ba q
  obtain ⟨c, d⟩ := He.ba q
  exact ⟨a, b, of_decide_eq_true c, of_decide_eq_true d⟩
theorem ps_raiseP {X : Cx} {C : Addr} {W : WX} {x : Str} {p pos pos2 : Pos} (hc : X.calm = true) (tk : Takes X W) (c : Ex0 X.K C) (hg : Gl X x) (gC : X.mg x = some (.ref C)) (hdb : (x == ("__debug__" : Str)) = false := by decide) :
    PS X (.Raise (some (.Call (.Name x p) [] [] pos)) none pos2) (fun _ σ H => W (.ref C) none σ H) :=
  ps_raise hc tk (pmk_own0 PySem.F.excBase_ValueError c.ex gC c.kp (raises_own c.sb c.ty) hg hdb)
end S
namespace S
open PySem PySem.Spec PyProof.Rows L2
/-! abs(x) by the class's own def -/
section
variable {X : Cx} {C g : Addr} {n : Nat} {sp : Sp}
def rAbsL (C : Addr) (sp : Sp) : List V → Hp → VK → Prop := fun xs H Q => ∃ a dx vs, xs = [V.ref a] ∧ SlX.Slt H a C dx vs ∧ sp [.ref a] H Q E0
theorem call_absL (hs : PySem.W.findIn X.K (.ref C) "__abs__" = some (some (.ref g))) (hf : PySem.W.isFn X.K (.ref g) = true) (F : FnR X.prog X.w X.K X.mg X.base (L2.CX X.prog X.w) n g sp) (hr : Room (n + 1) X.A) : CallR X (.builtin "abs") (rAbsL C sp) := by
  intro pins s σ H xs us Q I r h
  obtain ⟨a, dx, vs, rfl, hsl, q⟩ := h
  obtain ⟨u, rfl, ru⟩ := r.one
  cases (show u = Value.ref a from ru)
  obtain ⟨sl, od, _, J, _⟩ := SlX.slt_inst I hsl
  refine PySem.Calls.call_function_entry kind_abs plain_abs entry_abs (args_abs _) ?_
  unfold Builtin.«abs»
  refine wpAny_bind (wpAny_of_eq (a := .ref a) rfl ?_)
  refine wpAny_bind (PySem.W.special_fn I.kIn J hs (beq_iff_eq.mp hf) (wpAny_mono (wpAny_call (SlX.run_at (us := [.ref a]) (ws := [.ref a]) F hr.in1 I.env0.in1 passL I (.cons rfl .nil) q)) (fun w s' z => ?_) fun _ _ x => x))
  exact wpAny_pure ⟨_, rfl, z⟩
end
end S
namespace S
open PySem PySem.Spec PyProof.Rows L2
/-! // by any divisor but 0 -/
def CDivN (_ j : Int) : Prop := j ≠ 0 ∧ j.natAbs.log2 < 9000
theorem op_fdivN {X : Cx} : OpR X (binaryOp .FloorDiv) (rI CDivN fun i j => .int (i.fdiv j)) := opI fun i j _ _ _ _ _ hc q => floordiv_int hc.1 q (.inl (PyProof.noPylong_of_log2 hc.2))
end S
namespace S
open PySem PySem.Spec PyProof.Rows L2
/-! ### == < .. of slotted instances by their own defs, the right side an instance of the class or an int -/
section
variable {X : Cx} {n : Nat} {C g : Addr} {sp : Sp}
def rCmpL (K : Frag) (C : Addr) (sp : Sp) : R2 := fun x y H Q => ∃ a dx vs, x = .ref a ∧ SlX.Slt H a C dx vs ∧ ((∃ b dy ws, y = .ref b ∧ SlX.Slt H b C dy ws) ∨ ((∃ i, y = .int i) ∧ PySem.W.notFirst K C (.type "int") = true)) ∧ sp [x, y] H Q E0
theorem op_cmpL {op : CmpOp} (hop : ∀ a b, compareOp op a b = richCompare op a b) (hs : PySem.W.findIn X.K (.ref C) (cmpInfo op).2.1 = some (some (.ref g))) (hf : PySem.W.isFn X.K (.ref g) = true)
    (F : FnR X.prog X.w X.K X.mg X.base (L2.CX X.prog X.w) n g sp) (hr : Room n X.A) : OpR X (compareOp op) (rCmpL X.K C sp) := by
  intro pins s σ H x y v u Q I rx ry h
  obtain ⟨a, dx, vs, rfl, h1, hy, q⟩ := h
  cases (show v = Value.ref a from rx)
  obtain ⟨sl, od, _, J, _⟩ := SlX.slt_inst I h1
  obtain ⟨m, hF⟩ := I.fr
  rw [hop]
  rcases hy with ⟨b, dy, ws, rfl, h2⟩ | ⟨⟨i, rfl⟩, hn⟩
  · cases (show u = Value.ref b from ry)
    obtain ⟨sl', od', _, J', _⟩ := SlX.slt_inst I h2
    refine PySem.W.cmp_K (op := op) (tb := .ref C) hr.units0 hF I.ok.mod.kin J J'.type (by simp [PySem.W.notFirst]) hs hf ?_
    refine wpAny_mono (wpAny_call (run_fnR (us := [.ref a, .ref b]) (vs := [.ref a, .ref b]) F hr passL I (.cons rfl (.cons rfl .nil)) q)) (fun w s' z => ?_) fun _ _ x => x
    obtain ⟨z2, H2, I2, rz, qz⟩ := z
    exact SlX.cmpback rz ⟨z2, H2, I2, rz, qz⟩
  · obtain ⟨t, rfl⟩ := (show ∃ t, u = Value.int i t from ry)
    refine PySem.W.cmp_K (op := op) (tb := .type "int") hr.units0 hF I.ok.mod.kin J (PySem.W.Looks.of_pure rfl) hn hs hf ?_
    refine wpAny_mono (wpAny_call (run_fnR (us := [.ref a, .int i t]) (vs := [.ref a, .int i]) F hr passL I (.cons rfl (.cons ⟨t, rfl⟩ .nil)) q)) (fun w s' z => ?_) fun _ _ x => x
    obtain ⟨z2, H2, I2, rz, qz⟩ := z
    exact SlX.cmpback rz ⟨z2, H2, I2, rz, qz⟩
/-- x != y by x's own ==, both of the class -/
def rNeL (C : Addr) (sp : Sp) : R2 := fun x y H Q => ∃ a dx vs b dy ws, x = .ref a ∧ y = .ref b ∧ SlX.Slt H a C dx vs ∧ SlX.Slt H b C dy ws ∧ sp [x, y] H (fun z H2 => ∃ r, z = .bl r ∧ Q (.bl (!r)) H2) E0
theorem op_neL (hne : PySem.W.findIn X.K (.ref C) "__ne__" = some (some (.builtin "object.__ne__"))) (hm : PySem.W.mroIn X.K C (.type "object") = some true)
    (hs : PySem.W.findIn X.K (.ref C) "__eq__" = some (some (.ref g))) (hf : PySem.W.isFn X.K (.ref g) = true)
    (F : FnR X.prog X.w X.K X.mg X.base (L2.CX X.prog X.w) n g sp) (hr : Room (n + 1) X.A) : OpR X (compareOp .NotEq) (rNeL C sp) := by
  intro pins s σ H x y v u Q I rx ry h
  obtain ⟨a, dx, fs, b, dy, gs, rfl, rfl, ha, hb, q⟩ := h
  cases (show v = Value.ref a from rx)
  cases (show u = Value.ref b from ry)
  obtain ⟨sl, od, _, J, _⟩ := SlX.slt_inst I ha
  obtain ⟨sl', od', _, J2, _⟩ := SlX.slt_inst I hb
  show wpAny _ _ (richCompare .NotEq (.ref a) (.ref b)) _ _ _
  refine ne_K (tb := .ref C) (hu_of hr) I.kIn J J2.type (by simp [PySem.W.notFirst]) hne hm hs hf ?_
  refine wpAny_mono (wpAny_call (SlX.run_at (us := [.ref a, .ref b]) (ws := [.ref a, .ref b]) F hr.in1 I.env0.in1 passL I (.cons rfl (.cons rfl .nil)) q)) (fun w s' z => ?_) fun _ _ x => x
  obtain ⟨z2, H2, I2, rz, r, rfl, qz⟩ := z
  cases (show w = Value.bool r from rz)
  exact ⟨r, rfl, .bl (!r), H2, I2, rfl, qz⟩
end
end S
namespace S
open PySem PySem.Spec PyProof.Rows L2
/-! ### [e for x in ..] by an invariant over the turn and the heap -/
section
variable {K : Frag} {a D : Addr} {xs : List V} {g : TG} {te : TE} {σ : L2.St} {H : Hp} {vs : List Nat} {R0 : Hp → Prop}
theorem lc_list (Pv : Nat → Hp → Prop) (h0 : Pv 0 (upd H D (.lst []))) (hl : ∀ i H, i ≤ xs.length → Pv i H → SqL K H a xs)
    (hs : ∀ i x H, xs[i]? = some x → Pv i H → g x (wipe σ vs) H fun σ2 H2 => wipe σ2 vs = wipe σ vs ∧ te σ2 H2 fun y H4 => ∃ acc, H4 D = some (.lst acc) ∧ acc.length < sizeLine ∧ Pv (i + 1) (upd H4 D (.lst (acc ++ [y]))))
    (hd : ∀ H, Pv xs.length H → R0 H)
    (mono : ∀ x H R R', (∀ σ2 H2, R σ2 H2 → R' σ2 H2) → g x (wipe σ vs) H R → g x (wipe σ vs) H R') :
    ∃ W : Nat → Nat → Hp → Prop, (∃ m, W 0 m (upd H D (.lst []))) ∧ ∀ i m H, W i m H →
      ((Itl K a).stop i H ∧ R0 H) ∨ ((Itl K a).go i H ∧ ∃ Nx : Hp → Prop, (∀ H', Nx H' → ∃ m', m' < m ∧ W (i + 1) m' H') ∧ ∀ x H', (Itl K a).yld i H x H' → g x (wipe σ vs) H' fun σ2 H2 => wipe σ2 vs = wipe σ vs ∧ tYes σ2 H2 fun b H3 =>
        if b = true then te σ2 H3 fun y H4 => ∃ acc, H4 D = some (.lst acc) ∧ acc.length < sizeLine ∧ Nx (upd H4 D (.lst (acc ++ [y]))) else Nx H3) := by
  refine ⟨fun i m H => m = xs.length - i ∧ i ≤ xs.length ∧ Pv i H, ⟨xs.length, by simp, Nat.zero_le _, h0⟩, ?_⟩
  rintro i m H ⟨rfl, hi, p⟩
  have q := hl i H hi p
  by_cases hlt : i < xs.length
  · refine .inr ⟨⟨xs, xs[i], q, by simp [hlt]⟩, Pv (i + 1), fun H' p' => ⟨xs.length - (i + 1), by omega, rfl, hlt, p'⟩, fun x H' y => ?_⟩
    obtain ⟨e, y⟩ := y
    subst e
    exact mono _ _ _ _ (fun σ2 H2 z => ⟨z.1, by unfold tYes; exact iteT z.2⟩) (hs i x _ (y xs q) p)
  · have e : i = xs.length := by omega
    subst e
    exact .inl ⟨⟨xs, q, Nat.le_refl _⟩, hd H p⟩
theorem lc_range {lo : Int} {n : Nat} (Pv : Nat → Hp → Prop) (h0 : Pv 0 (upd H D (.lst [])))
    (hs : ∀ i H, i < n → Pv i H → g (.int (lo + i)) (wipe σ vs) H fun σ2 H2 => wipe σ2 vs = wipe σ vs ∧ te σ2 H2 fun y H4 => ∃ acc, H4 D = some (.lst acc) ∧ acc.length < sizeLine ∧ Pv (i + 1) (upd H4 D (.lst (acc ++ [y]))))
    (hd : ∀ H, Pv n H → R0 H)
    (mono : ∀ x H R R', (∀ σ2 H2, R σ2 H2 → R' σ2 H2) → g x (wipe σ vs) H R → g x (wipe σ vs) H R') :
    ∃ W : Nat → Nat → Hp → Prop, (∃ m, W 0 m (upd H D (.lst []))) ∧ ∀ i m H, W i m H →
      ((Itr lo n).stop i H ∧ R0 H) ∨ ((Itr lo n).go i H ∧ ∃ Nx : Hp → Prop, (∀ H', Nx H' → ∃ m', m' < m ∧ W (i + 1) m' H') ∧ ∀ x H', (Itr lo n).yld i H x H' → g x (wipe σ vs) H' fun σ2 H2 => wipe σ2 vs = wipe σ vs ∧ tYes σ2 H2 fun b H3 =>
        if b = true then te σ2 H3 fun y H4 => ∃ acc, H4 D = some (.lst acc) ∧ acc.length < sizeLine ∧ Nx (upd H4 D (.lst (acc ++ [y]))) else Nx H3) := by
  refine ⟨fun i m H => m = n - i ∧ i ≤ n ∧ Pv i H, ⟨n, by simp, Nat.zero_le _, h0⟩, ?_⟩
  rintro i m H ⟨rfl, hi, p⟩
  by_cases hlt : i < n
  · refine .inr ⟨hlt, Pv (i + 1), fun H' p' => ⟨n - (i + 1), by omega, rfl, hlt, p'⟩, fun x H' y => ?_⟩
    obtain ⟨e, y⟩ := y
    subst e y
    exact mono _ _ _ _ (fun σ2 H2 z => ⟨z.1, by unfold tYes; exact iteT z.2⟩) (hs i _ hlt p)
  · have e : i = n := by omega
    subst e
    exact .inl ⟨Nat.le_refl _, hd H p⟩
theorem gName_mono {i : Nat} {σ : L2.St} : ∀ (x : V) (H : Hp) (R R' : L2.St → Hp → Prop), (∀ σ2 H2, R σ2 H2 → R' σ2 H2) → gName i x σ H R → gName i x σ H R' := fun _ _ _ _ k h => k _ _ h
theorem sumK {X : Cx} (hK : X.K = K) (hc : X.calm = true) : CallR X (.builtin "sum") (rSum K) := hK ▸ cr_sum hc
theorem boot_sum : bootBuiltins "sum" = some (.builtin "sum") := by decide +kernel
end
end S
namespace S
open PySem PySem.Spec PyProof.Rows L2
/-! ### == of any data, by what the parts answer -/
section
variable {K : Frag} {H : Hp} {n m : Nat} {x y : V} {b : Bool}
def EqOk (K : Frag) (H : Hp) (n : Nat) (x y : V) (b : Bool) : Prop := ∀ (X : Cx) (pins : List (Addr × Obj)) (σ : L2.St) (s : Shared) (A : Around) (v u : Value), X.K = K → Inv X pins σ H s → A.units + n < cLine → RelV x v → RelV y u → SeqAt.EqAt A s v u b
def RcOk (K : Frag) (H : Hp) (n : Nat) (x y : V) (b : Bool) : Prop := ∀ (X : Cx) (pins : List (Addr × Obj)) (σ : L2.St) (s : Shared) (A : Around) (v u : Value), X.K = K → Inv X pins σ H s → A.units + n < cLine → RelV x v → RelV y u → ∀ (E Q : Value → Shared → Prop), Q (.bool b) s → wpAny (model X.prog X.w) A (richCompare .Eq v u) Q E s
def NeOk (K : Frag) (H : Hp) (n : Nat) (x y : V) (b : Bool) : Prop := ∀ (X : Cx) (pins : List (Addr × Obj)) (σ : L2.St) (s : Shared) (A : Around) (v u : Value), X.K = K → Inv X pins σ H s → A.units + n < cLine → RelV x v → RelV y u → ∀ (E Q : Value → Shared → Prop), Q (.bool (!b)) s → wpAny (model X.prog X.w) A (richCompare .NotEq v u) Q E s
structure EqG (K : Frag) (H : Hp) (n : Nat) (x y : V) (b : Bool) : Prop where
  eq : RcOk K H n x y b
  ne : NeOk K H n x y b
  at_ : EqOk K H n x y b
theorem EqOk.up (h : EqOk K H n x y b) (l : n ≤ m) : EqOk K H m x y b := fun X pins σ s A v u k I hu => h X pins σ s A v u k I (Nat.lt_of_le_of_lt (Nat.add_le_add_left l _) hu)
theorem EqOk.to {c : Bool} (h : EqOk K H n x y b) (e : b = c) : EqOk K H n x y c := e ▸ h
theorem EqG.to {c : Bool} (h : EqG K H n x y b) (e : b = c) : EqG K H n x y c := e ▸ h
theorem EqG.up (h : EqG K H n x y b) (l : n ≤ m) : EqG K H m x y b :=
  ⟨fun X pins σ s A v u k I hu => h.eq X pins σ s A v u k I (Nat.lt_of_le_of_lt (Nat.add_le_add_left l _) hu), fun X pins σ s A v u k I hu => h.ne X pins σ s A v u k I (Nat.lt_of_le_of_lt (Nat.add_le_add_left l _) hu), h.at_.up l⟩
theorem eg_same {a : Addr} : EqOk K H n (.ref a) (.ref a) true := fun X pins σ s A v u k I hu rv ru => by
  cases rv
  cases ru
  exact SeqAt.EqAt.same _
theorem eg_dat {d e : PyData} (hd : Dp K H x d) (he : Dp K H y e) (pd : d.plain = true) (pe : e.plain = true) : EqG K H (min d.depth e.depth) x y (PyData.eqv d e) where
  eq := fun X pins σ s A v u k I hu rv ru => by
    subst k
    obtain ⟨as, r1⟩ := Dp.reads I d x v hd rv
    obtain ⟨bs, r2⟩ := Dp.reads I e y u he ru
    exact SeqAt.rcAt_plain r1 r2 pd pe hu X.prog X.w
  ne := fun X pins σ s A v u k I hu rv ru => by
    subst k
    obtain ⟨as, r1⟩ := Dp.reads I d x v hd rv
    obtain ⟨bs, r2⟩ := Dp.reads I e y u he ru
    exact SeqAt.rcNe_plain r1 r2 pd pe hu X.prog X.w
  at_ := fun X pins σ s A v u k I hu rv ru => by
    subst k
    obtain ⟨as, r1⟩ := Dp.reads I d x v hd rv
    obtain ⟨bs, r2⟩ := Dp.reads I e y u he ru
    exact SeqAt.eqAt_plain _ _ _ _ _ _ _ _ r1 r2 pd pe hu
theorem vals_at {xs : List V} {us : List Value} (r : Vals xs us) {j : Nat} (h : j < us.length) : ∃ x, xs[j]? = some x ∧ RelV x us[j] := by
  have hx : j < xs.length := by rw [r.length]; exact h
  obtain ⟨u, e, q⟩ := r.get (List.getElem?_eq_getElem hx)
  rw [List.getElem?_eq_getElem h] at e
  cases e
  exact ⟨_, List.getElem?_eq_getElem hx, q⟩
/-- pair by pair -/
def pairs (e : Nat → Bool) (xs ys : List V) : Bool := decide (xs.length = ys.length) && (List.range xs.length).all e
theorem eg_list {a c : Addr} {xs ys : List V} {e : Nat → Bool} (ha : SqL K H a xs) (hc : SqL K H c ys) (he : ∀ i p q, xs[i]? = some p → ys[i]? = some q → EqOk K H n p q (e i)) (hab : a = c → pairs e xs ys = true) : EqG K H (n + 1) (.ref a) (.ref c) (pairs e xs ys) := by
  have rc : ∀ (X : Cx) (pins : List (Addr × Obj)) (σ : L2.St) (s : Shared) (A : Around) (v u : Value), X.K = K → Inv X pins σ H s → A.units + (n + 1) < cLine → RelV (.ref a) v → RelV (.ref c) u → SeqAt.RcAt A s v u (pairs e xs ys) := fun X pins σ s A v u k I hu rv ru => by
    subst k
    cases rv
    cases ru
    obtain ⟨its, r, pl, _⟩ := I.list ha
    obtain ⟨its2, r2, pl2, _⟩ := I.list hc
    unfold pairs
    by_cases hl : xs.length = ys.length
    · rw [decide_eq_true hl, Bool.true_and]
      have := SeqAt.RcAt.lists (A := A) (e := e) pl.isList pl2.isList (by simp only [List.size_toArray]; rw [← r.length, ← r2.length, hl]) (by omega) (fun j h1 h2 => by
        obtain ⟨p, hp, rp⟩ := vals_at r (j := j) (by simpa using h1)
        obtain ⟨q, hq, rq⟩ := vals_at r2 (j := j) (by simpa using h2)
        simpa using he j p q hp hq X pins σ s A.in1 _ _ rfl I (by show A.units + 1 + n < cLine; omega) rp rq)
      rw [List.size_toArray, ← r.length] at this
      exact this
    · rw [decide_eq_false hl, Bool.false_and]
      exact SeqAt.RcAt.lists_lengths pl.isList pl2.isList (by simp only [List.size_toArray]; rw [← r.length, ← r2.length]; simpa using hl) (by omega)
  refine ⟨fun X pins σ s A v u k I hu rv ru => rc X pins σ s A v u k I hu rv ru X.prog X.w, fun X pins σ s A v u k I hu rv ru => ?_, fun X pins σ s A v u k I hu rv ru => ?_⟩
  · subst k
    cases rv
    cases ru
    obtain ⟨its, r, pl, _⟩ := I.list ha
    obtain ⟨its2, r2, pl2, _⟩ := I.list hc
    unfold pairs
    by_cases hl : xs.length = ys.length
    · rw [decide_eq_true hl, Bool.true_and]
      have := SeqAt.RcNeAt.lists (A := A) (e := e) pl.isList pl2.isList (by simp only [List.size_toArray]; rw [← r.length, ← r2.length, hl]) (by omega) (fun j h1 h2 => by
        obtain ⟨p, hp, rp⟩ := vals_at r (j := j) (by simpa using h1)
        obtain ⟨q, hq, rq⟩ := vals_at r2 (j := j) (by simpa using h2)
        simpa using he j p q hp hq X pins σ s A.in1 _ _ rfl I (by show A.units + 1 + n < cLine; omega) rp rq)
      rw [List.size_toArray, ← r.length] at this
      exact this X.prog X.w
    · rw [decide_eq_false hl, Bool.false_and]
      exact SeqAt.RcNeAt.lists_lengths pl.isList pl2.isList (by simp only [List.size_toArray]; rw [← r.length, ← r2.length]; simpa using hl) (by omega) X.prog X.w
  · have z := rc X pins σ s A v u k I hu rv ru
    cases rv
    cases ru
    by_cases e0 : a = c
    · subst e0
      rw [hab rfl]
      exact SeqAt.EqAt.same _
    · exact SeqAt.EqAt.of_refs e0 z
theorem eg_tup {a c : Addr} {xs ys : List V} {e : Nat → Bool} (ha : SqT K H a xs) (hc : SqT K H c ys) (he : ∀ i p q, xs[i]? = some p → ys[i]? = some q → EqOk K H n p q (e i)) (hab : a = c → pairs e xs ys = true) : EqG K H (n + 1) (.ref a) (.ref c) (pairs e xs ys) := by
  have flag : ∀ {p q : Nat}, p = xs.length → q = ys.length → ((List.range (min p q)).all e && p == q) = pairs e xs ys := fun {p q} h1 h2 => by
    subst h1 h2
    unfold pairs
    by_cases hl : xs.length = ys.length
    · rw [← hl]; simp
    · simp [hl]
  have rc : ∀ (X : Cx) (pins : List (Addr × Obj)) (σ : L2.St) (s : Shared) (A : Around) (v u : Value), X.K = K → Inv X pins σ H s → A.units + (n + 1) < cLine → RelV (.ref a) v → RelV (.ref c) u → SeqAt.RcAt A s v u (pairs e xs ys) := fun X pins σ s A v u k I hu rv ru => by
    subst k
    cases rv
    cases ru
    obtain ⟨its, r, pl, _⟩ := I.tuple ha
    obtain ⟨its2, r2, pl2, _⟩ := I.tuple hc
    have := SeqAt.RcAt.tuples (A := A) (e := e) pl pl2 (by omega) (fun j h1 h2 => by
      obtain ⟨p, hp, rp⟩ := vals_at r (j := j) (by simpa using h1)
      obtain ⟨q, hq, rq⟩ := vals_at r2 (j := j) (by simpa using h2)
      simpa using he j p q hp hq X pins σ s A.in1 _ _ rfl I (by show A.units + 1 + n < cLine; omega) rp rq)
    rw [flag (by simp [r.length]) (by simp [r2.length])] at this
    exact this
  refine ⟨fun X pins σ s A v u k I hu rv ru => rc X pins σ s A v u k I hu rv ru X.prog X.w, fun X pins σ s A v u k I hu rv ru => ?_, fun X pins σ s A v u k I hu rv ru => ?_⟩
  · subst k
    cases rv
    cases ru
    obtain ⟨its, r, pl, _⟩ := I.tuple ha
    obtain ⟨its2, r2, pl2, _⟩ := I.tuple hc
    have := SeqAt.RcNeAt.tuples (A := A) (e := e) pl pl2 (by omega) (fun j h1 h2 => by
      obtain ⟨p, hp, rp⟩ := vals_at r (j := j) (by simpa using h1)
      obtain ⟨q, hq, rq⟩ := vals_at r2 (j := j) (by simpa using h2)
      simpa using he j p q hp hq X pins σ s A.in1 _ _ rfl I (by show A.units + 1 + n < cLine; omega) rp rq)
    rw [flag (by simp [r.length]) (by simp [r2.length])] at this
    exact this X.prog X.w
  · have z := rc X pins σ s A v u k I hu rv ru
    cases rv
    cases ru
    by_cases e0 : a = c
    · subst e0
      rw [hab rfl]
      exact SeqAt.EqAt.same _
    · exact SeqAt.EqAt.of_refs e0 z
/-- two dicts: as many keys, and each of the first at the second -/
def hitsV (f : V → V → Bool) (ks ls : List (Key × V)) : Bool := ks.all fun p => match valV ls p.1 with | some y => f p.2 y | none => false
theorem hits_G {A : Around} {s : Shared} {f : V → V → Bool} {ls : List (Key × V)} {vb : List (Key × Value)} (rb : KV ls vb) {ks : List (Key × V)} {va : List (Key × Value)} (ra : KV ks va) :
    (∀ p ∈ ks, ∀ z, valV ls p.1 = some z → ∀ v u, RelV p.2 v → RelV z u → SeqAt.EqAt A s v u (f p.2 z)) → PySem.W.KeqHits A s vb va (hitsV f ks ls) := by
  unfold KV at ra
  induction ra with
  | nil => intro _; exact .nil
  | @cons p q ps qs h t ih =>
    intro hp
    obtain ⟨h1, h2⟩ := h
    obtain ⟨k, v⟩ := q
    have h1' : p.1 = k := h1
    have ih := ih fun p' hm => hp p' (List.mem_cons_of_mem _ hm)
    unfold hitsV
    rw [List.all_cons]
    cases e : valV ls p.1 with
    | none =>
      have rr : RelO none (valueAt vb p.1) := by rw [← e]; exact rb.val p.1
      have hn : valueAt vb p.1 = none := by
        cases hv : valueAt vb p.1 with
        | none => rfl
        | some w => rw [hv] at rr; cases rr
      rw [h1'] at hn
      simp only [Bool.false_and]
      exact .miss hn
    | some z =>
      have rr : RelO (some z) (valueAt vb p.1) := by rw [← e]; exact rb.val p.1
      obtain ⟨y, hy, ry⟩ := rr.some_of
      rw [h1'] at hy
      exact .hit hy (hp p List.mem_cons_self z e v y h2 ry) ih
theorem eg_dict {a c : Addr} {ks ls : List (Key × V)} {f : V → V → Bool} (ha : H a = some (.dK ks)) (hc : H c = some (.dK ls)) (he : ∀ p ∈ ks, ∀ z, valV ls p.1 = some z → EqOk K H n p.2 z (f p.2 z)) :
    RcOk K H (n + 1) (.ref a) (.ref c) (decide (ks.length = ls.length) && hitsV f ks ls) ∧ NeOk K H (n + 1) (.ref a) (.ref c) (decide (ks.length = ls.length) && hitsV f ks ls) := by
  refine ⟨fun X pins σ s A v u k I hu rv ru E Q q => ?_, fun X pins σ s A v u k I hu rv ru E Q q => ?_⟩
  · cases rv
    cases ru
    obtain ⟨_, ya, va, ra, da⟩ := (show ObjOk X.prog X.w H s.heap a (.dK ks) from I.hok a _ ha)
    obtain ⟨_, yb, vb, rb, db⟩ := (show ObjOk X.prog X.w H s.heap c (.dK ls) from I.hok c _ hc)
    refine PySem.W.keq_eq (knd := mixKind X.prog X.w) (r := hitsV f ks ls) ya yb da db (by omega) (fun _ => hits_G rb ra fun p hp z hz v u rv ru => he p hp z hz X pins σ s A.in1 v u k I (by show A.units + 1 + n < cLine; omega) rv ru) ?_
    rw [← ra.length, ← rb.length]
    exact q
  · cases rv
    cases ru
    obtain ⟨_, ya, va, ra, da⟩ := (show ObjOk X.prog X.w H s.heap a (.dK ks) from I.hok a _ ha)
    obtain ⟨_, yb, vb, rb, db⟩ := (show ObjOk X.prog X.w H s.heap c (.dK ls) from I.hok c _ hc)
    refine PySem.W.keq_ne (knd := mixKind X.prog X.w) (r := hitsV f ks ls) ya yb da db (by omega) (fun _ => hits_G rb ra fun p hp z hz v u rv ru => he p hp z hz X pins σ s A.in1 v u k I (by show A.units + 1 + n < cLine; omega) rv ru) ?_
    rw [← ra.length, ← rb.length]
    exact q
def toV : Value → V
  | .none => .non
  | .bool b => .bl b
  | .int i _ => .int i
  | .str z _ => .str z
  | .bytes b _ => .byt b
  | .float b _ => .flt b
  | .ref a => .ref a
  | .type n => .ty n
  | _ => .non
theorem toV_of {x : V} {u : Value} (h : L2.RelV x u) : toV u = x := by cases x <;> first | (cases h; rfl) | (obtain ⟨t, rfl⟩ := h; rfl)
theorem relV_one {x y : V} {u : Value} (h : L2.RelV x u) (k : L2.RelV y u) : x = y := (toV_of h).symm.trans (toV_of k)
/-- x == y, x != y, by their parts -/
def rEqG (K : Frag) : R2 := fun x y H Q => ∃ n b, n ≤ 60 ∧ RcOk K H n x y b ∧ Q (.bl b) H
def rNeG (K : Frag) : R2 := fun x y H Q => ∃ n b, n ≤ 60 ∧ NeOk K H n x y b ∧ Q (.bl (!b)) H
theorem eqGK {X : Cx} (hK : X.K = K) (hu : X.A.units + 64 < cLine) : OpR X (compareOp .Eq) (rEqG K) := by
  intro pins s σ H x y v u Q I rx ry h
  obtain ⟨n, b, hn, h, q⟩ := h
  exact h X pins σ s X.A v u hK I (by omega) rx ry _ _ ⟨.bl b, H, I, rfl, q⟩
theorem neGK {X : Cx} (hK : X.K = K) (hu : X.A.units + 64 < cLine) : OpR X (compareOp .NotEq) (rNeG K) := by
  intro pins s σ H x y v u Q I rx ry h
  obtain ⟨n, b, hn, h, q⟩ := h
  exact h X pins σ s X.A v u hK I (by omega) rx ry _ _ ⟨.bl (!b), H, I, rfl, q⟩
/-- x in ys, a list or a tuple: f tells which item equals x -/
def rInG (K : Frag) (neg : Bool) : R2 := fun x y H Q => ∃ p ys n f, y = .ref p ∧ (SqL K H p ys ∨ SqT K H p ys) ∧ n ≤ 60 ∧ (∀ z ∈ ys, EqOk K H n z x (f z)) ∧ Q (.bl (if neg then !ys.any f else ys.any f)) H
def eU (_ : List V) (f : V → Bool) (u : Value) : Bool := f (toV u)
theorem eU_of {ys : List V} {f : V → Bool} {z : V} {u : Value} (hz : z ∈ ys) (r : L2.RelV z u) : eU ys f u = f z := by
  unfold eU
  rw [toV_of r]
theorem any_eU {f : V → Bool} {ys0 : List V} : ∀ {ys : List V} {us : List Value}, Vals ys us → (∀ z ∈ ys, z ∈ ys0) → us.any (eU ys0 f) = ys.any f
  | _, _, .nil, _ => rfl
  | y :: ys, u :: us, .cons r t, h => by
    rw [List.any_cons, List.any_cons, eU_of (h y List.mem_cons_self) r, any_eU t fun z hz => h z (List.mem_cons_of_mem _ hz)]
theorem vals_mem : ∀ {ys : List V} {us : List Value}, Vals ys us → ∀ u ∈ us, ∃ z ∈ ys, RelV z u
  | _, _, .nil, u, h => by cases h
  | y :: ys, u :: us, .cons r t, u', h => by
    rcases List.mem_cons.mp h with rfl | h
    · exact ⟨y, List.mem_cons_self, r⟩
    · obtain ⟨z, hz, q⟩ := vals_mem t u' h
      exact ⟨z, List.mem_cons_of_mem _ hz, q⟩
theorem inGK {X : Cx} (hK : X.K = K) (hu : X.A.units + 64 < cLine) : OpR X (compareOp .In) (rInG K false) := by
  intro pins s σ H x y v u Q I rx ry h
  subst hK
  obtain ⟨p, ys, n, f, rfl, hq, hn, he, q⟩ := h
  cases ry
  rcases hq with hq | hq
  · obtain ⟨its, r, pl, hz⟩ := I.list hq
    refine SeqAt.in_listAt (eU ys f) pl.isList (fun w hw => ?_) ⟨.bl _, H, I, rfl, ?_⟩
    · obtain ⟨z, hz, rz⟩ := vals_mem r w (by simpa using hw)
      rw [eU_of hz rz]
      exact he z hz X pins σ s X.A.in1 _ _ rfl I (by show X.A.units + 1 + n < cLine; omega) rz rx
    · rw [show its.toArray.any (eU ys f) = its.any (eU ys f) by simp, any_eU r fun _ h => h]
      exact q
  · obtain ⟨its, r, pl, hz⟩ := I.tuple hq
    refine SeqAt.in_tupleAt (eU ys f) pl (fun w hw => ?_) ⟨.bl _, H, I, rfl, ?_⟩
    · obtain ⟨z, hz, rz⟩ := vals_mem r w (by simpa using hw)
      rw [eU_of hz rz]
      exact he z hz X pins σ s X.A.in1 _ _ rfl I (by show X.A.units + 1 + n < cLine; omega) rz rx
    · rw [show its.toArray.any (eU ys f) = its.any (eU ys f) by simp, any_eU r fun _ h => h]
      exact q
theorem notInGK {X : Cx} (hK : X.K = K) (hu : X.A.units + 64 < cLine) : OpR X (compareOp .NotIn) (rInG K true) := by
  intro pins s σ H x y v u Q I rx ry h
  subst hK
  obtain ⟨p, ys, n, f, rfl, hq, hn, he, q⟩ := h
  cases ry
  rcases hq with hq | hq
  · obtain ⟨its, r, pl, hz⟩ := I.list hq
    refine SeqAt.notIn_listAt (eU ys f) pl.isList (fun w hw => ?_) ⟨.bl _, H, I, rfl, ?_⟩
    · obtain ⟨z, hz, rz⟩ := vals_mem r w (by simpa using hw)
      rw [eU_of hz rz]
      exact he z hz X pins σ s X.A.in1 _ _ rfl I (by show X.A.units + 1 + n < cLine; omega) rz rx
    · rw [show its.toArray.any (eU ys f) = its.any (eU ys f) by simp, any_eU r fun _ h => h]
      exact q
  · obtain ⟨its, r, pl, hz⟩ := I.tuple hq
    refine SeqAt.notIn_tupleAt (eU ys f) pl (fun w hw => ?_) ⟨.bl _, H, I, rfl, ?_⟩
    · obtain ⟨z, hz, rz⟩ := vals_mem r w (by simpa using hw)
      rw [eU_of hz rz]
      exact he z hz X pins σ s X.A.in1 _ _ rfl I (by show X.A.units + 1 + n < cLine; omega) rz rx
    · rw [show its.toArray.any (eU ys f) = its.any (eU ys f) by simp, any_eU r fun _ h => h]
      exact q
end
end S
namespace S
open PySem PySem.Spec PyProof.Rows L2
/-! ### a list or a tuple that stands still, walked -/
section
variable {X : Cx} {K : Frag}
abbrev SqX (K : Frag) (H : Hp) (a : Addr) (xs : List V) : Prop := SqL K H a xs ∨ SqT K H a xs
theorem SqX.same {H H' : Hp} {a : Addr} {xs : List V} (h : SqX K H a xs) (s : Same H H') : SqX K H' a xs := by
  rcases h with (h | h) | (h | h)
  · rcases h with h | ⟨o, h⟩
    · exact .inl (.inl (.inl (s _ _ h)))
    · exact .inl (.inl (.inr ⟨o, s _ _ h⟩))
  · exact .inl (.inr h)
  · rcases h with h | ⟨o, h⟩
    · exact .inr (.inl (.inl (s _ _ h)))
    · exact .inr (.inl (.inr ⟨o, s _ _ h⟩))
  · exact .inr (.inr h)
theorem sqL_same {H H' : Hp} {a : Addr} {xs : List V} (h : SqL K H a xs) (s : Same H H') : SqL K H' a xs := by
  rcases h with (h | ⟨o, h⟩) | h
  · exact .inl (.inl (s _ _ h))
  · exact .inl (.inr ⟨o, s _ _ h⟩)
  · exact .inr h
theorem sqT_same {H H' : Hp} {a : Addr} {xs : List V} (h : SqT K H a xs) (s : Same H H') : SqT K H' a xs := by
  rcases h with (h | ⟨o, h⟩) | h
  · exact .inl (.inl (s _ _ h))
  · exact .inl (.inr ⟨o, s _ _ h⟩)
  · exact .inr h
def iSeq (K : Frag) (tl : TE) : TI := fun σ H R => tl σ H fun x H1 => ∃ a xs, x = .ref a ∧ SqX K H1 a xs ∧ ∀ J, Walk J xs.length (fun H => Same H1 H) (YAt xs) → R J H1
theorem pi_seqK {tg l : Expr} {tl : TE} (hK : X.K = K) (hl : PE X l tl) : PI X tg l (iSeq K tl) := by
  subst hK
  refine ⟨fun pins s σ H R I h => ?_⟩
  refine thn (hl.run pins s σ H _ I h) fun v s1 ⟨x, H1, I1, r1, q1⟩ => ?_
  obtain ⟨a, xs, e, hq, q⟩ := q1
  subst e
  cases r1
  have fp : ∀ b ∈ [s1.heap.objs.size], FpOk X pins H1 b := fun b hb => by
    have e : b = s1.heap.objs.size := by simpa using hb
    subst e
    exact I1.fpOk (Nat.le_refl _) (I1.hok.fresh (Nat.le_refl _))
  rcases hq with hq | hq
  · obtain ⟨its, rv, p, hz⟩ := I1.list hq
    refine wpAny_pyIter_list p.isList ?_
    exact ⟨s1.heap.objs.size, [s1.heap.objs.size], _, Itl X.K a, H1, rfl, I1.kept (t' := s1.toks) fun b o e => Heap.get?_push_of_some _ e, turn_list a _, ⟨_, Heap.get?_push_size _ rfl, rfl, rfl⟩, fp, q _ (walk_list.mono (fun H s => sqL_same hq s) fun _ _ _ _ _ _ y => y)⟩
  · obtain ⟨its, rv, p, hz⟩ := I1.tuple hq
    refine wpAny_pyIter_tuple (show s1.heap.IsTuple a its.toArray from p) ?_
    exact ⟨s1.heap.objs.size, [s1.heap.objs.size], _, Itt X.K a, H1, rfl, I1.kept (t' := s1.toks) fun b o e => Heap.get?_push_of_some _ e, turn_tuple a _, ⟨_, Heap.get?_push_size _ rfl, rfl, rfl⟩, fp, q _ (walk_tup.mono (fun H s => sqT_same hq s) fun _ _ _ _ _ _ y => y)⟩
theorem slSeqK (hK : X.K = K) : SlR X (fun x lo hi H Q => rSlL K x lo hi H Q ∨ rSlT K x lo hi H Q) := hK ▸ sl_list.or sl_tup
/-- a for over what stands still: one turn reads the item at its place -/
theorem for_seq {J : It} {xs : List V} {H0 : Hp} (w : Walk J xs.length (fun H => Same H0 H) (YAt xs)) {g : TG} {tb : TS} {D : Ends} {σ : L2.St} {H : Hp} (Pv : Nat → L2.St → Hp → Prop) (h0 : Pv 0 σ H) (hG : ∀ i σ H, i ≤ xs.length → Pv i σ H → Same H0 H)
    (hs : ∀ i x σ H, xs[i]? = some x → Pv i σ H → g x σ H fun σ2 H2 => tb { D with nx := Pv (i + 1), ct := Pv (i + 1), bk := D.nx } σ2 H2) (hd : ∀ σ H, Pv xs.length σ H → D.nx σ H) :
    ∃ W : Nat → Nat → L2.St → Hp → Prop, (∃ m, W 0 m σ H) ∧ ∀ i m σ H, W i m σ H →
      (J.stop i H ∧ D.nx σ H) ∨ (J.go i H ∧ ∃ N : L2.St → Hp → Prop, (∀ σ' H', N σ' H' → ∃ m', m' < m ∧ W (i + 1) m' σ' H') ∧ ∀ x H', J.yld i H x H' → g x σ H' fun σ2 H2 => tb { D with nx := N, ct := N, bk := D.nx } σ2 H2) :=
  for_it w Pv h0 hG (fun i x σ H H' _ p y => by obtain ⟨rfl, e⟩ := y; exact hs i x σ _ e p) hd
theorem lc_seq {J : It} {xs : List V} {H0 : Hp} (w : Walk J xs.length (fun H => Same H0 H) (YAt xs)) {g : TG} {tt : TT} {te : TE} {vs : List Nat} {σ : L2.St} {H1 : Hp} {D : Addr} {Qd : Hp → Prop} (Pv : Nat → Hp → Prop) (h0 : Pv 0 (upd H1 D (.lst []))) (hG : ∀ i H, i ≤ xs.length → Pv i H → Same H0 H)
    (hs : ∀ i x H, xs[i]? = some x → Pv i H → g x (wipe σ vs) H fun σ2 H2 => wipe σ2 vs = wipe σ vs ∧ tt σ2 H2 fun b H3 =>
      if b = true then te σ2 H3 fun y H4 => ∃ acc, H4 D = some (.lst acc) ∧ acc.length < sizeLine ∧ Pv (i + 1) (upd H4 D (.lst (acc ++ [y]))) else Pv (i + 1) H3) (hd : ∀ H, Pv xs.length H → Qd H) :
    ∃ W : Nat → Nat → Hp → Prop, (∃ m, W 0 m (upd H1 D (.lst []))) ∧ ∀ i m H, W i m H →
      (J.stop i H ∧ Qd H) ∨ (J.go i H ∧ ∃ Nx : Hp → Prop, (∀ H', Nx H' → ∃ m', m' < m ∧ W (i + 1) m' H') ∧ ∀ x H', J.yld i H x H' → g x (wipe σ vs) H' fun σ2 H2 => wipe σ2 vs = wipe σ vs ∧ tt σ2 H2 fun b H3 =>
        if b = true then te σ2 H3 fun y H4 => ∃ acc, H4 D = some (.lst acc) ∧ acc.length < sizeLine ∧ Nx (upd H4 D (.lst (acc ++ [y]))) else Nx H3) :=
  lc_it w Pv h0 hG (fun i x H H' _ p y => by obtain ⟨rfl, e⟩ := y; exact hs i x _ e p) hd
theorem dc_it {J : It} {n : Nat} {G : Hp → Prop} {Y : Nat → Hp → V → Hp → Prop} (w : Walk J n G Y) {g : TG} {tt : TT} {tk tv : TE} {vs : List Nat} {σ : L2.St} {H1 : Hp} {D : Addr} {Qd : Hp → Prop} (Pv : Nat → Hp → Prop) (h0 : Pv 0 (upd H1 D (.dK []))) (hG : ∀ i H, i ≤ n → Pv i H → G H)
    (hs : ∀ i x H H', i < n → Pv i H → Y i H x H' → g x (wipe σ vs) H' fun σ2 H2 => wipe σ2 vs = wipe σ vs ∧ tt σ2 H2 fun b H3 =>
      if b = true then tk σ2 H3 fun y H4 => tv σ2 H4 fun z H5 => ∃ kvs k, y = kV k ∧ H5 D = some (.dK kvs) ∧ kvs.length < sizeLine ∧ Pv (i + 1) (upd H5 D (.dK (putK kvs k z))) else Pv (i + 1) H3) (hd : ∀ H, Pv n H → Qd H) :
    ∃ W : Nat → Nat → Hp → Prop, (∃ m, W 0 m (upd H1 D (.dK []))) ∧ ∀ i m H, W i m H →
      (J.stop i H ∧ Qd H) ∨ (J.go i H ∧ ∃ Nx : Hp → Prop, (∀ H', Nx H' → ∃ m', m' < m ∧ W (i + 1) m' H') ∧ ∀ x H', J.yld i H x H' → g x (wipe σ vs) H' fun σ2 H2 => wipe σ2 vs = wipe σ vs ∧ tt σ2 H2 fun b H3 =>
        if b = true then tk σ2 H3 fun y H4 => tv σ2 H4 fun z H5 => ∃ kvs k, y = kV k ∧ H5 D = some (.dK kvs) ∧ kvs.length < sizeLine ∧ Nx (upd H5 D (.dK (putK kvs k z))) else Nx H3) := by
  refine ⟨fun i m H => m = n - i ∧ i ≤ n ∧ Pv i H, ⟨n, by simp, Nat.zero_le _, h0⟩, ?_⟩
  rintro i m H ⟨rfl, hi, p⟩
  have q := hG i H hi p
  by_cases hlt : i < n
  · exact .inr ⟨w.goes i H hlt q, Pv (i + 1), fun H' p' => ⟨n - (i + 1), by omega, rfl, hlt, p'⟩, fun x H' y => hs i x H H' hlt p (w.yields i H x H' hlt q y)⟩
  · have e : i = n := by omega
    subst e
    exact .inl ⟨w.stops H q, hd H p⟩
end
/-! ### o[i], x in o, len(o), by own defs of a plain class -/
section
variable {X : Cx} {n : Nat} {C g : Addr} {sp : Sp} {E : L2.St → XK}
theorem run_in1 {pins : List (Addr × Obj)} {σ : L2.St} {H : Hp} {s : Shared} {Q : VK} {us : List Value} {vs : List V} (F : FnR X.prog X.w X.K X.mg X.base (L2.CX X.prog X.w) n g sp) (hr : Room n X.A.in1) (I : Inv X pins σ H s) (hx : PassesAt (L2.CX X.prog X.w) X σ (E σ)) (r : Vals vs us) (h : sp vs H Q (E σ)) :
    codeAny (model X.prog X.w) X.A.in1 (.call (.ref g) ⟨us, []⟩) (fun r s' => match r with | .ok (.ret v) => EP X pins σ Q v s' | .ok _ => False | .error e => X.xe e s') s := by
  refine codeAny_mono (F X.A.in1 X.stack s H us vs Q (E σ) hr I.env0.in1 r h) fun r s' hq => ?_
  cases r with
  | error e => exact hx pins H s e s' I hq
  | ok fl =>
    cases fl with
    | ret u => exact I.after hq
    | next => exact False.elim hq
    | brk => exact False.elim hq
    | cont => exact False.elim hq
theorem run_at0 {pins : List (Addr × Obj)} {σ : L2.St} {H : Hp} {s : Shared} {Q : VK} {us : List Value} {vs : List V} (F : FnR X.prog X.w X.K X.mg X.base (L2.CX X.prog X.w) n g sp) (hr : Room n X.A) (I : Inv X pins σ H s) (hx : PassesAt (L2.CX X.prog X.w) X σ (E σ)) (r : Vals vs us) (h : sp vs H Q (E σ)) :
    codeAny (model X.prog X.w) X.A (.call (.ref g) ⟨us, []⟩) (fun r s' => match r with | .ok (.ret v) => EP X pins σ Q v s' | .ok _ => False | .error e => X.xe e s') s := by
  refine codeAny_mono (F X.A X.stack s H us vs Q (E σ) hr I.env0 r h) fun r s' hq => ?_
  cases r with
  | error e => exact hx pins H s e s' I hq
  | ok fl =>
    cases fl with
    | ret u => exact I.after hq
    | next => exact False.elim hq
    | brk => exact False.elim hq
    | cont => exact False.elim hq
def tIxO (C : Addr) (sp : Sp) (E : L2.St → XK) (ta tb : TE) : TE := fun σ H Q => ta σ H fun x H1 => tb σ H1 fun y H2 => ∃ a dx fs, x = .ref a ∧ H2 a = some (.ins C dx fs) ∧ sp [.ref a, y] H2 Q (E σ)
theorem pe_ixO {a b : Expr} {ta tb : TE} {pos : Pos} (hs : PySem.W.findIn X.K (.ref C) "__getitem__" = some (some (.ref g))) (hf : PySem.W.fnIn X.K g = true) (hfn : PySem.W.isFn X.K (.ref g) = true)
    (F : FnR X.prog X.w X.K X.mg X.base (L2.CX X.prog X.w) n g sp) (hr : Room (n + 1) X.A) (hx : ∀ σ, PassesAt (L2.CX X.prog X.w) X σ (E σ)) (ha : PE X a ta) (hb : PE X b tb)
    (hsl : ∀ v i, subscripted b true v i = runValue (.builtin "lifetime.subscript" ⟨[v, i], []⟩) := by intro _ _; with_unfolding_all rfl) : PE X (.Subscript a b pos) (tIxO C sp E ta tb) := by
  refine ⟨fun pins s σ H Q I h => ?_⟩
  refine Subscript_ (binT ha hb I h fun v u s2 x y H2 I2 rx ry q => ?_)
  obtain ⟨p, dx, fs, rfl, ep, q⟩ := q
  cases (show v = Value.ref p from rx)
  obtain ⟨mA, O, _⟩ := ins_get I2.hok ep
  obtain ⟨od, J, _⟩ := O.look
  obtain ⟨m, hF⟩ := I2.fr
  refine PySem.W.sub_K hF I2.ok.mod.kin J hs hf hfn ?_ (hsl _ _)
  exact wpAny_call (run_in1 (us := [.ref p, u]) (vs := [.ref p, y]) F hr.in1 I2 (hx σ) (.cons rfl (.cons ry .nil)) q)
/-- x in o: the own def answers with a bool -/
def rInC (C : Addr) (sp : Sp) (neg : Bool) : R2 := fun x y H Q => ∃ a dx fs, y = .ref a ∧ H a = some (.ins C dx fs) ∧ sp [.ref a, x] H (fun z H2 => ∃ r, z = .bl r ∧ Q (.bl (if neg then !r else r)) H2) E0
theorem op_inC (hs : PySem.W.findIn X.K (.ref C) "__contains__" = some (some (.ref g))) (hfn : PySem.W.isFn X.K (.ref g) = true) (F : FnR X.prog X.w X.K X.mg X.base (L2.CX X.prog X.w) n g sp) (hr : Room n X.A) : OpR X (compareOp .In) (rInC C sp false) := by
  intro pins s σ H x y v u Q I rx ry h
  obtain ⟨a, dx, fs, rfl, ea, q⟩ := h
  cases (show u = Value.ref a from ry)
  obtain ⟨mA, O, _⟩ := ins_get I.hok ea
  obtain ⟨od, J, _⟩ := O.look
  obtain ⟨m, hF⟩ := I.fr
  refine PySem.W.in_K hF I.ok.mod.kin J hs hfn ?_
  refine wpAny_mono (wpAny_call (run_at0 (E := fun _ => E0) (us := [.ref a, v]) (vs := [.ref a, x]) F hr I (pas0 σ) (.cons rfl (.cons rx .nil)) q)) (fun w s' z => ?_) fun _ _ x => x
  obtain ⟨z2, H2, I2, rz, r, rfl, qz⟩ := z
  cases (show w = Value.bool r from rz)
  exact wpAny_truthy_bool ⟨.bl r, H2, I2, rfl, qz⟩
theorem op_notInC (hs : PySem.W.findIn X.K (.ref C) "__contains__" = some (some (.ref g))) (hfn : PySem.W.isFn X.K (.ref g) = true) (F : FnR X.prog X.w X.K X.mg X.base (L2.CX X.prog X.w) n g sp) (hr : Room n X.A) : OpR X (compareOp .NotIn) (rInC C sp true) := by
  intro pins s σ H x y v u Q I rx ry h
  obtain ⟨a, dx, fs, rfl, ea, q⟩ := h
  cases (show u = Value.ref a from ry)
  obtain ⟨mA, O, _⟩ := ins_get I.hok ea
  obtain ⟨od, J, _⟩ := O.look
  obtain ⟨m, hF⟩ := I.fr
  refine PySem.W.notIn_K hF I.ok.mod.kin J hs hfn ?_
  refine wpAny_mono (wpAny_call (run_at0 (E := fun _ => E0) (us := [.ref a, v]) (vs := [.ref a, x]) F hr I (pas0 σ) (.cons rfl (.cons rx .nil)) q)) (fun w s' z => ?_) fun _ _ x => x
  obtain ⟨z2, H2, I2, rz, r, rfl, qz⟩ := z
  cases (show w = Value.bool r from rz)
  exact wpAny_truthy_bool ⟨.bl (!r), H2, I2, rfl, qz⟩
def rLenO (C : Addr) (sp : Sp) : List V → Hp → VK → Prop := fun xs H Q => ∃ a dx fs, xs = [.ref a] ∧ H a = some (.ins C dx fs) ∧ sp [.ref a] H (fun z H2 => ∃ i : Int, z = .int i ∧ 0 ≤ i ∧ i < 2 ^ 63 ∧ Q (.int i) H2) E0
theorem call_lenO (hs : PySem.W.findIn X.K (.ref C) "__len__" = some (some (.ref g))) (hfn : PySem.W.isFn X.K (.ref g) = true) (F : FnR X.prog X.w X.K X.mg X.base (L2.CX X.prog X.w) n g sp) (hr : Room (n + 1) X.A) : CallR X (.builtin "len") (rLenO C sp) := by
  intro pins s σ H xs us Q I r h
  obtain ⟨a, dx, fs, rfl, ea, q⟩ := h
  cases r with
  | cons r1 r2 =>
    cases r2
    cases r1
    obtain ⟨mA, O, _⟩ := ins_get I.hok ea
    obtain ⟨od, J, _⟩ := O.look
    obtain ⟨m, hF⟩ := I.fr
    refine PySem.W.len_K hF I.ok.mod.kin J hs hfn ?_
    refine wpAny_mono (wpAny_call (run_in1 (E := fun _ => E0) (us := [.ref a]) (vs := [.ref a]) F hr.in1 I (pas0 σ) (.cons rfl .nil) q)) (fun w s' z => ?_) fun _ _ x => x
    obtain ⟨z2, H2, I2, rz, i, rfl, l0, l1, qz⟩ := z
    obtain ⟨t, rfl⟩ := (show ∃ t, w = Value.int i t from rz)
    exact ⟨⟨l0, l1⟩, .int i, H2, I2.tok _, ⟨_, rfl⟩, qz⟩
end
end S
namespace S
open PySem PySem.Spec PyProof.Rows L2
section
variable {X : Cx} {K : Frag}
theorem yesT {σ : L2.St} {H : Hp} {R : Bool → Hp → Prop} (h : R true H) : tYes σ H R := h
theorem listOfK (hK : X.K = K) : CallR X (.type "list") (fun xs H Q => ∃ p ys, xs = [.ref p] ∧ (SqL K H p ys ∨ SqT K H p ys) ∧ ∀ l, H l = none → Q (.ref l) (upd H l (.lst ys))) := hK ▸ call_list_of
theorem tupOfK (hK : X.K = K) : CallR X (.type "tuple") (fun xs H Q => ∃ p ys, xs = [.ref p] ∧ ((SqL K H p ys ∧ ∀ l, H l = none → Q (.ref l) (upd H l (.tup ys))) ∨ (SqT K H p ys ∧ Q (.ref p) H))) := hK ▸ call_tuple_of
/-! readings of a list or tuple that stands -/
theorem ixX {H : Hp} {a : Addr} {xs : List V} {v : V} {i : Int} {Q : VK} (h : SqX K H a xs) (e : atI xs i = some v) (q : Q v H) : rIx K (.ref a) (.int i) H Q := by
  rcases h with h | h
  · exact .inl ⟨a, _, _, _, rfl, rfl, h, e, q⟩
  · exact .inr (.inl ⟨a, _, _, _, rfl, rfl, h, e, q⟩)
theorem lenVX {H : Hp} {a : Addr} {xs : List V} (h : SqX K H a xs) : LenV K (.ref a) H xs.length := by
  rcases h with h | h
  · exact .inl ⟨_, h, rfl⟩
  · exact .inr ⟨_, h, rfl⟩
theorem sIx_nat {n d i : Nat} (h : i ≤ n) : HT.sIx n d (some (i : Int)) = i := by
  simp only [HT.sIx]
  split <;> omega
theorem cut_take (xs : List V) {i : Nat} (h : i ≤ xs.length) : cutV xs none (some (i : Int)) = xs.take i := by
  unfold cutV
  have e1 : HT.sIx xs.length 0 none = 0 := rfl
  have e2 : HT.sIx xs.length xs.length (some (i : Int)) = i := sIx_nat h
  rw [e1, e2]
  simp
theorem cut_drop (xs : List V) {i : Nat} (h : i ≤ xs.length) : cutV xs (some (i : Int)) none = xs.drop i := by
  unfold cutV
  have e1 : HT.sIx xs.length xs.length none = xs.length := rfl
  have e2 : HT.sIx xs.length 0 (some (i : Int)) = i := sIx_nat h
  rw [e1, e2]
  rw [List.take_of_length_le (by rw [List.length_drop]; exact Nat.le_refl _)]
theorem sl_takeX {H : Hp} {a : Addr} {xs : List V} {i : Nat} {Q : VK} (h : SqX K H a xs) (hi : i < xs.length) (q : ∀ p H', H p = none → Same H H' → SqX K H' p (xs.take i) → Q (.ref p) H') : rSlL K (.ref a) none (some (i : Int)) H Q ∨ rSlT K (.ref a) none (some (i : Int)) H Q := by
  rcases h with h | h
  · refine .inl ⟨a, xs, rfl, h, fun p hp => q p _ hp (Same.new hp) (.inl (.inl (.inl ?_)))⟩
    rw [cut_take xs (Nat.le_of_lt hi), upd_same]
  · refine .inr ⟨a, xs, rfl, h, ?_, fun p hp => q p _ hp (Same.new hp) (.inr (.inl (.inl ?_)))⟩
    · rintro ⟨_, e⟩
      have e2 : HT.sIx xs.length xs.length (some (i : Int)) = i := sIx_nat (Nat.le_of_lt hi)
      omega
    · rw [cut_take xs (Nat.le_of_lt hi), upd_same]
/-! flat things -/
theorem eg_str {H : Hp} {n : Nat} {a b : Str} : EqG K H n (.str a) (.str b) (decide (a = b)) := by
  have h := eg_dat (K := K) (H := H) (.str a) (.str b) rfl rfl
  refine (h.to ?_).up (by simp [PyData.depth])
  simp only [PyData.eqv]
  rw [Bool.eq_iff_iff]
  simp
theorem eg_int {H : Hp} {n : Nat} {a b : Int} : EqG K H n (.int a) (.int b) (decide (a = b)) := by
  have h := eg_dat (K := K) (H := H) (.int a) (.int b) rfl rfl
  refine (h.to ?_).up (by simp [PyData.depth])
  simp only [PyData.eqv]
  rw [Bool.eq_iff_iff]
  simp
theorem eg_bl {H : Hp} {n : Nat} {a b : Bool} : EqG K H n (.bl a) (.bl b) (decide (a = b)) := by
  have h := eg_dat (K := K) (H := H) (.bl a) (.bl b) rfl rfl
  refine (h.to ?_).up (by simp [PyData.depth])
  simp only [PyData.eqv]
  rw [Bool.eq_iff_iff]
  simp
/-- texts, pair by pair -/
theorem pairs_str {ws zs : List Str} : pairs (fun i => decide (ws[i]? = zs[i]?)) (ws.map V.str) (zs.map V.str) = decide (ws = zs) := by
  unfold pairs
  rw [List.length_map, List.length_map, Bool.eq_iff_iff]
  simp only [Bool.and_eq_true, decide_eq_true_eq, List.all_eq_true, List.mem_range]
  constructor
  · rintro ⟨hl, h⟩
    refine List.ext_getElem? fun i => ?_
    by_cases c : i < ws.length
    · exact h i c
    · rw [List.getElem?_eq_none (by omega), List.getElem?_eq_none (by omega)]
  · rintro rfl
    exact ⟨rfl, fun _ _ => rfl⟩
theorem str_pair {H : Hp} {n : Nat} {ws zs : List Str} (i : Nat) (p q : V) (hp : (ws.map V.str)[i]? = some p) (hq : (zs.map V.str)[i]? = some q) : EqOk K H n p q (decide (ws[i]? = zs[i]?)) := by
  rw [List.getElem?_map] at hp hq
  obtain ⟨a, ha, rfl⟩ := Option.map_eq_some_iff.mp hp
  obtain ⟨b, hb, rfl⟩ := Option.map_eq_some_iff.mp hq
  rw [ha, hb]
  refine eg_str.at_.to ?_
  simp
/-- two tuples of texts, two lists of texts -/
theorem eg_tups {H : Hp} {n : Nat} {a c : Addr} {ws zs : List Str} (ha : SqT K H a (ws.map V.str)) (hc : SqT K H c (zs.map V.str)) (hab : a = c → ws = zs) : EqG K H (n + 1) (.ref a) (.ref c) (decide (ws = zs)) :=
  (eg_tup ha hc str_pair fun e => by rw [pairs_str]; exact decide_eq_true (hab e)).to pairs_str
theorem eg_lsts {H : Hp} {n : Nat} {a c : Addr} {ws zs : List Str} (ha : SqL K H a (ws.map V.str)) (hc : SqL K H c (zs.map V.str)) (hab : a = c → ws = zs) : EqG K H (n + 1) (.ref a) (.ref c) (decide (ws = zs)) :=
  (eg_list ha hc str_pair fun e => by rw [pairs_str]; exact decide_eq_true (hab e)).to pairs_str
theorem mapS_inj {ws zs : List Str} (h : ws.map V.str = zs.map V.str) : ws = zs := (List.map_inj_right (fun _ _ e => by injection e)).mp h
theorem eg_flat {H : Hp} {n : Nat} {x y : V} (hx : flatV x = true) (hy : flatV y = true) : EqOk K H n x y (eqV x y) := fun X pins σ s A v u _ I hu rv ru => eqAt_V rv ru hx hy
end
end S
namespace S
open PySem PySem.Spec PyProof.Rows L2
section
variable {X : Cx} {K : Frag}
theorem slTwK (hK : X.K = K) : SlR X (rSlA K) := hK ▸ sl_tupA
theorem catTK (hK : X.K = K) : OpR X (binaryOp .Add) (rCatA K) := hK ▸ op_catA
theorem sl_Tt {H : Hp} {a : Addr} {xs : List V} {lo hi : Option Int} {Q : VK} (h : H a = some (.tup xs)) (q : ∀ p H', Same H H' → H' p = some (.tup (cutV xs lo hi)) → Q (.ref p) H') : rSlA K (.ref a) lo hi H Q := by
  refine ⟨a, xs, rfl, .inl (.inl h), fun e => q a H (fun _ _ z => z) ?_, fun _ p hp => q p _ (Same.new hp) upd_same⟩
  rw [h]
  unfold cutV
  rw [e.1, e.2]
  simp
theorem cat_Tt {H : Hp} {a b : Addr} {xs ys : List V} {Q : VK} (h : H a = some (.tup xs)) (h' : H b = some (.tup ys)) (hl : xs.length + ys.length ≤ 1000) (q : ∀ p H', Same H H' → H' p = some (.tup (xs ++ ys)) → Q (.ref p) H') : rCatA K (.ref a) (.ref b) H Q := by
  refine ⟨a, b, xs, ys, rfl, rfl, .inl (.inl h), .inl (.inl h'), Nat.le_trans hl (by decide), fun e => q b H (fun _ _ z => z) ?_, fun _ e => q a H (fun _ _ z => z) ?_, fun _ _ p hp => q p _ (Same.new hp) upd_same⟩
  · rw [h', e]; rfl
  · rw [h, e, List.append_nil]
end
end S
namespace W
open PySem PySem.Spec PyProof.Rows L2
def top (i : Nat) : Stmt := PySem.Challenge.pw_seenshares_k09_program_equality.main.body.getD i (.Pass ⟨0, 0, 0, 0⟩)
abbrev s_is_integer : Stmt := top 4
theorem sc_is_integer : FnScope ["value"] ["value"] (defScope s_is_integer) := by
  refine ⟨rfl, rfl, rfl, ?_, rfl, ?_, ?_⟩ <;> decide +kernel
abbrev d_is_integer : He.DefD := ⟨("is_integer", none), "is_integer", "is_integer", defArgs s_is_integer, defBody s_is_integer, defScope s_is_integer, [], []⟩
abbrev s_is_within : Stmt := top 5
theorem sc_is_within : FnScope ["value", "low", "high"] ["value", "low", "high"] (defScope s_is_within) := by
  refine ⟨rfl, rfl, rfl, ?_, rfl, ?_, ?_⟩ <;> decide +kernel
abbrev d_is_within : He.DefD := ⟨("is_within", none), "is_within", "is_within", defArgs s_is_within, defBody s_is_within, defScope s_is_within, [], []⟩
abbrev s_is_name : Stmt := top 6
theorem sc_is_name : FnScope ["value", "char"] ["value"] (defScope s_is_name) := by
  refine ⟨rfl, rfl, rfl, ?_, rfl, ?_, ?_⟩ <;> decide +kernel
abbrev d_is_name : He.DefD := ⟨("is_name", none), "is_name", "is_name", defArgs s_is_name, defBody s_is_name, defScope s_is_name, [], []⟩
abbrev s_has_equal_items : Stmt := top 7
theorem sc_has_equal_items : FnScope ["items", "at"] ["items"] (defScope s_has_equal_items) := by
  refine ⟨rfl, rfl, rfl, ?_, rfl, ?_, ?_⟩ <;> decide +kernel
abbrev d_has_equal_items : He.DefD := ⟨("has_equal_items", none), "has_equal_items", "has_equal_items", defArgs s_has_equal_items, defBody s_has_equal_items, defScope s_has_equal_items, [], []⟩
abbrev s_BadPlace___init__ : Stmt := inClass (top 10) 0
theorem sc_BadPlace___init__ : FnScope ["self", "why"] ["self", "why"] (defScope s_BadPlace___init__) := by
  refine ⟨rfl, rfl, rfl, ?_, rfl, ?_, ?_⟩ <;> decide +kernel
abbrev d_BadPlace___init__ : He.DefD := ⟨("BadPlace", some "__init__"), "__init__", "BadPlace.__init__", defArgs s_BadPlace___init__, defBody s_BadPlace___init__, defScope s_BadPlace___init__, [], []⟩
abbrev s_BadProgram___init__ : Stmt := inClass (top 11) 0
theorem sc_BadProgram___init__ : FnScope ["self", "why"] ["self", "why"] (defScope s_BadProgram___init__) := by
  refine ⟨rfl, rfl, rfl, ?_, rfl, ?_, ?_⟩ <;> decide +kernel
abbrev d_BadProgram___init__ : He.DefD := ⟨("BadProgram", some "__init__"), "__init__", "BadProgram.__init__", defArgs s_BadProgram___init__, defBody s_BadProgram___init__, defScope s_BadProgram___init__, [], []⟩
abbrev s_NoPlace___init__ : Stmt := inClass (top 12) 0
theorem sc_NoPlace___init__ : FnScope ["self", "name"] ["self", "name"] (defScope s_NoPlace___init__) := by
  refine ⟨rfl, rfl, rfl, ?_, rfl, ?_, ?_⟩ <;> decide +kernel
abbrev d_NoPlace___init__ : He.DefD := ⟨("NoPlace", some "__init__"), "__init__", "NoPlace.__init__", defArgs s_NoPlace___init__, defBody s_NoPlace___init__, defScope s_NoPlace___init__, [], []⟩
abbrev s_Place___init__ : Stmt := inClass (top 16) 0
theorem sc_Place___init__ : FnScope ["self", "name", "least", "most", "let"] ["self", "name", "least", "most", "let"] (defScope s_Place___init__) := by
  refine ⟨rfl, rfl, rfl, ?_, rfl, ?_, ?_⟩ <;> decide +kernel
abbrev d_Place___init__ : He.DefD := ⟨("Place", some "__init__"), "__init__", "Place.__init__", defArgs s_Place___init__, defBody s_Place___init__, defScope s_Place___init__, [.int 1, .non], [("let", .bl true)]⟩
abbrev s_Place_place_key : Stmt := inClass (top 16) 1
theorem sc_Place_place_key : FnScope ["self"] ["self"] (defScope s_Place_place_key) := by
  refine ⟨rfl, rfl, rfl, ?_, rfl, ?_, ?_⟩ <;> decide +kernel
abbrev d_Place_place_key : He.DefD := ⟨("Place", some "place_key"), "place_key", "Place.place_key", defArgs s_Place_place_key, defBody s_Place_place_key, defScope s_Place_place_key, [], []⟩
abbrev s_Place___eq__ : Stmt := inClass (top 16) 2
theorem sc_Place___eq__ : FnScope ["self", "other"] ["self", "other"] (defScope s_Place___eq__) := by
  refine ⟨rfl, rfl, rfl, ?_, rfl, ?_, ?_⟩ <;> decide +kernel
abbrev d_Place___eq__ : He.DefD := ⟨("Place", some "__eq__"), "__eq__", "Place.__eq__", defArgs s_Place___eq__, defBody s_Place___eq__, defScope s_Place___eq__, [], []⟩
abbrev s_places_fit : Stmt := top 17
theorem sc_places_fit : FnScope ["places", "place"] ["places"] (defScope s_places_fit) := by
  refine ⟨rfl, rfl, rfl, ?_, rfl, ?_, ?_⟩ <;> decide +kernel
abbrev d_places_fit : He.DefD := ⟨("places_fit", none), "places_fit", "places_fit", defArgs s_places_fit, defBody s_places_fit, defScope s_places_fit, [], []⟩
abbrev s_nexts_fit : Stmt := top 18
theorem sc_nexts_fit : FnScope ["names", "nexts", "name", "row", "item"] ["names", "nexts"] (defScope s_nexts_fit) := by
  refine ⟨rfl, rfl, rfl, ?_, rfl, ?_, ?_⟩ <;> decide +kernel
abbrev d_nexts_fit : He.DefD := ⟨("nexts_fit", none), "nexts_fit", "nexts_fit", defArgs s_nexts_fit, defBody s_nexts_fit, defScope s_nexts_fit, [], []⟩
abbrev s_Program___init__ : Stmt := inClass (top 19) 0
theorem sc_Program___init__ : FnScope ["self", "places", "nexts", "start", "names", "place", "name"] ["self", "places", "nexts", "start"] (defScope s_Program___init__) := by
  refine ⟨rfl, rfl, rfl, ?_, rfl, ?_, ?_⟩ <;> decide +kernel
abbrev d_Program___init__ : He.DefD := ⟨("Program", some "__init__"), "__init__", "Program.__init__", defArgs s_Program___init__, defBody s_Program___init__, defScope s_Program___init__, [], [("start", .non)]⟩
abbrev s_Program___getitem__ : Stmt := inClass (top 19) 3
theorem sc_Program___getitem__ : FnScope ["self", "at", "place"] ["self", "at"] (defScope s_Program___getitem__) := by
  refine ⟨rfl, rfl, rfl, ?_, rfl, ?_, ?_⟩ <;> decide +kernel
abbrev d_Program___getitem__ : He.DefD := ⟨("Program", some "__getitem__"), "__getitem__", "Program.__getitem__", defArgs s_Program___getitem__, defBody s_Program___getitem__, defScope s_Program___getitem__, [], []⟩
abbrev s_Program___eq__ : Stmt := inClass (top 19) 7
theorem sc_Program___eq__ : FnScope ["self", "other", "at"] ["self", "other"] (defScope s_Program___eq__) := by
  refine ⟨rfl, rfl, rfl, ?_, rfl, ?_, ?_⟩ <;> decide +kernel
abbrev d_Program___eq__ : He.DefD := ⟨("Program", some "__eq__"), "__eq__", "Program.__eq__", defArgs s_Program___eq__, defBody s_Program___eq__, defScope s_Program___eq__, [], []⟩
abbrev s__law_cell : Stmt := top 21
theorem sc__law_cell : FnScope ["_law_script", "_law_k", "_law_cell_here", "_law_number", "_law_total", "_law_step"] ["_law_script", "_law_k"] (defScope s__law_cell) := by
  refine ⟨rfl, rfl, rfl, ?_, rfl, ?_, ?_⟩ <;> decide +kernel
abbrev d__law_cell : He.DefD := ⟨("_law_cell", none), "_law_cell", "_law_cell", defArgs s__law_cell, defBody s__law_cell, defScope s__law_cell, [], []⟩
abbrev s__law_take : Stmt := top 22
theorem sc__law_take : FnScope ["_law_draw", "_law_size", "_law_taken"] ["_law_draw", "_law_size"] (defScope s__law_take) := by
  refine ⟨rfl, rfl, rfl, ?_, rfl, ?_, ?_⟩ <;> decide +kernel
abbrev d__law_take : He.DefD := ⟨("_law_take", none), "_law_take", "_law_take", defArgs s__law_take, defBody s__law_take, defScope s__law_take, [], []⟩
abbrev s__law_name : Stmt := top 23
theorem sc__law_name : FnScope ["_law_draw", "_law_used", "_law_letters", "_law_word", "_law_k", "_law_letter"] ["_law_draw", "_law_used"] (defScope s__law_name) := by
  refine ⟨rfl, rfl, rfl, ?_, rfl, ?_, ?_⟩ <;> decide +kernel
abbrev d__law_name : He.DefD := ⟨("_law_name", none), "_law_name", "_law_name", defArgs s__law_name, defBody s__law_name, defScope s__law_name, [], []⟩
abbrev s__law_rows : Stmt := top 24
theorem sc__law_rows : FnScope ["_law_draw", "_law_words", "_law_many", "_law_longest", "_law_rows_here", "_law_k", "_law_word", "_law_row_here", "_law_low", "_law_shift", "_law_way", "_law_found", "_law_j"] ["_law_draw", "_law_words", "_law_many", "_law_longest"] (defScope s__law_rows) := by
  refine ⟨rfl, rfl, rfl, ?_, rfl, ?_, ?_⟩ <;> decide +kernel
abbrev d__law_rows : He.DefD := ⟨("_law_rows", none), "_law_rows", "_law_rows", defArgs s__law_rows, defBody s__law_rows, defScope s__law_rows, [], []⟩
abbrev s__law_nexts : Stmt := top 26
theorem sc__law_nexts : FnScope ["_law_rows_here", "_law_table", "_law_row_here"] ["_law_rows_here"] (defScope s__law_nexts) := by
  refine ⟨rfl, rfl, rfl, ?_, rfl, ?_, ?_⟩ <;> decide +kernel
abbrev d__law_nexts : He.DefD := ⟨("_law_nexts", none), "_law_nexts", "_law_nexts", defArgs s__law_nexts, defBody s__law_nexts, defScope s__law_nexts, [], []⟩
abbrev s__law_program : Stmt := top 27
theorem sc__law_program : FnScope ["_law_rows_here", "_law_begin", "_law_places", "_law_row_here"] ["_law_rows_here", "_law_begin"] (defScope s__law_program) := by
  refine ⟨rfl, rfl, rfl, ?_, rfl, ?_, ?_⟩ <;> decide +kernel
abbrev d__law_program : He.DefD := ⟨("_law_program", none), "_law_program", "_law_program", defArgs s__law_program, defBody s__law_program, defScope s__law_program, [], []⟩
abbrev s__law_copy : Stmt := top 28
theorem sc__law_copy : FnScope ["_law_rows_here", "_law_row_here"] ["_law_rows_here"] (defScope s__law_copy) := by
  refine ⟨rfl, rfl, rfl, ?_, rfl, ?_, ?_⟩ <;> decide +kernel
abbrev d__law_copy : He.DefD := ⟨("_law_copy", none), "_law_copy", "_law_copy", defArgs s__law_copy, defBody s__law_copy, defScope s__law_copy, [], []⟩
abbrev s__law_renamed : Stmt := top 29
theorem sc__law_renamed : FnScope ["_law_rows_here", "_law_at", "_law_word", "_law_old", "_law_out", "_law_row_here", "_law_one"] ["_law_rows_here", "_law_at", "_law_word"] (defScope s__law_renamed) := by
  refine ⟨rfl, rfl, rfl, ?_, rfl, ?_, ?_⟩ <;> decide +kernel
abbrev d__law_renamed : He.DefD := ⟨("_law_renamed", none), "_law_renamed", "_law_renamed", defArgs s__law_renamed, defBody s__law_renamed, defScope s__law_renamed, [], []⟩
abbrev s__law_changed : Stmt := top 30
theorem sc__law_changed : FnScope ["_law_draw", "_law_rows_here", "_law_at", "_law_kind", "_law_row_here", "_law_out"] ["_law_draw", "_law_rows_here", "_law_at"] (defScope s__law_changed) := by
  refine ⟨rfl, rfl, rfl, ?_, rfl, ?_, ?_⟩ <;> decide +kernel
abbrev d__law_changed : He.DefD := ⟨("_law_changed", none), "_law_changed", "_law_changed", defArgs s__law_changed, defBody s__law_changed, defScope s__law_changed, [], []⟩
abbrev s_law : Stmt := top 31
theorem sc_law : FnScope ["_law_script", "_law_draw", "_law_rows_here", "_law_spoil", "_law_at", "_law_begin", "_law_other", "_law_changed_here", "_law_one", "_law_two", "_law_alike", "_law_k", "_law_left", "_law_right"] ["_law_script"] (defScope s_law) := by
  refine ⟨rfl, rfl, rfl, ?_, rfl, ?_, ?_⟩ <;> decide +kernel
abbrev d_law : He.DefD := ⟨("law", none), "law", "law", defArgs s_law, defBody s_law, defScope s_law, [], []⟩
def fns : List He.DefD := [d_is_integer, d_is_within, d_is_name, d_has_equal_items, d_BadPlace___init__, d_BadProgram___init__, d_NoPlace___init__, d_Place___init__, d_Place_place_key, d_Place___eq__, d_places_fit, d_nexts_fit, d_Program___init__, d_Program___getitem__, d_Program___eq__, d__law_cell, d__law_take, d__law_name, d__law_rows, d__law_nexts, d__law_program, d__law_copy, d__law_renamed, d__law_changed, d_law]
def cks : List S.Ck := [
  (He.Fa.glo "is_integer").ok,
  (He.Fa.glo "is_within").ok,
  (He.Fa.glo "is_name").ok,
  (He.Fa.glo "has_equal_items").ok,
  (He.Fa.glo "places_fit").ok,
  (He.Fa.glo "nexts_fit").ok,
  (He.Fa.glo "_law_cell").ok,
  (He.Fa.glo "_law_take").ok,
  (He.Fa.glo "_law_name").ok,
  (He.Fa.glo "_law_rows").ok,
  (He.Fa.glo "_law_nexts").ok,
  (He.Fa.glo "_law_program").ok,
  (He.Fa.glo "_law_copy").ok,
  (He.Fa.glo "_law_renamed").ok,
  (He.Fa.glo "_law_changed").ok,
  (He.Fa.glo "law").ok,
  (He.Fa.glo "SeenError").ok,
  (He.Fa.glo "BadPlace").ok,
  (He.Fa.glo "BadProgram").ok,
  (He.Fa.glo "NoPlace").ok,
  (He.Fa.glo "Place").ok,
  (He.Fa.glo "Program").ok,
  (He.Fa.free "int").ok,
  (He.Fa.free "bool").ok,
  (He.Fa.free "str").ok,
  (He.Fa.free "list").ok,
  (He.Fa.free "tuple").ok,
  (He.Fa.free "dict").ok,
  (He.Fa.free "isinstance").ok,
  (He.Fa.free "len").ok,
  (He.Fa.free "range").ok,
  (He.Fa.str "LETTERS" "abcdefghijklmnopqrstuvwxyz").ok,
  (He.Fa.glo "KEPT_WORDS").ok,
  (fun K => He.tupB K "KEPT_WORDS" [.str "any", .str "closed", .str "end", .str "open", .str "to"]),
  (He.Fa.int "MOST_TICKS" 6).ok,
  (He.Fa.int "MOST_PLACES" 6).ok,
  (fun K => S.oexB K (He.ga K "SeenError")),
  (fun K => S.excB K (He.ga K "SeenError")),
  (fun K => xfB K (He.ga K "SeenError")),
  (He.Fa.exm "SeenError" "SeenError" true).ok,
  (fun K => decide (PySem.W.kitOne K (.ref (He.ga K "SeenError")) (.ref (He.ga K "SeenError")) = some true)),
  (He.Fa.exm "SeenError" "BadPlace" false).ok,
  (fun K => decide (PySem.W.kitOne K (.ref (He.ga K "SeenError")) (.ref (He.ga K "BadPlace")) = some false)),
  (He.Fa.exm "SeenError" "BadProgram" false).ok,
  (fun K => decide (PySem.W.kitOne K (.ref (He.ga K "SeenError")) (.ref (He.ga K "BadProgram")) = some false)),
  (He.Fa.exm "SeenError" "NoPlace" false).ok,
  (fun K => decide (PySem.W.kitOne K (.ref (He.ga K "SeenError")) (.ref (He.ga K "NoPlace")) = some false)),
  (fun K => S.oexB K (He.ga K "BadPlace")),
  (fun K => S.excB K (He.ga K "BadPlace")),
  (fun K => xfB K (He.ga K "BadPlace")),
  (fun K => He.eqO (PySem.W.findIn K (.ref (He.ga K "BadPlace")) "__init__") (some (some (.ref (He.ma K (He.ga K "BadPlace") "__init__"))))),
  (fun K => decide (PySem.W.typeIn K (.ref (He.ma K (He.ga K "BadPlace") "__init__")) = some (.type "function"))),
  (fun K => He.eqO (PySem.W.findIn K (.ref (He.ga K "BadPlace")) "why") (some none)),
  (He.Fa.exm "BadPlace" "SeenError" true).ok,
  (fun K => decide (PySem.W.kitOne K (.ref (He.ga K "BadPlace")) (.ref (He.ga K "SeenError")) = some true)),
  (He.Fa.exm "BadPlace" "BadPlace" true).ok,
  (fun K => decide (PySem.W.kitOne K (.ref (He.ga K "BadPlace")) (.ref (He.ga K "BadPlace")) = some true)),
  (He.Fa.exm "BadPlace" "BadProgram" false).ok,
  (fun K => decide (PySem.W.kitOne K (.ref (He.ga K "BadPlace")) (.ref (He.ga K "BadProgram")) = some false)),
  (He.Fa.exm "BadPlace" "NoPlace" false).ok,
  (fun K => decide (PySem.W.kitOne K (.ref (He.ga K "BadPlace")) (.ref (He.ga K "NoPlace")) = some false)),
  (fun K => S.oexB K (He.ga K "BadProgram")),
  (fun K => S.excB K (He.ga K "BadProgram")),
  (fun K => xfB K (He.ga K "BadProgram")),
  (fun K => He.eqO (PySem.W.findIn K (.ref (He.ga K "BadProgram")) "__init__") (some (some (.ref (He.ma K (He.ga K "BadProgram") "__init__"))))),
  (fun K => decide (PySem.W.typeIn K (.ref (He.ma K (He.ga K "BadProgram") "__init__")) = some (.type "function"))),
  (fun K => He.eqO (PySem.W.findIn K (.ref (He.ga K "BadProgram")) "why") (some none)),
  (He.Fa.exm "BadProgram" "SeenError" true).ok,
  (fun K => decide (PySem.W.kitOne K (.ref (He.ga K "BadProgram")) (.ref (He.ga K "SeenError")) = some true)),
  (He.Fa.exm "BadProgram" "BadPlace" false).ok,
  (fun K => decide (PySem.W.kitOne K (.ref (He.ga K "BadProgram")) (.ref (He.ga K "BadPlace")) = some false)),
  (He.Fa.exm "BadProgram" "BadProgram" true).ok,
  (fun K => decide (PySem.W.kitOne K (.ref (He.ga K "BadProgram")) (.ref (He.ga K "BadProgram")) = some true)),
  (He.Fa.exm "BadProgram" "NoPlace" false).ok,
  (fun K => decide (PySem.W.kitOne K (.ref (He.ga K "BadProgram")) (.ref (He.ga K "NoPlace")) = some false)),
  (fun K => S.oexB K (He.ga K "NoPlace")),
  (fun K => S.excB K (He.ga K "NoPlace")),
  (fun K => xfB K (He.ga K "NoPlace")),
  (fun K => He.eqO (PySem.W.findIn K (.ref (He.ga K "NoPlace")) "__init__") (some (some (.ref (He.ma K (He.ga K "NoPlace") "__init__"))))),
  (fun K => decide (PySem.W.typeIn K (.ref (He.ma K (He.ga K "NoPlace") "__init__")) = some (.type "function"))),
  (fun K => He.eqO (PySem.W.findIn K (.ref (He.ga K "NoPlace")) "name") (some none)),
  (He.Fa.exm "NoPlace" "SeenError" true).ok,
  (fun K => decide (PySem.W.kitOne K (.ref (He.ga K "NoPlace")) (.ref (He.ga K "SeenError")) = some true)),
  (He.Fa.exm "NoPlace" "BadPlace" false).ok,
  (fun K => decide (PySem.W.kitOne K (.ref (He.ga K "NoPlace")) (.ref (He.ga K "BadPlace")) = some false)),
  (He.Fa.exm "NoPlace" "BadProgram" false).ok,
  (fun K => decide (PySem.W.kitOne K (.ref (He.ga K "NoPlace")) (.ref (He.ga K "BadProgram")) = some false)),
  (He.Fa.exm "NoPlace" "NoPlace" true).ok,
  (fun K => decide (PySem.W.kitOne K (.ref (He.ga K "NoPlace")) (.ref (He.ga K "NoPlace")) = some true)),
  (He.Fa.cls "Place").ok,
  (He.Fa.mkr "Place").ok,
  (He.Fa.noat "Place" "name").ok,
  (He.Fa.noat "Place" "least").ok,
  (He.Fa.noat "Place" "most").ok,
  (He.Fa.noat "Place" "let").ok,
  (He.Fa.meth "Place" "__init__").ok,
  (He.Fa.meth "Place" "place_key").ok,
  (He.Fa.meth "Place" "__eq__").ok,
  (fun K => S.insB K (He.ga K "Place")),
  (fun K => decide (PySem.W.kitOne K (.ref (He.ga K "Place")) (.type "int") = some false)),
  (fun K => decide (PySem.W.kitOne K (.ref (He.ga K "Place")) (.type "bool") = some false)),
  (fun K => decide (PySem.W.kitOne K (.ref (He.ga K "Place")) (.type "str") = some false)),
  (fun K => decide (PySem.W.kitOne K (.ref (He.ga K "Place")) (.type "list") = some false)),
  (fun K => decide (PySem.W.kitOne K (.ref (He.ga K "Place")) (.type "tuple") = some false)),
  (fun K => decide (PySem.W.kitOne K (.ref (He.ga K "Place")) (.type "dict") = some false)),
  (fun K => decide (PySem.W.kitOne K (.ref (He.ga K "Place")) (.ref (He.ga K "Place")) = some true)),
  (fun K => decide (PySem.W.kitOne K (.ref (He.ga K "Place")) (.ref (He.ga K "Program")) = some false)),
  (fun K => decide (PySem.W.kitOne K (.type "int") (.ref (He.ga K "Place")) = some false)),
  (fun K => decide (PySem.W.kitOne K (.type "bool") (.ref (He.ga K "Place")) = some false)),
  (fun K => decide (PySem.W.kitOne K (.type "str") (.ref (He.ga K "Place")) = some false)),
  (fun K => decide (PySem.W.kitOne K (.type "list") (.ref (He.ga K "Place")) = some false)),
  (fun K => decide (PySem.W.kitOne K (.type "tuple") (.ref (He.ga K "Place")) = some false)),
  (fun K => decide (PySem.W.kitOne K (.type "dict") (.ref (He.ga K "Place")) = some false)),
  (fun K => decide (PySem.W.kitOne K (.type "NoneType") (.ref (He.ga K "Place")) = some false)),
  (He.Fa.cls "Program").ok,
  (He.Fa.mkr "Program").ok,
  (He.Fa.noat "Program" "places").ok,
  (He.Fa.noat "Program" "names").ok,
  (He.Fa.noat "Program" "start").ok,
  (He.Fa.noat "Program" "links").ok,
  (He.Fa.meth "Program" "__init__").ok,
  (He.Fa.meth "Program" "__getitem__").ok,
  (He.Fa.meth "Program" "__eq__").ok,
  (fun K => S.insB K (He.ga K "Program")),
  (fun K => decide (PySem.W.kitOne K (.ref (He.ga K "Program")) (.type "int") = some false)),
  (fun K => decide (PySem.W.kitOne K (.ref (He.ga K "Program")) (.type "bool") = some false)),
  (fun K => decide (PySem.W.kitOne K (.ref (He.ga K "Program")) (.type "str") = some false)),
  (fun K => decide (PySem.W.kitOne K (.ref (He.ga K "Program")) (.type "list") = some false)),
  (fun K => decide (PySem.W.kitOne K (.ref (He.ga K "Program")) (.type "tuple") = some false)),
  (fun K => decide (PySem.W.kitOne K (.ref (He.ga K "Program")) (.type "dict") = some false)),
  (fun K => decide (PySem.W.kitOne K (.ref (He.ga K "Program")) (.ref (He.ga K "Place")) = some false)),
  (fun K => decide (PySem.W.kitOne K (.ref (He.ga K "Program")) (.ref (He.ga K "Program")) = some true)),
  (fun K => decide (PySem.W.kitOne K (.type "int") (.ref (He.ga K "Program")) = some false)),
  (fun K => decide (PySem.W.kitOne K (.type "bool") (.ref (He.ga K "Program")) = some false)),
  (fun K => decide (PySem.W.kitOne K (.type "str") (.ref (He.ga K "Program")) = some false)),
  (fun K => decide (PySem.W.kitOne K (.type "list") (.ref (He.ga K "Program")) = some false)),
  (fun K => decide (PySem.W.kitOne K (.type "tuple") (.ref (He.ga K "Program")) = some false)),
  (fun K => decide (PySem.W.kitOne K (.type "dict") (.ref (He.ga K "Program")) = some false)),
  (fun K => decide (PySem.W.kitOne K (.type "NoneType") (.ref (He.ga K "Program")) = some false)),
  (fun K => PySem.W.fnIn K (He.ma K (He.ga K "Program") "__getitem__")),
  (fun K => He.eqO (PySem.W.findIn K (.ref (He.ga K "Program")) "__ne__") (some (some (.builtin "object.__ne__")))),
  (fun K => He.eqO (PySem.W.findIn K (.ref (He.ga K "Place")) "__ne__") (some (some (.builtin "object.__ne__"))))]
structure Txt (K : S.Frag) (mg : Str → Option Value) : Prop where
  F_is_integer : S.FunA K d_is_integer
  F_is_within : S.FunA K d_is_within
  F_is_name : S.FunA K d_is_name
  F_has_equal_items : S.FunA K d_has_equal_items
  F_BadPlace___init__ : S.FunA K d_BadPlace___init__
  F_BadProgram___init__ : S.FunA K d_BadProgram___init__
  F_NoPlace___init__ : S.FunA K d_NoPlace___init__
  F_Place___init__ : S.FunA K d_Place___init__
  F_Place_place_key : S.FunA K d_Place_place_key
  F_Place___eq__ : S.FunA K d_Place___eq__
  F_places_fit : S.FunA K d_places_fit
  F_nexts_fit : S.FunA K d_nexts_fit
  F_Program___init__ : S.FunA K d_Program___init__
  F_Program___getitem__ : S.FunA K d_Program___getitem__
  F_Program___eq__ : S.FunA K d_Program___eq__
  F__law_cell : S.FunA K d__law_cell
  F__law_take : S.FunA K d__law_take
  F__law_name : S.FunA K d__law_name
  F__law_rows : S.FunA K d__law_rows
  F__law_nexts : S.FunA K d__law_nexts
  F__law_program : S.FunA K d__law_program
  F__law_copy : S.FunA K d__law_copy
  F__law_renamed : S.FunA K d__law_renamed
  F__law_changed : S.FunA K d__law_changed
  F_law : S.FunA K d_law
  g_is_integer : mg "is_integer" = some (.ref (He.ga K "is_integer"))
  g_is_within : mg "is_within" = some (.ref (He.ga K "is_within"))
  g_is_name : mg "is_name" = some (.ref (He.ga K "is_name"))
  g_has_equal_items : mg "has_equal_items" = some (.ref (He.ga K "has_equal_items"))
  g_places_fit : mg "places_fit" = some (.ref (He.ga K "places_fit"))
  g_nexts_fit : mg "nexts_fit" = some (.ref (He.ga K "nexts_fit"))
  g__law_cell : mg "_law_cell" = some (.ref (He.ga K "_law_cell"))
  g__law_take : mg "_law_take" = some (.ref (He.ga K "_law_take"))
  g__law_name : mg "_law_name" = some (.ref (He.ga K "_law_name"))
  g__law_rows : mg "_law_rows" = some (.ref (He.ga K "_law_rows"))
  g__law_nexts : mg "_law_nexts" = some (.ref (He.ga K "_law_nexts"))
  g__law_program : mg "_law_program" = some (.ref (He.ga K "_law_program"))
  g__law_copy : mg "_law_copy" = some (.ref (He.ga K "_law_copy"))
  g__law_renamed : mg "_law_renamed" = some (.ref (He.ga K "_law_renamed"))
  g__law_changed : mg "_law_changed" = some (.ref (He.ga K "_law_changed"))
  g_law : mg "law" = some (.ref (He.ga K "law"))
  g_SeenError : mg "SeenError" = some (.ref (He.ga K "SeenError"))
  g_BadPlace : mg "BadPlace" = some (.ref (He.ga K "BadPlace"))
  g_BadProgram : mg "BadProgram" = some (.ref (He.ga K "BadProgram"))
  g_NoPlace : mg "NoPlace" = some (.ref (He.ga K "NoPlace"))
  g_Place : mg "Place" = some (.ref (He.ga K "Place"))
  g_Program : mg "Program" = some (.ref (He.ga K "Program"))
  n_int : mg "int" = none
  n_bool : mg "bool" = none
  n_str : mg "str" = none
  n_list : mg "list" = none
  n_tuple : mg "tuple" = none
  n_dict : mg "dict" = none
  n_isinstance : mg "isinstance" = none
  n_len : mg "len" = none
  n_range : mg "range" = none
  c_LETTERS : ∃ t, mg "LETTERS" = some (.str "abcdefghijklmnopqrstuvwxyz" t)
  g_KEPT_WORDS : mg "KEPT_WORDS" = some (.ref (He.ga K "KEPT_WORDS"))
  t_KEPT_WORDS : ∀ H : Hp, SqT K H (He.ga K "KEPT_WORDS") [V.str "any", V.str "closed", V.str "end", V.str "open", V.str "to"]
  c_MOST_TICKS : ∃ t, mg "MOST_TICKS" = some (.int 6 t)
  c_MOST_PLACES : ∃ t, mg "MOST_PLACES" = some (.int 6 t)
  ox_SeenError : OexC K (He.ga K "SeenError")
  xc_SeenError : ExcC K (He.ga K "SeenError")
  xf_SeenError : XfC K (He.ga K "SeenError")
  xm_SeenError_SeenError : PySem.W.exmOne K (.ref (He.ga K "SeenError")) (.ref (He.ga K "SeenError")) = some true
  xk_SeenError_SeenError : PySem.W.kitOne K (.ref (He.ga K "SeenError")) (.ref (He.ga K "SeenError")) = some true
  xm_SeenError_BadPlace : PySem.W.exmOne K (.ref (He.ga K "SeenError")) (.ref (He.ga K "BadPlace")) = some false
  xk_SeenError_BadPlace : PySem.W.kitOne K (.ref (He.ga K "SeenError")) (.ref (He.ga K "BadPlace")) = some false
  xm_SeenError_BadProgram : PySem.W.exmOne K (.ref (He.ga K "SeenError")) (.ref (He.ga K "BadProgram")) = some false
  xk_SeenError_BadProgram : PySem.W.kitOne K (.ref (He.ga K "SeenError")) (.ref (He.ga K "BadProgram")) = some false
  xm_SeenError_NoPlace : PySem.W.exmOne K (.ref (He.ga K "SeenError")) (.ref (He.ga K "NoPlace")) = some false
  xk_SeenError_NoPlace : PySem.W.kitOne K (.ref (He.ga K "SeenError")) (.ref (He.ga K "NoPlace")) = some false
  ox_BadPlace : OexC K (He.ga K "BadPlace")
  xc_BadPlace : ExcC K (He.ga K "BadPlace")
  xf_BadPlace : XfC K (He.ga K "BadPlace")
  xi_BadPlace : PySem.W.findIn K (.ref (He.ga K "BadPlace")) "__init__" = some (some (.ref (He.ma K (He.ga K "BadPlace") "__init__")))
  xt_BadPlace : PySem.W.typeIn K (.ref (He.ma K (He.ga K "BadPlace") "__init__")) = some (.type "function")
  xn_BadPlace_why : PySem.W.findIn K (.ref (He.ga K "BadPlace")) "why" = some none
  xm_BadPlace_SeenError : PySem.W.exmOne K (.ref (He.ga K "BadPlace")) (.ref (He.ga K "SeenError")) = some true
  xk_BadPlace_SeenError : PySem.W.kitOne K (.ref (He.ga K "BadPlace")) (.ref (He.ga K "SeenError")) = some true
  xm_BadPlace_BadPlace : PySem.W.exmOne K (.ref (He.ga K "BadPlace")) (.ref (He.ga K "BadPlace")) = some true
  xk_BadPlace_BadPlace : PySem.W.kitOne K (.ref (He.ga K "BadPlace")) (.ref (He.ga K "BadPlace")) = some true
  xm_BadPlace_BadProgram : PySem.W.exmOne K (.ref (He.ga K "BadPlace")) (.ref (He.ga K "BadProgram")) = some false
  xk_BadPlace_BadProgram : PySem.W.kitOne K (.ref (He.ga K "BadPlace")) (.ref (He.ga K "BadProgram")) = some false
  xm_BadPlace_NoPlace : PySem.W.exmOne K (.ref (He.ga K "BadPlace")) (.ref (He.ga K "NoPlace")) = some false
  xk_BadPlace_NoPlace : PySem.W.kitOne K (.ref (He.ga K "BadPlace")) (.ref (He.ga K "NoPlace")) = some false
  ox_BadProgram : OexC K (He.ga K "BadProgram")
  xc_BadProgram : ExcC K (He.ga K "BadProgram")
  xf_BadProgram : XfC K (He.ga K "BadProgram")
  xi_BadProgram : PySem.W.findIn K (.ref (He.ga K "BadProgram")) "__init__" = some (some (.ref (He.ma K (He.ga K "BadProgram") "__init__")))
  xt_BadProgram : PySem.W.typeIn K (.ref (He.ma K (He.ga K "BadProgram") "__init__")) = some (.type "function")
  xn_BadProgram_why : PySem.W.findIn K (.ref (He.ga K "BadProgram")) "why" = some none
  xm_BadProgram_SeenError : PySem.W.exmOne K (.ref (He.ga K "BadProgram")) (.ref (He.ga K "SeenError")) = some true
  xk_BadProgram_SeenError : PySem.W.kitOne K (.ref (He.ga K "BadProgram")) (.ref (He.ga K "SeenError")) = some true
  xm_BadProgram_BadPlace : PySem.W.exmOne K (.ref (He.ga K "BadProgram")) (.ref (He.ga K "BadPlace")) = some false
  xk_BadProgram_BadPlace : PySem.W.kitOne K (.ref (He.ga K "BadProgram")) (.ref (He.ga K "BadPlace")) = some false
  xm_BadProgram_BadProgram : PySem.W.exmOne K (.ref (He.ga K "BadProgram")) (.ref (He.ga K "BadProgram")) = some true
  xk_BadProgram_BadProgram : PySem.W.kitOne K (.ref (He.ga K "BadProgram")) (.ref (He.ga K "BadProgram")) = some true
  xm_BadProgram_NoPlace : PySem.W.exmOne K (.ref (He.ga K "BadProgram")) (.ref (He.ga K "NoPlace")) = some false
  xk_BadProgram_NoPlace : PySem.W.kitOne K (.ref (He.ga K "BadProgram")) (.ref (He.ga K "NoPlace")) = some false
  ox_NoPlace : OexC K (He.ga K "NoPlace")
  xc_NoPlace : ExcC K (He.ga K "NoPlace")
  xf_NoPlace : XfC K (He.ga K "NoPlace")
  xi_NoPlace : PySem.W.findIn K (.ref (He.ga K "NoPlace")) "__init__" = some (some (.ref (He.ma K (He.ga K "NoPlace") "__init__")))
  xt_NoPlace : PySem.W.typeIn K (.ref (He.ma K (He.ga K "NoPlace") "__init__")) = some (.type "function")
  xn_NoPlace_name : PySem.W.findIn K (.ref (He.ga K "NoPlace")) "name" = some none
  xm_NoPlace_SeenError : PySem.W.exmOne K (.ref (He.ga K "NoPlace")) (.ref (He.ga K "SeenError")) = some true
  xk_NoPlace_SeenError : PySem.W.kitOne K (.ref (He.ga K "NoPlace")) (.ref (He.ga K "SeenError")) = some true
  xm_NoPlace_BadPlace : PySem.W.exmOne K (.ref (He.ga K "NoPlace")) (.ref (He.ga K "BadPlace")) = some false
  xk_NoPlace_BadPlace : PySem.W.kitOne K (.ref (He.ga K "NoPlace")) (.ref (He.ga K "BadPlace")) = some false
  xm_NoPlace_BadProgram : PySem.W.exmOne K (.ref (He.ga K "NoPlace")) (.ref (He.ga K "BadProgram")) = some false
  xk_NoPlace_BadProgram : PySem.W.kitOne K (.ref (He.ga K "NoPlace")) (.ref (He.ga K "BadProgram")) = some false
  xm_NoPlace_NoPlace : PySem.W.exmOne K (.ref (He.ga K "NoPlace")) (.ref (He.ga K "NoPlace")) = some true
  xk_NoPlace_NoPlace : PySem.W.kitOne K (.ref (He.ga K "NoPlace")) (.ref (He.ga K "NoPlace")) = some true
  cl_Place : Cls K (He.ga K "Place")
  mk_Place : Mk K (He.ga K "Place") (He.ma K (He.ga K "Place") "__init__")
  na_Place_name : NoAttr K (He.ga K "Place") "name"
  na_Place_least : NoAttr K (He.ga K "Place") "least"
  na_Place_most : NoAttr K (He.ga K "Place") "most"
  na_Place_let : NoAttr K (He.ga K "Place") "let"
  me_Place___init__ : Meth K (He.ga K "Place") "__init__" (He.ma K (He.ga K "Place") "__init__")
  me_Place_place_key : Meth K (He.ga K "Place") "place_key" (He.ma K (He.ga K "Place") "place_key")
  me_Place___eq__ : Meth K (He.ga K "Place") "__eq__" (He.ma K (He.ga K "Place") "__eq__")
  is_Place : S.InsT K (He.ga K "Place")
  kt_Place_int : PySem.W.kitOne K (.ref (He.ga K "Place")) (.type "int") = some false
  kt_Place_bool : PySem.W.kitOne K (.ref (He.ga K "Place")) (.type "bool") = some false
  kt_Place_str : PySem.W.kitOne K (.ref (He.ga K "Place")) (.type "str") = some false
  kt_Place_list : PySem.W.kitOne K (.ref (He.ga K "Place")) (.type "list") = some false
  kt_Place_tuple : PySem.W.kitOne K (.ref (He.ga K "Place")) (.type "tuple") = some false
  kt_Place_dict : PySem.W.kitOne K (.ref (He.ga K "Place")) (.type "dict") = some false
  ko_Place_Place : PySem.W.kitOne K (.ref (He.ga K "Place")) (.ref (He.ga K "Place")) = some true
  ko_Place_Program : PySem.W.kitOne K (.ref (He.ga K "Place")) (.ref (He.ga K "Program")) = some false
  kb_Place_int : PySem.W.kitOne K (.type "int") (.ref (He.ga K "Place")) = some false
  kb_Place_bool : PySem.W.kitOne K (.type "bool") (.ref (He.ga K "Place")) = some false
  kb_Place_str : PySem.W.kitOne K (.type "str") (.ref (He.ga K "Place")) = some false
  kb_Place_list : PySem.W.kitOne K (.type "list") (.ref (He.ga K "Place")) = some false
  kb_Place_tuple : PySem.W.kitOne K (.type "tuple") (.ref (He.ga K "Place")) = some false
  kb_Place_dict : PySem.W.kitOne K (.type "dict") (.ref (He.ga K "Place")) = some false
  kb_Place_NoneType : PySem.W.kitOne K (.type "NoneType") (.ref (He.ga K "Place")) = some false
  cl_Program : Cls K (He.ga K "Program")
  mk_Program : Mk K (He.ga K "Program") (He.ma K (He.ga K "Program") "__init__")
  na_Program_places : NoAttr K (He.ga K "Program") "places"
  na_Program_names : NoAttr K (He.ga K "Program") "names"
  na_Program_start : NoAttr K (He.ga K "Program") "start"
  na_Program_links : NoAttr K (He.ga K "Program") "links"
  me_Program___init__ : Meth K (He.ga K "Program") "__init__" (He.ma K (He.ga K "Program") "__init__")
  me_Program___getitem__ : Meth K (He.ga K "Program") "__getitem__" (He.ma K (He.ga K "Program") "__getitem__")
  me_Program___eq__ : Meth K (He.ga K "Program") "__eq__" (He.ma K (He.ga K "Program") "__eq__")
  is_Program : S.InsT K (He.ga K "Program")
  kt_Program_int : PySem.W.kitOne K (.ref (He.ga K "Program")) (.type "int") = some false
  kt_Program_bool : PySem.W.kitOne K (.ref (He.ga K "Program")) (.type "bool") = some false
  kt_Program_str : PySem.W.kitOne K (.ref (He.ga K "Program")) (.type "str") = some false
  kt_Program_list : PySem.W.kitOne K (.ref (He.ga K "Program")) (.type "list") = some false
  kt_Program_tuple : PySem.W.kitOne K (.ref (He.ga K "Program")) (.type "tuple") = some false
  kt_Program_dict : PySem.W.kitOne K (.ref (He.ga K "Program")) (.type "dict") = some false
  ko_Program_Place : PySem.W.kitOne K (.ref (He.ga K "Program")) (.ref (He.ga K "Place")) = some false
  ko_Program_Program : PySem.W.kitOne K (.ref (He.ga K "Program")) (.ref (He.ga K "Program")) = some true
  kb_Program_int : PySem.W.kitOne K (.type "int") (.ref (He.ga K "Program")) = some false
  kb_Program_bool : PySem.W.kitOne K (.type "bool") (.ref (He.ga K "Program")) = some false
  kb_Program_str : PySem.W.kitOne K (.type "str") (.ref (He.ga K "Program")) = some false
  kb_Program_list : PySem.W.kitOne K (.type "list") (.ref (He.ga K "Program")) = some false
  kb_Program_tuple : PySem.W.kitOne K (.type "tuple") (.ref (He.ga K "Program")) = some false
  kb_Program_dict : PySem.W.kitOne K (.type "dict") (.ref (He.ga K "Program")) = some false
  kb_Program_NoneType : PySem.W.kitOne K (.type "NoneType") (.ref (He.ga K "Program")) = some false
  fn_Program___getitem__ : PySem.W.fnIn K (He.ma K (He.ga K "Program") "__getitem__") = true
  ne_Program : PySem.W.findIn K (.ref (He.ga K "Program")) "__ne__" = some (some (.builtin "object.__ne__"))
  ne_Place : PySem.W.findIn K (.ref (He.ga K "Place")) "__ne__" = some (some (.builtin "object.__ne__"))
theorem txt_of {K : S.Frag} {h : Heap} {mg : Str → Option Value} (X : K.In h) (G : h.Ns mainGlobals mg) (c : S.SaysX cks fns K) : Txt K mg where
  F_is_integer := c.def_ 0
  F_is_within := c.def_ 1
  F_is_name := c.def_ 2
  F_has_equal_items := c.def_ 3
  F_BadPlace___init__ := c.def_ 4
  F_BadProgram___init__ := c.def_ 5
  F_NoPlace___init__ := c.def_ 6
  F_Place___init__ := c.def_ 7
  F_Place_place_key := c.def_ 8
  F_Place___eq__ := c.def_ 9
  F_places_fit := c.def_ 10
  F_nexts_fit := c.def_ 11
  F_Program___init__ := c.def_ 12
  F_Program___getitem__ := c.def_ 13
  F_Program___eq__ := c.def_ 14
  F__law_cell := c.def_ 15
  F__law_take := c.def_ 16
  F__law_name := c.def_ 17
  F__law_rows := c.def_ 18
  F__law_nexts := c.def_ 19
  F__law_program := c.def_ 20
  F__law_copy := c.def_ 21
  F__law_renamed := c.def_ 22
  F__law_changed := c.def_ 23
  F_law := c.def_ 24
  g_is_integer := He.glo_ok X G (c.fact 0)
  g_is_within := He.glo_ok X G (c.fact 1)
  g_is_name := He.glo_ok X G (c.fact 2)
  g_has_equal_items := He.glo_ok X G (c.fact 3)
  g_places_fit := He.glo_ok X G (c.fact 4)
  g_nexts_fit := He.glo_ok X G (c.fact 5)
  g__law_cell := He.glo_ok X G (c.fact 6)
  g__law_take := He.glo_ok X G (c.fact 7)
  g__law_name := He.glo_ok X G (c.fact 8)
  g__law_rows := He.glo_ok X G (c.fact 9)
  g__law_nexts := He.glo_ok X G (c.fact 10)
  g__law_program := He.glo_ok X G (c.fact 11)
  g__law_copy := He.glo_ok X G (c.fact 12)
  g__law_renamed := He.glo_ok X G (c.fact 13)
  g__law_changed := He.glo_ok X G (c.fact 14)
  g_law := He.glo_ok X G (c.fact 15)
  g_SeenError := He.glo_ok X G (c.fact 16)
  g_BadPlace := He.glo_ok X G (c.fact 17)
  g_BadProgram := He.glo_ok X G (c.fact 18)
  g_NoPlace := He.glo_ok X G (c.fact 19)
  g_Place := He.glo_ok X G (c.fact 20)
  g_Program := He.glo_ok X G (c.fact 21)
  n_int := He.free_ok X G (c.fact 22)
  n_bool := He.free_ok X G (c.fact 23)
  n_str := He.free_ok X G (c.fact 24)
  n_list := He.free_ok X G (c.fact 25)
  n_tuple := He.free_ok X G (c.fact 26)
  n_dict := He.free_ok X G (c.fact 27)
  n_isinstance := He.free_ok X G (c.fact 28)
  n_len := He.free_ok X G (c.fact 29)
  n_range := He.free_ok X G (c.fact 30)
  c_LETTERS := He.str_ok X G (c.fact 31)
  g_KEPT_WORDS := He.glo_ok X G (c.fact 32)
  t_KEPT_WORDS := He.tupB_ok (c.fact 33)
  c_MOST_TICKS := He.int_ok X G (c.fact 34)
  c_MOST_PLACES := He.int_ok X G (c.fact 35)
  ox_SeenError := S.oexB_ok (c.fact 36)
  xc_SeenError := S.excB_ok (c.fact 37)
  xf_SeenError := xfB_ok (c.fact 38)
  xm_SeenError_SeenError := He.exm_ok (c.fact 39)
  xk_SeenError_SeenError := of_decide_eq_true (c.fact 40)
  xm_SeenError_BadPlace := He.exm_ok (c.fact 41)
  xk_SeenError_BadPlace := of_decide_eq_true (c.fact 42)
  xm_SeenError_BadProgram := He.exm_ok (c.fact 43)
  xk_SeenError_BadProgram := of_decide_eq_true (c.fact 44)
  xm_SeenError_NoPlace := He.exm_ok (c.fact 45)
  xk_SeenError_NoPlace := of_decide_eq_true (c.fact 46)
  ox_BadPlace := S.oexB_ok (c.fact 47)
  xc_BadPlace := S.excB_ok (c.fact 48)
  xf_BadPlace := xfB_ok (c.fact 49)
  xi_BadPlace := He.eqO_ok (c.fact 50)
  xt_BadPlace := of_decide_eq_true (c.fact 51)
  xn_BadPlace_why := He.eqO_ok (c.fact 52)
  xm_BadPlace_SeenError := He.exm_ok (c.fact 53)
  xk_BadPlace_SeenError := of_decide_eq_true (c.fact 54)
  xm_BadPlace_BadPlace := He.exm_ok (c.fact 55)
  xk_BadPlace_BadPlace := of_decide_eq_true (c.fact 56)
  xm_BadPlace_BadProgram := He.exm_ok (c.fact 57)
  xk_BadPlace_BadProgram := of_decide_eq_true (c.fact 58)
  xm_BadPlace_NoPlace := He.exm_ok (c.fact 59)
  xk_BadPlace_NoPlace := of_decide_eq_true (c.fact 60)
  ox_BadProgram := S.oexB_ok (c.fact 61)
  xc_BadProgram := S.excB_ok (c.fact 62)
  xf_BadProgram := xfB_ok (c.fact 63)
  xi_BadProgram := He.eqO_ok (c.fact 64)
  xt_BadProgram := of_decide_eq_true (c.fact 65)
  xn_BadProgram_why := He.eqO_ok (c.fact 66)
  xm_BadProgram_SeenError := He.exm_ok (c.fact 67)
  xk_BadProgram_SeenError := of_decide_eq_true (c.fact 68)
  xm_BadProgram_BadPlace := He.exm_ok (c.fact 69)
  xk_BadProgram_BadPlace := of_decide_eq_true (c.fact 70)
  xm_BadProgram_BadProgram := He.exm_ok (c.fact 71)
  xk_BadProgram_BadProgram := of_decide_eq_true (c.fact 72)
  xm_BadProgram_NoPlace := He.exm_ok (c.fact 73)
  xk_BadProgram_NoPlace := of_decide_eq_true (c.fact 74)
  ox_NoPlace := S.oexB_ok (c.fact 75)
  xc_NoPlace := S.excB_ok (c.fact 76)
  xf_NoPlace := xfB_ok (c.fact 77)
  xi_NoPlace := He.eqO_ok (c.fact 78)
  xt_NoPlace := of_decide_eq_true (c.fact 79)
  xn_NoPlace_name := He.eqO_ok (c.fact 80)
  xm_NoPlace_SeenError := He.exm_ok (c.fact 81)
  xk_NoPlace_SeenError := of_decide_eq_true (c.fact 82)
  xm_NoPlace_BadPlace := He.exm_ok (c.fact 83)
  xk_NoPlace_BadPlace := of_decide_eq_true (c.fact 84)
  xm_NoPlace_BadProgram := He.exm_ok (c.fact 85)
  xk_NoPlace_BadProgram := of_decide_eq_true (c.fact 86)
  xm_NoPlace_NoPlace := He.exm_ok (c.fact 87)
  xk_NoPlace_NoPlace := of_decide_eq_true (c.fact 88)
  cl_Place := He.cls_ok (c.fact 89)
  mk_Place := He.mkr_ok (c.fact 90)
  na_Place_name := He.noat_ok (c.fact 91)
  na_Place_least := He.noat_ok (c.fact 92)
  na_Place_most := He.noat_ok (c.fact 93)
  na_Place_let := He.noat_ok (c.fact 94)
  me_Place___init__ := He.meth_ok (c.fact 95)
  me_Place_place_key := He.meth_ok (c.fact 96)
  me_Place___eq__ := He.meth_ok (c.fact 97)
  is_Place := S.insB_ok (c.fact 98)
  kt_Place_int := of_decide_eq_true (c.fact 99)
  kt_Place_bool := of_decide_eq_true (c.fact 100)
  kt_Place_str := of_decide_eq_true (c.fact 101)
  kt_Place_list := of_decide_eq_true (c.fact 102)
  kt_Place_tuple := of_decide_eq_true (c.fact 103)
  kt_Place_dict := of_decide_eq_true (c.fact 104)
  ko_Place_Place := of_decide_eq_true (c.fact 105)
  ko_Place_Program := of_decide_eq_true (c.fact 106)
  kb_Place_int := of_decide_eq_true (c.fact 107)
  kb_Place_bool := of_decide_eq_true (c.fact 108)
  kb_Place_str := of_decide_eq_true (c.fact 109)
  kb_Place_list := of_decide_eq_true (c.fact 110)
  kb_Place_tuple := of_decide_eq_true (c.fact 111)
  kb_Place_dict := of_decide_eq_true (c.fact 112)
  kb_Place_NoneType := of_decide_eq_true (c.fact 113)
  cl_Program := He.cls_ok (c.fact 114)
  mk_Program := He.mkr_ok (c.fact 115)
  na_Program_places := He.noat_ok (c.fact 116)
  na_Program_names := He.noat_ok (c.fact 117)
  na_Program_start := He.noat_ok (c.fact 118)
  na_Program_links := He.noat_ok (c.fact 119)
  me_Program___init__ := He.meth_ok (c.fact 120)
  me_Program___getitem__ := He.meth_ok (c.fact 121)
  me_Program___eq__ := He.meth_ok (c.fact 122)
  is_Program := S.insB_ok (c.fact 123)
  kt_Program_int := of_decide_eq_true (c.fact 124)
  kt_Program_bool := of_decide_eq_true (c.fact 125)
  kt_Program_str := of_decide_eq_true (c.fact 126)
  kt_Program_list := of_decide_eq_true (c.fact 127)
  kt_Program_tuple := of_decide_eq_true (c.fact 128)
  kt_Program_dict := of_decide_eq_true (c.fact 129)
  ko_Program_Place := of_decide_eq_true (c.fact 130)
  ko_Program_Program := of_decide_eq_true (c.fact 131)
  kb_Program_int := of_decide_eq_true (c.fact 132)
  kb_Program_bool := of_decide_eq_true (c.fact 133)
  kb_Program_str := of_decide_eq_true (c.fact 134)
  kb_Program_list := of_decide_eq_true (c.fact 135)
  kb_Program_tuple := of_decide_eq_true (c.fact 136)
  kb_Program_dict := of_decide_eq_true (c.fact 137)
  kb_Program_NoneType := of_decide_eq_true (c.fact 138)
  fn_Program___getitem__ := (c.fact 139)
  ne_Program := He.eqO_ok (c.fact 140)
  ne_Place := He.eqO_ok (c.fact 141)
theorem kb_is_integer_1 {K : S.Frag} {mg : Str → Option Value} (T : Txt K mg) : KBn K (S.fdA K ("is_integer", none)) ["value"] 1 [] (fun us _ => us ++ []) (fun vs _ => vs ++ []) :=
  S.kb_of_binds (T.F_is_integer.bindsN fun _ _ _ _ _ _ us hl => match us, hl with | [_], _ => rfl) .nil rfl
theorem kb_is_name_1 {K : S.Frag} {mg : Str → Option Value} (T : Txt K mg) : KBn K (S.fdA K ("is_name", none)) ["value"] 1 [] (fun us _ => us ++ []) (fun vs _ => vs ++ []) :=
  S.kb_of_binds (T.F_is_name.bindsN fun _ _ _ _ _ _ us hl => match us, hl with | [_], _ => rfl) .nil rfl
theorem kb_BadPlace___init___2 {K : S.Frag} {mg : Str → Option Value} (T : Txt K mg) : KBn K (S.fdA K ("BadPlace", some "__init__")) ["self", "why"] 2 [] (fun us _ => us ++ []) (fun vs _ => vs ++ []) :=
  S.kb_of_binds (T.F_BadPlace___init__.bindsN fun _ _ _ _ _ _ us hl => match us, hl with | [_, _], _ => rfl) .nil rfl
theorem kb_is_within_3 {K : S.Frag} {mg : Str → Option Value} (T : Txt K mg) : KBn K (S.fdA K ("is_within", none)) ["value", "low", "high"] 3 [] (fun us _ => us ++ []) (fun vs _ => vs ++ []) :=
  S.kb_of_binds (T.F_is_within.bindsN fun _ _ _ _ _ _ us hl => match us, hl with | [_, _, _], _ => rfl) .nil rfl
theorem kb_Place_place_key_1 {K : S.Frag} {mg : Str → Option Value} (T : Txt K mg) : KBn K (S.fdA K ("Place", some "place_key")) ["self"] 1 [] (fun us _ => us ++ []) (fun vs _ => vs ++ []) :=
  S.kb_of_binds (T.F_Place_place_key.bindsN fun _ _ _ _ _ _ us hl => match us, hl with | [_], _ => rfl) .nil rfl
theorem kb_has_equal_items_1 {K : S.Frag} {mg : Str → Option Value} (T : Txt K mg) : KBn K (S.fdA K ("has_equal_items", none)) ["items"] 1 [] (fun us _ => us ++ []) (fun vs _ => vs ++ []) :=
  S.kb_of_binds (T.F_has_equal_items.bindsN fun _ _ _ _ _ _ us hl => match us, hl with | [_], _ => rfl) .nil rfl
theorem kb_places_fit_1 {K : S.Frag} {mg : Str → Option Value} (T : Txt K mg) : KBn K (S.fdA K ("places_fit", none)) ["places"] 1 [] (fun us _ => us ++ []) (fun vs _ => vs ++ []) :=
  S.kb_of_binds (T.F_places_fit.bindsN fun _ _ _ _ _ _ us hl => match us, hl with | [_], _ => rfl) .nil rfl
theorem kb_BadProgram___init___2 {K : S.Frag} {mg : Str → Option Value} (T : Txt K mg) : KBn K (S.fdA K ("BadProgram", some "__init__")) ["self", "why"] 2 [] (fun us _ => us ++ []) (fun vs _ => vs ++ []) :=
  S.kb_of_binds (T.F_BadProgram___init__.bindsN fun _ _ _ _ _ _ us hl => match us, hl with | [_, _], _ => rfl) .nil rfl
theorem kb_nexts_fit_2 {K : S.Frag} {mg : Str → Option Value} (T : Txt K mg) : KBn K (S.fdA K ("nexts_fit", none)) ["names", "nexts"] 2 [] (fun us _ => us ++ []) (fun vs _ => vs ++ []) :=
  S.kb_of_binds (T.F_nexts_fit.bindsN fun _ _ _ _ _ _ us hl => match us, hl with | [_, _], _ => rfl) .nil rfl
theorem kb_NoPlace___init___2 {K : S.Frag} {mg : Str → Option Value} (T : Txt K mg) : KBn K (S.fdA K ("NoPlace", some "__init__")) ["self", "name"] 2 [] (fun us _ => us ++ []) (fun vs _ => vs ++ []) :=
  S.kb_of_binds (T.F_NoPlace___init__.bindsN fun _ _ _ _ _ _ us hl => match us, hl with | [_, _], _ => rfl) .nil rfl
theorem kb__law_take_2 {K : S.Frag} {mg : Str → Option Value} (T : Txt K mg) : KBn K (S.fdA K ("_law_take", none)) ["_law_draw", "_law_size"] 2 [] (fun us _ => us ++ []) (fun vs _ => vs ++ []) :=
  S.kb_of_binds (T.F__law_take.bindsN fun _ _ _ _ _ _ us hl => match us, hl with | [_, _], _ => rfl) .nil rfl
theorem kb__law_name_2 {K : S.Frag} {mg : Str → Option Value} (T : Txt K mg) : KBn K (S.fdA K ("_law_name", none)) ["_law_draw", "_law_used"] 2 [] (fun us _ => us ++ []) (fun vs _ => vs ++ []) :=
  S.kb_of_binds (T.F__law_name.bindsN fun _ _ _ _ _ _ us hl => match us, hl with | [_, _], _ => rfl) .nil rfl
theorem kb_Place___init___4_let {K : S.Frag} {mg : Str → Option Value} (T : Txt K mg) : ∃ g, KBn K (S.fdA K ("Place", some "__init__")) ["self", "name", "least", "most", "let"] 4 ["let"] g (fun vs zs => vs ++ ((zs.drop 0).take 1)) := by
  obtain ⟨_, _, h⟩ := T.F_Place___init__.kbinds (ps := ["self", "name", "least", "most", "let"]) 4 ["let"] [] (fun us its mv ws => us ++ ((ws.drop 0).take 1)) (List.cons_ne_nil _ _) (List.cons_ne_nil _ _) (by simp [He.DefD.kws, He.Dv.v]) (fun a b c d => (a.append ((d.drop 0).take 1)))
    (fun _ _ _ _ _ _ _ us its mv ws l1 l2 l3 l4 => match us, its, mv, ws, l1, l2, l3, l4 with | [_, _, _, _], [_, _], [], [_], _, _, _, _ => ⟨_, rfl, rfl⟩)
  exact ⟨_, h⟩
theorem kb_Program___init___3_start {K : S.Frag} {mg : Str → Option Value} (T : Txt K mg) : ∃ g, KBn K (S.fdA K ("Program", some "__init__")) ["self", "places", "nexts", "start"] 3 ["start"] g (fun vs zs => vs ++ ((zs.drop 0).take 1)) := by
  obtain ⟨_, h⟩ := S.kbinds0 (ps := ["self", "places", "nexts", "start"]) T.F_Program___init__ 3 ["start"] [] (fun us mv ws => us ++ ((ws.drop 0).take 1)) (List.cons_ne_nil _ _) (by simp [He.DefD.kws, He.Dv.v]) (fun a c d => (a.append ((d.drop 0).take 1)))
    (fun _ _ _ _ _ _ us mv ws l1 l3 l4 => match us, mv, ws, l1, l3, l4 with | [_, _, _], [], [_], _, _, _ => rfl)
  exact ⟨_, h⟩
theorem kb__law_nexts_1 {K : S.Frag} {mg : Str → Option Value} (T : Txt K mg) : KBn K (S.fdA K ("_law_nexts", none)) ["_law_rows_here"] 1 [] (fun us _ => us ++ []) (fun vs _ => vs ++ []) :=
  S.kb_of_binds (T.F__law_nexts.bindsN fun _ _ _ _ _ _ us hl => match us, hl with | [_], _ => rfl) .nil rfl
theorem kb__law_copy_1 {K : S.Frag} {mg : Str → Option Value} (T : Txt K mg) : KBn K (S.fdA K ("_law_copy", none)) ["_law_rows_here"] 1 [] (fun us _ => us ++ []) (fun vs _ => vs ++ []) :=
  S.kb_of_binds (T.F__law_copy.bindsN fun _ _ _ _ _ _ us hl => match us, hl with | [_], _ => rfl) .nil rfl
theorem kb__law_renamed_3 {K : S.Frag} {mg : Str → Option Value} (T : Txt K mg) : KBn K (S.fdA K ("_law_renamed", none)) ["_law_rows_here", "_law_at", "_law_word"] 3 [] (fun us _ => us ++ []) (fun vs _ => vs ++ []) :=
  S.kb_of_binds (T.F__law_renamed.bindsN fun _ _ _ _ _ _ us hl => match us, hl with | [_, _, _], _ => rfl) .nil rfl
theorem kb__law_cell_2 {K : S.Frag} {mg : Str → Option Value} (T : Txt K mg) : KBn K (S.fdA K ("_law_cell", none)) ["_law_script", "_law_k"] 2 [] (fun us _ => us ++ []) (fun vs _ => vs ++ []) :=
  S.kb_of_binds (T.F__law_cell.bindsN fun _ _ _ _ _ _ us hl => match us, hl with | [_, _], _ => rfl) .nil rfl
theorem kb__law_rows_4 {K : S.Frag} {mg : Str → Option Value} (T : Txt K mg) : KBn K (S.fdA K ("_law_rows", none)) ["_law_draw", "_law_words", "_law_many", "_law_longest"] 4 [] (fun us _ => us ++ []) (fun vs _ => vs ++ []) :=
  S.kb_of_binds (T.F__law_rows.bindsN fun _ _ _ _ _ _ us hl => match us, hl with | [_, _, _, _], _ => rfl) .nil rfl
theorem kb__law_changed_3 {K : S.Frag} {mg : Str → Option Value} (T : Txt K mg) : KBn K (S.fdA K ("_law_changed", none)) ["_law_draw", "_law_rows_here", "_law_at"] 3 [] (fun us _ => us ++ []) (fun vs _ => vs ++ []) :=
  S.kb_of_binds (T.F__law_changed.bindsN fun _ _ _ _ _ _ us hl => match us, hl with | [_, _, _], _ => rfl) .nil rfl
theorem kb__law_program_2 {K : S.Frag} {mg : Str → Option Value} (T : Txt K mg) : KBn K (S.fdA K ("_law_program", none)) ["_law_rows_here", "_law_begin"] 2 [] (fun us _ => us ++ []) (fun vs _ => vs ++ []) :=
  S.kb_of_binds (T.F__law_program.bindsN fun _ _ _ _ _ _ us hl => match us, hl with | [_, _], _ => rfl) .nil rfl
theorem kb_Program___eq___2 {K : S.Frag} {mg : Str → Option Value} (T : Txt K mg) : KBn K (S.fdA K ("Program", some "__eq__")) ["self", "other"] 2 [] (fun us _ => us ++ []) (fun vs _ => vs ++ []) :=
  S.kb_of_binds (T.F_Program___eq__.bindsN fun _ _ _ _ _ _ us hl => match us, hl with | [_, _], _ => rfl) .nil rfl
theorem kb_Program___getitem___2 {K : S.Frag} {mg : Str → Option Value} (T : Txt K mg) : KBn K (S.fdA K ("Program", some "__getitem__")) ["self", "at"] 2 [] (fun us _ => us ++ []) (fun vs _ => vs ++ []) :=
  S.kb_of_binds (T.F_Program___getitem__.bindsN fun _ _ _ _ _ _ us hl => match us, hl with | [_, _], _ => rfl) .nil rfl
theorem kb_Place___eq___2 {K : S.Frag} {mg : Str → Option Value} (T : Txt K mg) : KBn K (S.fdA K ("Place", some "__eq__")) ["self", "other"] 2 [] (fun us _ => us ++ []) (fun vs _ => vs ++ []) :=
  S.kb_of_binds (T.F_Place___eq__.bindsN fun _ _ _ _ _ _ us hl => match us, hl with | [_, _], _ => rfl) .nil rfl
end W

namespace W
open PySem PySem.Spec PyProof.Rows L2
section
variable {P : Program} {w : World} {K : S.Frag} {mg : Str → Option Value} {base : Heap}
open S
theorem isi_true {H : Hp} {i : Int} : TyX K H (.int i) (.type "int") := .base (.int i)
def sp_isint (K : S.Frag) : Sp := Sp1 fun x H Q _ => ∃ b, IsI K H x b ∧ Q (.bl b) H
theorem ok_is_integer (T : Txt K mg) : FnOk P w K mg base (L2.CX P w) 1 (He.fAd K ("is_integer", none)) (S.fdA K ("is_integer", none)) ["value"] (sp_isint K) := by
  refine FunD.ok T.F_is_integer sc_is_integer (fun vs H Q E h => S.splen1 h) (fun cdv A outer s H vs Q E hr h => ?_)
  have hu := hu_of hr
  refine ⟨_, (pss_one (ps_ret (pe_and (pe_callB (S.isiK (K := K) rfl) rfl T.n_isinstance S.boot_isinstance (pa_cons (pv 0) (pa_cons (pe_bltn (v := .ty "int") rfl T.n_int S.boot_int rfl) pa_nil))) (pe_one (pe_not (pe_callB (S.isiK (K := K) rfl) rfl T.n_isinstance S.boot_isinstance (pa_cons (pv 0) (pa_cons (pe_bltn (v := .ty "bool") rfl T.n_bool S.boot_bool rfl) pa_nil)))))))), ?_⟩
  obtain ⟨x, rfl, b, hb, q⟩ := h
  cases hb with
  | int i => exact ⟨_, rfl, _, _, _, _, true, rfl, .ty _, isi_true, kit_ty (by decide +kernel), _, rfl, _, rfl, _, _, _, _, false, rfl, .ty _, isi_true, kit_ty (by decide +kernel), _, rfl, q⟩
  | bl b => exact ⟨_, rfl, _, _, _, _, true, rfl, .ty _, .base (.bl b), kit_ty (by decide +kernel), _, rfl, _, rfl, _, _, _, _, true, rfl, .ty _, .base (.bl b), kit_ty (by decide +kernel), _, rfl, q⟩
  | oth h e => exact ⟨_, rfl, _, _, _, _, false, rfl, .ty _, h, e, _, rfl, q⟩
/-- x is an integer from a to c, or not, as b says -/
def Win (K : S.Frag) (H : Hp) (x : V) (a c : Int) (b : Bool) : Prop := (∃ i, x = .int i ∧ b = (decide (a ≤ i) && decide (i ≤ c))) ∨ (IsI K H x false ∧ b = false)
def sp_within (K : S.Frag) : Sp := Sp3 fun x lo hi H Q _ => ∃ a c b, lo = .int a ∧ hi = .int c ∧ Win K H x a c b ∧ Q (.bl b) H
theorem ok_is_within (T : Txt K mg) : FnOk P w K mg base (L2.CX P w) 2 (He.fAd K ("is_within", none)) (S.fdA K ("is_within", none)) ["value", "low", "high"] (sp_within K) := by
  have G_is_integer := ok_is_integer (P := P) (w := w) (base := base) T
  refine FunD.ok T.F_is_within sc_is_within (fun vs H Q E h => S.splen3 h) (fun cdv A outer s H vs Q E hr h => ?_)
  have hu := hu_of hr
  refine ⟨_, (pss_one (ps_ret (pe_and (S.pe_fnS G_is_integer (hr.mono (by decide)) rfl T.g_is_integer T.F_is_integer.kp (kb_is_integer_1 T) S.pas0 (pa_cons (pv 0) pa_nil) pk_nil rfl rfl) (pe_one (pe_chain op_le op_le (pv 1) (pv 0) (pv 2)))))), ?_⟩
  obtain ⟨x, _, _, rfl, a, c, b, rfl, rfl, h, q⟩ := h
  rcases h with ⟨i, rfl, rfl⟩ | ⟨hb, rfl⟩
  · refine ⟨_, rfl, rfl, rfl, _, rfl, true, .int i, _, rfl, _, rfl, _, rfl, _, _, rfl, rfl, _, rfl, ?_⟩
    by_cases e : a ≤ i
    · rw [if_pos (decide_eq_true e)]
      refine ⟨_, rfl, _, _, rfl, rfl, ?_⟩
      simpa [e] using q
    · rw [if_neg (by simpa using e)]
      simpa [e] using q
  · exact ⟨_, rfl, rfl, rfl, _, rfl, false, hb, _, rfl, q⟩
end
end W

namespace W
open PySem PySem.Spec PyProof.Rows L2
section
variable {P : Program} {w : World} {K : S.Frag} {mg : Str → Option Value} {base : Heap}
open S
/-- the values that the law hands about -/
inductive Od (H : Hp) : V → Prop where
  | int (i : Int) : Od H (.int i)
  | non : Od H .non
  | bl (b : Bool) : Od H (.bl b)
  | str (z : Str) : Od H (.str z)
  | tup {a : Addr} {xs : List V} (h : H a = some (.tup xs)) : Od H (.ref a)
  | lst {a : Addr} {xs : List V} (h : H a = some (.lst xs)) : Od H (.ref a)
  | dK {a : Addr} {xs : List (Key × V)} (h : H a = some (.dK xs)) : Od H (.ref a)
theorem Od.mono {H H' : Hp} {x : V} (h : Od H x) (s : Same H H') : Od H' x := by
  cases h with
  | int i => exact .int i
  | non => exact .non
  | bl b => exact .bl b
  | str z => exact .str z
  | tup h => exact .tup (s _ _ h)
  | lst h => exact .lst (s _ _ h)
  | dK h => exact .dK (s _ _ h)
def isInt : V → Bool
  | .int _ => true
  | _ => false
theorem Od.isi {H : Hp} {x : V} (h : Od H x) : IsI K H x (isInt x) := by
  cases h with
  | int i => exact .int i
  | non => exact .oth (.base .non) (kit_ty (by decide +kernel))
  | bl b => exact .bl b
  | str z => exact .oth (.base (.str z)) (kit_ty (by decide +kernel))
  | tup h => exact .oth (.base (.tup h)) (kit_ty (by decide +kernel))
  | lst h => exact .oth (.base (.lst h)) (kit_ty (by decide +kernel))
  | dK h => exact .oth (.base (.dK h)) (kit_ty (by decide +kernel))
/-- an integer from a to b -/
def inR (a b : Int) : V → Bool
  | .int i => decide (a ≤ i) && decide (i ≤ b)
  | _ => false
theorem Od.within {H : Hp} {x : V} {a b : Int} (h : Od H x) : Win K H x a b (inR a b x) := by
  cases h with
  | int i => exact .inl ⟨i, rfl, rfl⟩
  | non => exact .inr ⟨Od.isi .non, rfl⟩
  | bl b => exact .inr ⟨Od.isi (.bl b), rfl⟩
  | str z => exact .inr ⟨Od.isi (.str z), rfl⟩
  | tup h => exact .inr ⟨Od.isi (.tup h), rfl⟩
  | lst h => exact .inr ⟨Od.isi (.lst h), rfl⟩
  | dK h => exact .inr ⟨Od.isi (.dK h), rfl⟩
end
end W

namespace W
open PySem PySem.Spec PyProof.Rows L2
section
variable {P : Program} {w : World} {K : S.Frag} {mg : Str → Option Value} {base : Heap}
open S
theorem ok__law_cell (T : Txt K mg) : FnOk P w K mg base (L2.CX P w) 1 (He.fAd K ("_law_cell", none)) (S.fdA K ("_law_cell", none)) ["_law_script", "_law_k"] (spCellN K) := by
  refine FunD.ok T.F__law_cell sc__law_cell (fun vs H Q E h => S.splen2 h) (fun cdv A outer s H vs Q E hr h => ?_)
  have hu := hu_of hr
  refine ⟨_, (pss_cons (ps_set (i := 2) sc__law_cell.nd rfl (by first | exact Or.inl rfl | exact Or.inr rfl) pe_int)
      (S.pss_cut (ps_if (pt_cmpR op_lt (pv 1) (pe_callB (S.lenK (K := K) rfl) rfl T.n_len S.boot_len (pa_cons (pv 0) pa_nil)) (nomark _)) (pss_one (ps_set (i := 2) sc__law_cell.nd rfl (by first | exact Or.inl rfl | exact Or.inr rfl) (pe_ix (S.ixK (K := K) rfl) (pv 0) (pv 1) (fun _ _ => rfl)))) pss_nil)
      (pss_cons (ps_if (pt_cmpR op_ge (pv 2) (pe_op op_pow pe_int pe_int) (nomark _)) (pss_one (ps_ret (pv 2))) pss_nil)
      (pss_cons (ps_set (i := 3) sc__law_cell.nd rfl (by first | exact Or.inl rfl | exact Or.inr rfl) (pe_op op_mod (pe_callTy call_int1 rfl T.n_int S.boot_int (pa_cons (pe_op op_add (pe_op op_add (pe_op S.op_mulA (pv 2) pe_int) (pe_op S.op_mulA (pv 1) pe_int)) pe_int) pa_nil)) pe_int))
      (pss_cons (ps_set (i := 4) sc__law_cell.nd rfl (by first | exact Or.inl rfl | exact Or.inr rfl) pe_int)
      (pss_cons (ps_for (S.own_of rfl) rfl (pi_range1 rfl T.n_range (pa_cons pe_int pa_nil)) (pg_name (i := 5) sc__law_cell.nd rfl (by first | exact Or.inl rfl | exact Or.inr rfl))
        (pss_cons (ps_set (i := 3) sc__law_cell.nd rfl (by first | exact Or.inl rfl | exact Or.inr rfl) (pe_op op_mod (pe_callTy call_int1 rfl T.n_int S.boot_int (pa_cons (pe_op op_add (pe_op op_add (pe_op S.op_mulA (pv 3) pe_int) (pe_op S.op_mulA (pv 5) pe_int)) pe_int) pa_nil)) pe_int))
      (pss_cons (ps_set (i := 3) sc__law_cell.nd rfl (by first | exact Or.inl rfl | exact Or.inr rfl) (pe_op op_mod (pe_callTy call_int1 rfl T.n_int S.boot_int (pa_cons (pe_op S.op_mulA (pv 3) (pe_op op_add (pe_op op_fdivW (pv 3) pe_int) pe_int)) pa_nil)) pe_int))
      (pss_one (ps_set (i := 4) sc__law_cell.nd rfl (by first | exact Or.inl rfl | exact Or.inr rfl) (pe_op op_add (pe_op S.op_mulA (pv 4) pe_int) (pv 3)))))))
      (pss_one (ps_ret (pv 4))))))))), ?_⟩
  obtain ⟨_, _, rfl, a, ns, k, rfl, rfl, hk, hS, q⟩ := h
  refine ⟨fun τ J => J = H ∧ ∃ c : Int, τ = [some (.ref a), some (.int k), some (.int c), none, none, none], ?_, ?_⟩
  · refine ⟨_, rfl, _, rfl, _, (ns.map V.int).length, rfl, .inl ⟨_, hS, rfl⟩, _, _, rfl, rfl, _, rfl, ?_⟩
    by_cases c : k < ((ns.map V.int).length : Int)
    · obtain ⟨m, rfl⟩ : ∃ m : Nat, k = (m : Int) := ⟨k.toNat, by omega⟩
      rw [List.length_map] at c
      exact iteY (by simpa using c) ⟨_, rfl, _, rfl, .inl ⟨a, _, _, _, rfl, rfl, hS, int_at (by omega), rfl, _, rfl⟩⟩
    · exact iteN (by simpa using c) ⟨rfl, _, rfl⟩
  · rintro τ J ⟨rfl, c, rfl⟩
    refine ⟨_, rfl, _, _, rfl, rfl, ⟨by decide, by decide, by decide⟩, _, _, rfl, rfl, _, rfl, ?_⟩
    refine ite2 (fun h => ⟨_, rfl, q _ ?_⟩) (fun _ => ?_)
    · have h2 : (10 : Int) ^ 18 ≤ c := by simpa using h
      omega
    refine ⟨_, rfl, _, _, rfl, rfl, mul_small (by decide), _, rfl, _, _, rfl, rfl, mul_small (by decide), _, _, rfl, rfl, _, _, rfl, rfl, .inl ⟨_, rfl, _, _, rfl, rfl, (by show (0 : Int) < 2147483647; decide), ?_⟩⟩
    refine ⟨8, rfl, by decide, by decide, for_range (n := 8) (fun i σ J2 => J2 = J ∧ ∃ (x y : Int) (st : Option V), 0 ≤ x ∧ x < 2147483647 ∧ 0 ≤ y ∧ σ = [some (.ref a), some (.int k), some (.int c), some (.int x), some (.int y), st]) ⟨rfl, _, _, none, Int.emod_nonneg _ (by decide), Int.emod_lt_of_pos _ (by decide), Int.le_refl 0, rfl⟩ ?_ ?_⟩
    · rintro i σ J2 hi ⟨rfl, x, y, st, h0, h1, hy, rfl⟩
      refine ⟨_, rfl, _, _, rfl, rfl, mul_small (by decide), _, rfl, _, _, rfl, rfl, mul_small (by decide), _, _, rfl, rfl, _, _, rfl, rfl, .inl ⟨_, rfl, _, _, rfl, rfl, (by show (0 : Int) < 2147483647; decide), ?_⟩⟩
      refine ⟨_, rfl, _, rfl, _, _, rfl, rfl, div_small (by decide) (by decide), _, _, rfl, rfl, _, _, rfl, rfl, mul_smallL (mod_small _ (by decide) (by decide)), .inl ⟨_, rfl, _, _, rfl, rfl, (by show (0 : Int) < 2147483629; decide), ?_⟩⟩
      refine ⟨_, rfl, _, _, rfl, rfl, mul_small (by decide), _, rfl, _, _, rfl, rfl, rfl, _, _, some (.int (0 + (i : Int))), mod_lo _ (by decide), Int.lt_trans (mod_hi _ (by decide)) (by decide), ?_, rfl⟩
      exact Int.add_nonneg (Int.mul_nonneg hy (by decide)) (mod_lo _ (by decide))
    · rintro σ J2 ⟨rfl, x, y, st, _, _, hy, rfl⟩
      exact ⟨_, rfl, q y hy⟩
def spTake : Sp := Sp2 fun x y H Q _ => ∃ (a : Addr) (n m : Int), x = .ref a ∧ H a = some (.lst [.int n]) ∧ y = .int m ∧ 0 < m ∧ m < 2 ^ 64 ∧ ∀ t n', 0 ≤ t → t < m → Q (.int t) (upd H a (.lst [.int n']))
theorem ok__law_take (T : Txt K mg) : FnOk P w K mg base (L2.CX P w) 1 (He.fAd K ("_law_take", none)) (S.fdA K ("_law_take", none)) ["_law_draw", "_law_size"] (spTake) := by
  refine FunD.ok T.F__law_take sc__law_take (fun vs H Q E h => S.splen2 h) (fun cdv A outer s H vs Q E hr h => ?_)
  have hu := hu_of hr
  refine ⟨_, (pss_cons (ps_set (i := 2) sc__law_take.nd rfl (by first | exact Or.inl rfl | exact Or.inr rfl) (pe_op op_mod (pe_callTy call_int1 rfl T.n_int S.boot_int (pa_cons (pe_ix (S.ixK (K := K) rfl) (pv 0) pe_int (fun _ _ => rfl)) pa_nil)) (pv 1)))
      (pss_cons (ps_asg (pe_op op_fdivW (pe_ix (S.ixK (K := K) rfl) (pv 0) pe_int (fun _ _ => rfl)) (pv 1)) (pg_sub (pv 0) pe_int set_list))
      (pss_one (ps_ret (pv 2))))), ?_⟩
  obtain ⟨_, _, rfl, a, n, m, rfl, ha, rfl, h0, h1, q⟩ := h
  refine ⟨_, rfl, .inl ⟨a, _, 0, _, rfl, rfl, .inl (.inl ha), rfl, .inl ⟨_, rfl, _, rfl, _, _, rfl, rfl, h0, ?_⟩⟩⟩
  refine ⟨_, rfl, .inl ⟨a, _, 0, _, rfl, rfl, .inl (.inl ha), rfl, _, rfl, _, _, rfl, rfl, div_small h0 h1, ?_⟩⟩
  exact ⟨_, rfl, a, _, 0, 0, rfl, rfl, ha, rfl, _, rfl, q _ _ (mod_lo _ h0) (mod_hi _ h0)⟩
end
end W

namespace W
open PySem PySem.Spec PyProof.Rows L2
section
variable {P : Program} {w : World} {K : S.Frag} {mg : Str → Option Value} {base : Heap}
open S
/-- the draws at a went on, all else stands -/
structure Dr (a : Addr) (H H' : Hp) : Prop where
  at_ : ∃ m : Int, H' a = some (.lst [.int m])
  kp : ∀ b o, b ≠ a → H b = some o → H' b = some o
theorem Dr.trans {a : Addr} {H H1 H2 : Hp} (x : Dr a H H1) (y : Dr a H1 H2) : Dr a H H2 := ⟨y.at_, fun b o n h => y.kp b o n (x.kp b o n h)⟩
theorem Dr.upd {a : Addr} {H : Hp} {n : Int} : Dr a H (upd H a (.lst [.int n])) := ⟨⟨n, upd_same⟩, fun b o nb h => by rw [upd_ne nb]; exact h⟩
theorem Dr.same {a : Addr} {H H' : Hp} {n : Int} (h : H a = some (.lst [.int n])) (s : Same H H') : Dr a H H' := ⟨⟨n, s _ _ h⟩, fun b o _ h => s b o h⟩
/-- values that do not lean on the draws -/
inductive Oa (a : Addr) (H : Hp) : V → Prop where
  | int (i : Int) : Oa a H (.int i)
  | non : Oa a H .non
  | bl (b : Bool) : Oa a H (.bl b)
  | str (z : Str) : Oa a H (.str z)
  | tup {c : Addr} {xs : List V} (n : c ≠ a) (h : H c = some (.tup xs)) : Oa a H (.ref c)
  | lst {c : Addr} {xs : List V} (n : c ≠ a) (h : H c = some (.lst xs)) : Oa a H (.ref c)
  | dK {c : Addr} {xs : List (Key × V)} (n : c ≠ a) (h : H c = some (.dK xs)) : Oa a H (.ref c)
theorem Oa.od {a : Addr} {H : Hp} {x : V} (h : Oa a H x) : Od H x := by
  cases h with
  | int i => exact .int i
  | non => exact .non
  | bl b => exact .bl b
  | str z => exact .str z
  | tup n h => exact .tup h
  | lst n h => exact .lst h
  | dK n h => exact .dK h
theorem Oa.dr {a : Addr} {H H' : Hp} {x : V} (h : Oa a H x) (d : Dr a H H') : Oa a H' x := by
  cases h with
  | int i => exact .int i
  | non => exact .non
  | bl b => exact .bl b
  | str z => exact .str z
  | tup n h => exact .tup n (d.kp _ _ n h)
  | lst n h => exact .lst n (d.kp _ _ n h)
  | dK n h => exact .dK n (d.kp _ _ n h)
theorem ix3 {H : Hp} {a : Addr} {xs : List V} {v : V} {i : Int} {Q : VK} (ha : H a = some (.lst xs)) (e : atI xs i = some v) (q : Q v H) : rIx K (.ref a) (.int i) H Q := .inl ⟨a, _, _, _, rfl, rfl, .inl (.inl ha), e, q⟩
theorem ixT {H : Hp} {a : Addr} {xs : List V} {v : V} {i : Int} {Q : VK} (ha : H a = some (.tup xs)) (e : atI xs i = some v) (q : Q v H) : rIx K (.ref a) (.int i) H Q := .inr (.inl ⟨a, _, _, _, rfl, rfl, .inl (.inl ha), e, q⟩)
theorem isInt_int {x : V} (h : isInt x = true) : ∃ i, x = .int i := by cases x <;> first | exact ⟨_, rfl⟩ | cases h
theorem inR_not {x : V} {a b : Int} (h : isInt x = false) : inR a b x = false := by cases x <;> first | rfl | cases h
/-- one new thing at r beside what stood -/
theorem dr_same {r : Addr} {H H1 H2 : Hp} (h : Same H H1) (n : H r = none) (d : Dr r H1 H2) : Same H H2 := fun b o e => d.kp b o (ne_of_none e n) (h b o e)
end
end W

namespace W
open PySem PySem.Spec PyProof.Rows L2
section
variable {P : Program} {w : World} {K : S.Frag} {mg : Str → Option Value} {base : Heap}
open S
/-! names -/
abbrev abc : Str := "abcdefghijklmnopqrstuvwxyz"
abbrev keptW : List V := [.str "any", .str "closed", .str "end", .str "open", .str "to"]
def isNm (z : Str) : Bool := (decide (1 ≤ z.length) && decide (z.length ≤ 8)) && (!inV (.str z) keptW && z.cps.toList.all fun c => decide (c ∈ abc.cps.toList))
def nmV : V → Bool
  | .str z => isNm z
  | _ => false
def isStr : V → Bool
  | .str _ => true
  | _ => false
def isBl : V → Bool
  | .bl _ => true
  | _ => false
/-- a text of bounded length, or none -/
def sml : V → Prop
  | .str z => z.length ≤ 1000
  | _ => True
theorem Od.str? {H : Hp} {x : V} (h : Od H x) : ∃ t, TyX K H x t ∧ PySem.W.kitOne K t (.type "str") = some (isStr x) := by
  cases h with
  | int i => exact ⟨_, .base (.int i), kit_ty (r := false) (by decide +kernel)⟩
  | non => exact ⟨_, .base .non, kit_ty (r := false) (by decide +kernel)⟩
  | bl b => exact ⟨_, .base (.bl b), kit_ty (r := false) (by decide +kernel)⟩
  | str z => exact ⟨_, .base (.str z), kit_ty (r := true) (by decide +kernel)⟩
  | tup h => exact ⟨_, .base (.tup h), kit_ty (r := false) (by decide +kernel)⟩
  | lst h => exact ⟨_, .base (.lst h), kit_ty (r := false) (by decide +kernel)⟩
  | dK h => exact ⟨_, .base (.dK h), kit_ty (r := false) (by decide +kernel)⟩
theorem Od.bl? {H : Hp} {x : V} (h : Od H x) : ∃ t, TyX K H x t ∧ PySem.W.kitOne K t (.type "bool") = some (isBl x) := by
  cases h with
  | int i => exact ⟨_, .base (.int i), kit_ty (r := false) (by decide +kernel)⟩
  | non => exact ⟨_, .base .non, kit_ty (r := false) (by decide +kernel)⟩
  | bl b => exact ⟨_, .base (.bl b), kit_ty (r := true) (by decide +kernel)⟩
  | str z => exact ⟨_, .base (.str z), kit_ty (r := false) (by decide +kernel)⟩
  | tup h => exact ⟨_, .base (.tup h), kit_ty (r := false) (by decide +kernel)⟩
  | lst h => exact ⟨_, .base (.lst h), kit_ty (r := false) (by decide +kernel)⟩
  | dK h => exact ⟨_, .base (.dK h), kit_ty (r := false) (by decide +kernel)⟩
theorem all_take {z : Str} {i c : Nat} (h : z.cps[i]? = some c) : z.cps.toList.take (i + 1) = z.cps.toList.take i ++ [c] := by
  rw [List.take_succ, ← Array.getElem?_toList] at *
  rw [h]
  rfl
def spNm (K : S.Frag) : Sp := Sp1 fun x H Q _ => Od H x ∧ sml x ∧ Q (.bl (nmV x)) H
theorem ok_is_name (T : Txt K mg) : FnOk P w K mg base (L2.CX P w) 1 (He.fAd K ("is_name", none)) (S.fdA K ("is_name", none)) ["value"] (spNm K) := by
  refine FunD.ok T.F_is_name sc_is_name (fun vs H Q E h => S.splen1 h) (fun cdv A outer s H vs Q E hr h => ?_)
  have hu := hu_of hr
  refine ⟨_, (pss_cons (ps_if (PW.pt (pw_or (pt_not (pt_val (pe_callB (S.isiK (K := K) rfl) rfl T.n_isinstance S.boot_isinstance (pa_cons (pv 0) (pa_cons (pe_bltn (v := .ty "str") rfl T.n_str S.boot_str rfl) pa_nil))))) (pw_or (pt_not (pt_chain op_le op_le pe_int (pe_callB (S.lenK (K := K) rfl) rfl T.n_len S.boot_len (pa_cons (pv 0) pa_nil)) pe_int)) (pw_or1 (pt_cmpR (S.inK (K := K) rfl) (pv 0) (pe_glob (v := .ref _) rfl T.g_KEPT_WORDS rfl) rfl))))) (pss_one (ps_ret pe_bl)) pss_nil)
      (pss_cons (ps_for (S.own_of rfl) rfl (pi_str (pv 0)) (pg_name (i := 1) sc_is_name.nd rfl (by first | exact Or.inl rfl | exact Or.inr rfl))
        (pss_one (ps_if (pt_cmpR op_notIn_sign (pv 1) (S.pe_globS rfl T.c_LETTERS) rfl) (pss_one (ps_ret pe_bl)) pss_nil)))
      (pss_one (ps_ret pe_bl)))), ?_⟩
  obtain ⟨x, rfl, ox, sx, q⟩ := h
  obtain ⟨t, ty, kt⟩ := ox.str? (K := K)
  refine ⟨_, rfl, _, _, _, _, _, rfl, .ty _, ty, kt, _, rfl, ?_⟩
  cases c1 : isStr x with
  | false =>
    have e : nmV x = false := by cases x <;> first | rfl | cases c1
    rw [e] at q
    exact iteT (iteT q)
  | true =>
    obtain ⟨z, rfl⟩ : ∃ z, x = .str z := by cases x <;> first | exact ⟨_, rfl⟩ | cases c1
    have sz : z.length ≤ 1000 := sx
    have bad : isNm z = false → Q (.bl false) H := fun e => by
      have e2 : nmV (.str z) = false := e
      rw [e2] at q
      exact q
    have q1 : ((1 : Int) ≤ (z.length : Int)) ↔ 1 ≤ z.length := by omega
    have q2 : ((z.length : Int) ≤ 8) ↔ z.length ≤ 8 := by omega
    refine iteF ⟨_, rfl, _, z.length, rfl, ⟨Nat.le_trans sz (by decide), rfl⟩, _, _, rfl, rfl, _, rfl, ?_⟩
    by_cases d1 : 1 ≤ z.length
    · refine iteY (decide_eq_true (by omega)) ⟨_, _, rfl, rfl, _, rfl, ?_⟩
      by_cases d2 : z.length ≤ 8
      · refine iteN (by simpa [q2] using d2) ⟨_, rfl, _, _, rfl, .inr (T.t_KEPT_WORDS H), rfl, rfl, _, rfl, ?_⟩
        cases d3 : inV (.str z) keptW with
        | true => exact iteY rfl (bad (by simp [isNm, d3]))
        | false =>
          refine iteN (by decide) ?_
          refine ⟨_, rfl, z, rfl, for_str (fun i σ J => J = H ∧ (∃ t, σ = [some (.str z), t]) ∧ (z.cps.toList.take i).all (fun c => decide (c ∈ abc.cps.toList)) = true) ⟨rfl, ⟨_, rfl⟩, rfl⟩ ?_ ?_⟩
          · rintro i c σ J hc ⟨rfl, ⟨t, rfl⟩, ha⟩
            refine ⟨_, rfl, _, _, rfl, rfl, _, rfl, ?_⟩
            by_cases d4 : c ∈ abc.cps.toList
            · refine iteN (by simp [d4]) ⟨rfl, ⟨_, rfl⟩, ?_⟩
              rw [all_take hc, List.all_append, ha, List.all_cons, decide_eq_true d4]
              rfl
            · refine iteY (by simp [d4]) (bad ?_)
              have m : c ∈ z.cps.toList := by
                rw [← Array.getElem?_toList] at hc
                exact List.mem_of_getElem? hc
              have e : (z.cps.toList.all fun c => decide (c ∈ abc.cps.toList)) = false := by
                rw [List.all_eq_false]
                exact ⟨c, m, by simp [d4]⟩
              simp only [isNm, e, Bool.and_false]
          · rintro σ J ⟨rfl, ⟨t, rfl⟩, ha⟩
            have e : nmV (.str z) = true := by
              have ha2 : (z.cps.toList.all fun c => decide (c ∈ abc.cps.toList)) = true := by
                rw [show z.cps.size = z.cps.toList.length by simp, List.take_length] at ha
                exact ha
              show isNm z = true
              simp only [isNm, ha2, d3, decide_eq_true d1, decide_eq_true d2]
              rfl
            rw [e] at q
            exact q
      · exact iteY (by simpa [q2] using d2) (bad (by simp [isNm, d2]))
    · exact iteN (fun c => d1 (by have := of_decide_eq_true c; omega)) ⟨_, rfl, iteT (bad (by simp [isNm, d1]))⟩
theorem ok_BadPlace___init__ (T : Txt K mg) : FnOk P w K mg base (L2.CX P w) 1 (He.fAd K ("BadPlace", some "__init__")) (S.fdA K ("BadPlace", some "__init__")) ["self", "why"] (sp_err (He.ga K "BadPlace") "why") := by
  refine FunD.ok T.F_BadPlace___init__ sc_BadPlace___init__ (fun vs H Q E h => S.splen2 h) (fun cdv A outer s H vs Q E hr h => ?_)
  have hu := hu_of hr
  refine ⟨_, (pss_one (S.ps_ostK (K := K) rfl (pv 0) (pv 1) rfl)), ?_⟩
  obtain ⟨_, y, rfl, a, rfl, ha, k⟩ := h
  exact ⟨_, rfl, _, rfl, a, _, rfl, T.ox_BadPlace, T.xn_BadPlace_why, .inl ⟨ha, k⟩⟩
def intOf : V → Int
  | .int i => i
  | _ => 0
def mostV (l m : V) : V := if m = .non then l else m
/-- what is wrong with these four, or "" -/
def dueP (n l m t : V) : Str := if !nmV n then "name" else if !inR 1 6 l then "least" else if !inR (intOf l) 6 (mostV l m) then "most" else if !isBl t then "let" else ""
def fldP (n l m t : V) : List (Str × V) := [("name", n), ("least", l), ("most", m), ("let", t)]
theorem inR_int {a b : Int} {x : V} (h : inR a b x = true) : ∃ i, x = .int i ∧ a ≤ i ∧ i ≤ b := by
  cases x with
  | int i => simp [inR] at h; exact ⟨i, rfl, h⟩
  | _ => cases h
def spPlace (K : S.Frag) : Sp := Sp5 fun self n l m t H Q E => ∃ p dx, self = .ref p ∧ H p = some (.ins (He.ga K "Place") dx []) ∧ Od H n ∧ sml n ∧ Od H l ∧ Od H m ∧ Od H t ∧
  (dueP n l m t = "" → ∀ H', (∀ b o, H b = some o → b ≠ p → H' b = some o) → H' p = some (.ins (He.ga K "Place") dx (fldP n l (mostV l m) t)) → Q .non H') ∧
  (dueP n l m t ≠ "" → ∀ d H', H d = none → Same H H' → H' d = some (.xd [("why", .str (dueP n l m t))]) → E (.ref (He.ga K "BadPlace")) (some d) H')
theorem ok_Place___init__ (T : Txt K mg) : FnOk P w K mg base (L2.CX P w) 3 (He.fAd K ("Place", some "__init__")) (S.fdA K ("Place", some "__init__")) ["self", "name", "least", "most", "let"] (spPlace K) := by
  have G_is_name := ok_is_name (P := P) (w := w) (base := base) T
  have G_BadPlace___init__ := ok_BadPlace___init__ (P := P) (w := w) (base := base) T
  have G_is_within := ok_is_within (P := P) (w := w) (base := base) T
  refine FunD.ok T.F_Place___init__ sc_Place___init__ (fun vs H Q E h => S.splen5 h) (fun cdv A outer s H vs Q E hr h => ?_)
  have hu := hu_of hr
  refine ⟨_, (pss_cons (ps_if (pt_not (pt_val (S.pe_fnS G_is_name (hr.mono (by decide)) rfl T.g_is_name T.F_is_name.kp (kb_is_name_1 T) S.pas0 (pa_cons (pv 1) pa_nil) pk_nil rfl rfl))) (pss_one (S.ps_raiseO rfl (takes_of rfl rfl rfl rfl) T.ox_BadPlace T.xi_BadPlace T.xt_BadPlace G_BadPlace___init__ (hr.mono (by decide)) (kb_BadPlace___init___2 T) rfl T.g_BadPlace (pa_cons pe_str pa_nil))) pss_nil)
      (pss_cons (ps_if (pt_not (pt_val (S.pe_fnS G_is_within (hr.mono (by decide)) rfl T.g_is_within T.F_is_within.kp (kb_is_within_3 T) S.pas0 (pa_cons (pv 2) (pa_cons pe_int (pa_cons (S.pe_globI rfl T.c_MOST_TICKS) pa_nil))) pk_nil rfl rfl))) (pss_one (S.ps_raiseO rfl (takes_of rfl rfl rfl rfl) T.ox_BadPlace T.xi_BadPlace T.xt_BadPlace G_BadPlace___init__ (hr.mono (by decide)) (kb_BadPlace___init___2 T) rfl T.g_BadPlace (pa_cons pe_str pa_nil))) pss_nil)
      (S.pss_cut (ps_if (pt_cmpR op_isN (pv 3) pe_non (nomark _)) (pss_one (ps_set (i := 3) sc_Place___init__.nd rfl (by first | exact Or.inl rfl | exact Or.inr rfl) (pv 2))) pss_nil)
      (pss_cons (ps_if (pt_not (pt_val (S.pe_fnS G_is_within (hr.mono (by decide)) rfl T.g_is_within T.F_is_within.kp (kb_is_within_3 T) S.pas0 (pa_cons (pv 3) (pa_cons (pv 2) (pa_cons (S.pe_globI rfl T.c_MOST_TICKS) pa_nil))) pk_nil rfl rfl))) (pss_one (S.ps_raiseO rfl (takes_of rfl rfl rfl rfl) T.ox_BadPlace T.xi_BadPlace T.xt_BadPlace G_BadPlace___init__ (hr.mono (by decide)) (kb_BadPlace___init___2 T) rfl T.g_BadPlace (pa_cons pe_str pa_nil))) pss_nil)
      (pss_cons (ps_if (pt_not (pt_val (pe_callB (S.isiK (K := K) rfl) rfl T.n_isinstance S.boot_isinstance (pa_cons (pv 4) (pa_cons (pe_bltn (v := .ty "bool") rfl T.n_bool S.boot_bool rfl) pa_nil))))) (pss_one (S.ps_raiseO rfl (takes_of rfl rfl rfl rfl) T.ox_BadPlace T.xi_BadPlace T.xt_BadPlace G_BadPlace___init__ (hr.mono (by decide)) (kb_BadPlace___init___2 T) rfl T.g_BadPlace (pa_cons pe_str pa_nil))) pss_nil)
      (pss_cons (S.ps_fldK (K := K) rfl (pv 0) (pv 1) rfl)
      (pss_cons (S.ps_fldK (K := K) rfl (pv 0) (pv 2) rfl)
      (pss_cons (S.ps_fldK (K := K) rfl (pv 0) (pv 3) rfl)
      (pss_one (S.ps_fldK (K := K) rfl (pv 0) (pv 4) rfl)))))))))), ?_⟩
  obtain ⟨_, n, l, m, t, rfl, p, dx, rfl, hp, on, sn, ol, om, ot, k1, k2⟩ := h
  refine ⟨_, rfl, rfl, rfl, n, rfl, on, sn, _, rfl, ?_⟩
  cases c1 : nmV n with
  | false =>
    have e : dueP n l m t = "name" := by simp [dueP, c1]
    rw [e] at k2
    exact iteT (raise_err (.str "name") (k2 (by decide +kernel)))
  | true =>
    refine iteF ⟨_, rfl, rfl, rfl, l, _, _, rfl, 1, 6, _, rfl, rfl, ol.within, _, rfl, ?_⟩
    cases c2 : inR 1 6 l with
    | false =>
      have e : dueP n l m t = "least" := by simp [dueP, c1, c2]
      rw [e] at k2
      exact iteT (raise_err (.str "least") (k2 (by decide +kernel)))
    | true =>
      obtain ⟨i, rfl, i1, i2⟩ := inR_int c2
      refine iteF ⟨fun τ J => J = H ∧ τ = [some (.ref p), some n, some (.int i), some (mostV (.int i) m), some t], ?_, ?_⟩
      · refine ⟨_, rfl, rfl, _, rfl, ?_⟩
        by_cases hm : m = .non
        · exact iteY (by simp [hm]) ⟨_, rfl, rfl, by simp [mostV, hm]; rfl⟩
        · exact iteN (by simp [hm]) ⟨rfl, by simp [mostV, hm]; rfl⟩
      · rintro τ J ⟨rfl, rfl⟩
        have om2 : Od J (mostV (.int i) m) := by
          unfold mostV
          split
          · exact .int i
          · exact om
        refine ⟨_, rfl, _, rfl, rfl, rfl, _, _, _, rfl, i, 6, _, rfl, rfl, om2.within, _, rfl, ?_⟩
        cases c3 : inR i 6 (mostV (.int i) m) with
        | false =>
          have e : dueP n (.int i) m t = "most" := by simp [dueP, c1, c2, c3, intOf]
          rw [e] at k2
          exact iteT (raise_err (.str "most") (k2 (by decide +kernel)))
        | true =>
          obtain ⟨ty, h1, h2⟩ := ot.bl? (K := K)
          refine iteF ⟨_, rfl, _, _, _, _, _, rfl, .ty _, h1, h2, _, rfl, ?_⟩
          cases c4 : isBl t with
          | false =>
            have e : dueP n (.int i) m t = "let" := by simp [dueP, c1, c2, c3, c4, intOf]
            rw [e] at k2
            exact iteT (raise_err (.str "let") (k2 (by decide +kernel)))
          | true =>
            refine iteF ⟨_, rfl, _, rfl, p, _, dx, _, rfl, hp, T.cl_Place, T.na_Place_name, (by show 0 < 1000; decide), ?_⟩
            refine ⟨_, rfl, _, rfl, p, _, dx, _, rfl, upd_same, T.cl_Place, T.na_Place_least, (by show 1 < 1000; decide), ?_⟩
            refine ⟨_, rfl, _, rfl, p, _, dx, _, rfl, upd_same, T.cl_Place, T.na_Place_most, (by show 2 < 1000; decide), ?_⟩
            refine ⟨_, rfl, _, rfl, p, _, dx, _, rfl, upd_same, T.cl_Place, T.na_Place_let, (by show 3 < 1000; decide), ?_⟩
            exact k1 (by simp [dueP, c1, c2, c3, c4, intOf]) _ (fun b o q nb => by rw [upd_ne nb, upd_ne nb, upd_ne nb, upd_ne nb]; exact q) upd_same
section
variable (n l m t : V)
theorem lk_name : (fldP n l m t).lookup ("name" : Str) = some n := by
  unfold fldP
  rw [lookup_put, if_pos rfl]
theorem lk_least : (fldP n l m t).lookup ("least" : Str) = some l := by
  unfold fldP
  rw [lookup_put, if_neg (by decide +kernel), lookup_put, if_pos rfl]
theorem lk_most : (fldP n l m t).lookup ("most" : Str) = some m := by
  unfold fldP
  rw [lookup_put, if_neg (by decide +kernel), lookup_put, if_neg (by decide +kernel), lookup_put, if_pos rfl]
theorem lk_let : (fldP n l m t).lookup ("let" : Str) = some t := by
  unfold fldP
  rw [lookup_put, if_neg (by decide +kernel), lookup_put, if_neg (by decide +kernel), lookup_put, if_neg (by decide +kernel), lookup_put, if_pos rfl]
theorem lk_key : (fldP n l m t).lookup ("place_key" : Str) = none := by
  unfold fldP
  rw [lookup_put, if_neg (by decide +kernel), lookup_put, if_neg (by decide +kernel), lookup_put, if_neg (by decide +kernel), lookup_put, if_neg (by decide +kernel)]
  rfl
end
/-- a place stands at p -/
def PlAt (K : S.Frag) (H : Hp) (p : Addr) (n l m t : V) : Prop := ∃ dx, H p = some (.ins (He.ga K "Place") dx (fldP n l m t))
theorem PlAt.same {H H' : Hp} {p : Addr} {n l m t : V} (h : PlAt K H p n l m t) (s : Same H H') : PlAt K H' p n l m t := let ⟨dx, e⟩ := h; ⟨dx, s _ _ e⟩
def spKey (K : S.Frag) : Sp := Sp1 fun x H Q _ => ∃ p n l m t, x = .ref p ∧ PlAt K H p n l m t ∧ ∀ k, H k = none → Q (.ref k) (upd H k (.tup [n, l, m, t]))
theorem ok_Place_place_key (T : Txt K mg) : FnOk P w K mg base (L2.CX P w) 1 (He.fAd K ("Place", some "place_key")) (S.fdA K ("Place", some "place_key")) ["self"] (spKey K) := by
  refine FunD.ok T.F_Place_place_key sc_Place_place_key (fun vs H Q E h => S.splen1 h) (fun cdv A outer s H vs Q E hr h => ?_)
  have hu := hu_of hr
  refine ⟨_, (pss_one (ps_ret (pe_tup (pa_cons (S.pe_fldK (K := K) rfl (pv 0) rfl) (pa_cons (S.pe_fldK (K := K) rfl (pv 0) rfl) (pa_cons (S.pe_fldK (K := K) rfl (pv 0) rfl) (pa_cons (S.pe_fldK (K := K) rfl (pv 0) rfl) pa_nil))))))), ?_⟩
  obtain ⟨_, rfl, p, n, l, m, t, rfl, ⟨dx, hp⟩, q⟩ := h
  refine ⟨_, rfl, p, _, dx, _, _, rfl, hp, T.cl_Place, T.na_Place_name, lk_name _ _ _ _, ?_⟩
  refine ⟨_, rfl, p, _, dx, _, _, rfl, hp, T.cl_Place, T.na_Place_least, lk_least _ _ _ _, ?_⟩
  refine ⟨_, rfl, p, _, dx, _, _, rfl, hp, T.cl_Place, T.na_Place_most, lk_most _ _ _ _, ?_⟩
  refine ⟨_, rfl, p, _, dx, _, _, rfl, hp, T.cl_Place, T.na_Place_let, lk_let _ _ _ _, ?_⟩
  exact ⟨by show 4 ≤ sizeLine; decide, q⟩
def spPEq (K : S.Frag) : Sp := Sp2 fun x y H Q _ => ∃ p n l m t q n' l' m' t', x = .ref p ∧ y = .ref q ∧ PlAt K H p n l m t ∧ PlAt K H q n' l' m' t' ∧ [n, l, m, t].all sca = true ∧ [n', l', m', t'].all sca = true ∧
  ∀ H', Same H H' → Q (.bl (PyData.eqvAll ([n, l, m, t].map dat) ([n', l', m', t'].map dat))) H'
theorem ok_Place___eq__ (T : Txt K mg) : FnOk P w K mg base (L2.CX P w) 2 (He.fAd K ("Place", some "__eq__")) (S.fdA K ("Place", some "__eq__")) ["self", "other"] (spPEq K) := by
  have G_Place_place_key := ok_Place_place_key (P := P) (w := w) (base := base) T
  refine FunD.ok T.F_Place___eq__ sc_Place___eq__ (fun vs H Q E h => S.splen2 h) (fun cdv A outer s H vs Q E hr h => ?_)
  have hu := hu_of hr
  refine ⟨_, (pss_one (ps_ret (pe_and (pe_callB (S.isiK (K := K) rfl) rfl T.n_isinstance S.boot_isinstance (pa_cons (pv 1) (pa_cons (pe_glob (v := .ref _) rfl T.g_Place rfl) pa_nil))) (pe_one (pe_cmpR (S.eqDK (K := K) rfl (S.hu64 hr)) (S.pe_mtS0 (pv 0) T.cl_Place T.me_Place_place_key G_Place_place_key (hr.mono (by decide)) (kb_Place_place_key_1 T) S.pas0  pk_nil rfl rfl) (S.pe_mtS0 (pv 1) T.cl_Place T.me_Place_place_key G_Place_place_key (hr.mono (by decide)) (kb_Place_place_key_1 T) S.pas0  pk_nil rfl rfl) (nomark _)))))), ?_⟩
  obtain ⟨_, _, rfl, p, n, l, m, t, q, n', l', m', t', rfl, rfl, hp, hq, h1, h2, k⟩ := h
  obtain ⟨dp, ep⟩ := id hp
  obtain ⟨dq, eq⟩ := id hq
  refine ⟨_, rfl, _, _, _, _, true, rfl, .own _, T.is_Place.ty T.cl_Place eq, T.ko_Place_Place, _, rfl, ?_⟩
  refine ⟨_, rfl, p, dp, _, rfl, ep, lk_key _ _ _ _, rfl, rfl, _, rfl, p, n, l, m, t, rfl, hp, fun a ha => ?_⟩
  have s1 := Same.new (o := .tup [n, l, m, t]) ha
  refine ⟨_, rfl, q, dq, _, rfl, s1 _ _ eq, lk_key _ _ _ _, rfl, rfl, _, rfl, q, n', l', m', t', rfl, hq.same s1, fun b hb => ?_⟩
  have s2 := Same.new (o := .tup [n', l', m', t']) hb
  exact rEqT (.inl (.inl (s2 _ _ upd_same))) (.inl (.inl upd_same)) h1 h2 (k _ (s1.trans s2))
end
end W

namespace W
open PySem PySem.Spec PyProof.Rows L2
section
variable {P : Program} {w : World} {K : S.Frag} {mg : Str → Option Value} {base : Heap}
open S
/-! drawn names -/
theorem str_len (z : Str) : z.length = z.cps.toList.length := by simp [Str.length]
theorem app_cps (x y : Str) : (x ++ y).cps.toList = x.cps.toList ++ y.cps.toList := by
  show ((⟨x.cps ++ y.cps⟩ : Str)).cps.toList = _
  simp
theorem app_len (x y : Str) : (x ++ y).length = x.length + y.length := by rw [str_len, str_len, str_len, app_cps, List.length_append]
theorem eqV_str (a b : Str) : eqV (.str a) (.str b) = decide (a = b) := by
  show (a == b) = _
  rw [Bool.eq_iff_iff]
  simp
theorem inV_str (z : Str) (ws : List Str) : inV (.str z) (ws.map V.str) = decide (z ∈ ws) := by
  unfold inV
  rw [List.any_map, Bool.eq_iff_iff]
  simp only [List.any_eq_true, Function.comp, eqV_str, decide_eq_true_eq]
  constructor
  · rintro ⟨x, h, rfl⟩
    exact h
  · intro h
    exact ⟨z, h, rfl⟩
theorem flat_strs (ws : List Str) : (ws.map V.str).all flatV = true := by
  rw [List.all_map, List.all_eq_true]
  exact fun _ _ => rfl
/-- as many holes as pigeons -/
theorem nodup_le {α : Type} [DecidableEq α] : ∀ {l m : List α}, l.Nodup → (∀ x ∈ l, x ∈ m) → l.length ≤ m.length
  | [], m, _, _ => Nat.zero_le _
  | a :: l, m, h, s => by
    have ha : a ∈ m := s a List.mem_cons_self
    have hn := List.nodup_cons.mp h
    have e : (m.erase a).length = m.length - 1 := List.length_erase_of_mem ha
    have p : 0 < m.length := List.length_pos_of_mem ha
    have r : l.length ≤ (m.erase a).length := nodup_le hn.2 fun x hx => by
      have hx2 := s x (List.mem_cons_of_mem _ hx)
      have ne : x ≠ a := fun z => hn.1 (z ▸ hx)
      exact (List.mem_erase_of_ne ne).mpr hx2
    rw [List.length_cons]
    omega
theorem atI_lt {α : Type} {xs : List α} {i : Int} {v : α} (h0 : 0 ≤ i) (h : xs[i.toNat]? = some v) : atI xs i = some v := by
  obtain ⟨k, rfl⟩ : ∃ k : Nat, i = (k : Int) := ⟨i.toNat, by omega⟩
  exact atI_nat (by simpa using h)
def signs : List Str := abc.cps.toList.map fun c => ⟨#[c]⟩
theorem signs_nd : signs.Nodup := by decide +kernel
theorem signs_len : signs.length = 26 := by decide +kernel
theorem signs_nm : signs.all isNm = true := by decide +kernel
/-- used at u: the texts ws, fewer than the letters -/
def spName (K : S.Frag) : Sp := Sp2 fun x y H Q _ => ∃ (a u : Addr) (n : Int) (ws : List Str), x = .ref a ∧ y = .ref u ∧ a ≠ u ∧ H a = some (.lst [.int n]) ∧ H u = some (.lst (ws.map V.str)) ∧ ws.length < 26 ∧
  ∀ z H', isNm z = true → z ∉ ws → Dr a H H' → Q (.str z) H'
theorem ok__law_name (T : Txt K mg) : FnOk P w K mg base (L2.CX P w) 2 (He.fAd K ("_law_name", none)) (S.fdA K ("_law_name", none)) ["_law_draw", "_law_used"] (spName K) := by
  have G__law_take := ok__law_take (P := P) (w := w) (base := base) T
  refine FunD.ok T.F__law_name sc__law_name (fun vs H Q E h => S.splen2 h) (fun cdv A outer s H vs Q E hr h => ?_)
  have hu := hu_of hr
  refine ⟨_, (pss_cons (ps_set (i := 2) sc__law_name.nd rfl (by first | exact Or.inl rfl | exact Or.inr rfl) pe_str)
      (pss_cons (ps_set (i := 3) sc__law_name.nd rfl (by first | exact Or.inl rfl | exact Or.inr rfl) pe_str)
      (pss_cons (ps_for (S.own_of rfl) rfl (pi_range1 rfl T.n_range (pa_cons (pe_op op_add pe_int (S.pe_fnS G__law_take (hr.mono (by decide)) rfl T.g__law_take T.F__law_take.kp (kb__law_take_2 T) S.pas0 (pa_cons (pv 0) (pa_cons pe_int pa_nil)) pk_nil rfl rfl)) pa_nil)) (pg_name (i := 4) sc__law_name.nd rfl (by first | exact Or.inl rfl | exact Or.inr rfl))
        (pss_one (ps_set (i := 3) sc__law_name.nd rfl (by first | exact Or.inl rfl | exact Or.inr rfl) (pe_op op_add_str (pv 3) (pe_ix (S.ixK (K := K) rfl) (pv 2) (S.pe_fnS G__law_take (hr.mono (by decide)) rfl T.g__law_take T.F__law_take.kp (kb__law_take_2 T) S.pas0 (pa_cons (pv 0) (pa_cons pe_int pa_nil)) pk_nil rfl rfl) (fun _ _ => rfl))))))
      (S.pss_cut (ps_if (PW.pt (pw_and (pt_cmpR (S.notInK (K := K) rfl) (pv 3) (pv 1) rfl) (pw_and1 (pt_cmpR (S.notInK (K := K) rfl) (pv 3) (pe_lst (pa_cons pe_str (pa_cons pe_str (pa_cons pe_str (pa_cons pe_str (pa_cons pe_str pa_nil)))))) rfl)))) (pss_one (ps_ret (pv 3))) pss_nil)
      (pss_cons (ps_for (S.own_of rfl) rfl (pi_str (pv 2)) (pg_name (i := 5) sc__law_name.nd rfl (by first | exact Or.inl rfl | exact Or.inr rfl))
        (pss_one (ps_if (pt_cmpR (S.notInK (K := K) rfl) (pv 5) (pv 1) rfl) (pss_one (ps_ret (pv 5))) pss_nil)))
      (pss_one (ps_ret (pv 3)))))))), ?_⟩
  obtain ⟨_, _, rfl, a, u, n, ws, rfl, rfl, nau, ha, hu0, hw, q⟩ := h
  refine ⟨_, rfl, rfl, rfl, _, _, rfl, a, n, 8, rfl, ha, rfl, by decide, by decide, fun t n' t0 t1 => ⟨_, _, rfl, rfl, _, rfl, by omega, by omega, ?_⟩⟩
  refine for_range (n := (1 + t).toNat) (fun i σ J => Dr a H J ∧ ∃ z : Str, ∃ v, σ = [some (.ref a), some (.ref u), some (.str abc), some (.str z), v, none] ∧ z.length = i ∧ (z.cps.toList.all fun c => decide (c ∈ abc.cps.toList)) = true) ⟨Dr.upd, _, _, rfl, rfl, rfl⟩ ?_ ?_
  · rintro i σ J hi ⟨d, z, v, rfl, hz, hall⟩
    obtain ⟨m, em⟩ := d.at_
    refine ⟨_, rfl, _, rfl, _, rfl, rfl, rfl, _, _, rfl, a, m, 26, rfl, em, rfl, by decide, by decide, fun c n2 c0 c1 => ?_⟩
    have h26 : abc.cps.toList.length = 26 := by decide +kernel
    have hlt : c.toNat < abc.cps.toList.length := by omega
    have hmem : abc.cps.toList[c.toNat] ∈ abc.cps.toList := List.getElem_mem hlt
    refine .inr (.inr ⟨abc, c, abc.cps.toList[c.toNat], rfl, rfl, by decide +kernel, atI_lt (by omega) (List.getElem?_eq_getElem hlt), z, _, rfl, rfl, ?_, d.trans Dr.upd, _, _, rfl, ?_, ?_⟩)
    · have e1 : (⟨#[abc.cps.toList[c.toNat]]⟩ : Str).length = 1 := rfl
      rw [e1]
      exact Nat.le_trans (show z.length + 1 ≤ 1000 by omega) (by decide)
    · rw [app_len, hz]
      rfl
    · rw [app_cps, List.all_append, hall]
      show (true && List.all [abc.cps.toList[c.toNat]] _) = true
      rw [List.all_cons, decide_eq_true hmem]
      rfl
  · rintro σ J ⟨d, z, v, rfl, hz, hall⟩
    have hz1 : 1 ≤ z.length := by omega
    have hz8 : z.length ≤ 8 := by omega
    have hu1 : J u = some (.lst (ws.map V.str)) := d.kp u _ nau.symm hu0
    refine ⟨fun τ J2 => Dr a H J2 ∧ τ = [some (.ref a), some (.ref u), some (.str abc), some (.str z), v, none], ?_, ?_⟩
    · refine ⟨_, rfl, _, rfl, u, _, rfl, .inl (.inl (.inl hu1)), rfl, flat_strs ws, _, rfl, ?_⟩
      by_cases c1 : z ∈ ws
      · refine iteN (by rw [inV_str, decide_eq_true c1]; decide) (iteF ⟨d, rfl⟩)
      · refine iteY (by rw [inV_str, decide_eq_false c1]; rfl) ⟨_, rfl, by show 5 ≤ sizeLine; decide, fun p hp => ?_⟩
        have s1 := Same.new (o := .lst keptW) hp
        have d1 : Dr a H (upd J p (.lst keptW)) := d.trans (let ⟨m, e⟩ := d.at_; Dr.same e s1)
        refine ⟨p, _, rfl, .inl (.inl (.inl upd_same)), rfl, rfl, _, rfl, ?_⟩
        cases c2 : inV (.str z) keptW with
        | true => exact iteN (by decide) ⟨d1, rfl⟩
        | false =>
          refine iteY rfl ⟨_, rfl, q z _ ?_ c1 d1⟩
          simp only [isNm, hall, c2, decide_eq_true hz1, decide_eq_true hz8]
          rfl
    · rintro τ J2 ⟨d2, rfl⟩
      have hu2 : J2 u = some (.lst (ws.map V.str)) := d2.kp u _ nau.symm hu0
      refine ⟨_, rfl, abc, rfl, for_str (fun i σ J3 => J3 = J2 ∧ (∃ v6, σ = [some (.ref a), some (.ref u), some (.str abc), some (.str z), v, v6]) ∧ ∀ c ∈ abc.cps.toList.take i, (⟨#[c]⟩ : Str) ∈ ws) ⟨rfl, ⟨_, rfl⟩, fun c h => by simp at h⟩ ?_ ?_⟩
      · rintro i c σ J3 hc ⟨rfl, ⟨v6, rfl⟩, hin⟩
        have hm : c ∈ abc.cps.toList := by
          rw [← Array.getElem?_toList] at hc
          exact List.mem_of_getElem? hc
        refine ⟨_, rfl, _, rfl, u, _, rfl, .inl (.inl (.inl hu2)), rfl, flat_strs ws, _, rfl, ?_⟩
        by_cases c1 : (⟨#[c]⟩ : Str) ∈ ws
        · refine iteN (by rw [inV_str, decide_eq_true c1]; decide) ⟨rfl, ⟨_, rfl⟩, fun e he => ?_⟩
          rw [all_take hc] at he
          rcases List.mem_append.mp he with h | h
          · exact hin e h
          · rw [List.mem_singleton.mp h]
            exact c1
        · refine iteY (by rw [inV_str, decide_eq_false c1]; rfl) ⟨_, rfl, q _ _ ?_ c1 d2⟩
          exact List.all_eq_true.mp signs_nm _ (List.mem_map.mpr ⟨c, hm, rfl⟩)
      · rintro σ J3 ⟨rfl, ⟨v6, rfl⟩, hin⟩
        have full : ∀ x ∈ signs, x ∈ ws := fun x hx => by
          obtain ⟨c, hc, rfl⟩ := List.mem_map.mp hx
          refine hin c ?_
          rw [show abc.cps.size = abc.cps.toList.length by simp, List.take_length]
          exact hc
        have := nodup_le signs_nd full
        rw [signs_len] at this
        omega
end
end W

namespace W
open PySem PySem.Spec PyProof.Rows L2
section
variable {P : Program} {w : World} {K : S.Frag} {mg : Str → Option Value} {base : Heap}
open S
/-! equal items -/
def dupB (f : V → V → Bool) (xs : List V) : Bool := (List.range xs.length).any fun i => match xs[i]? with | some y => (xs.take i).any fun z => f z y | none => false
def spEqI (K : S.Frag) : Sp := Sp1 fun x H Q _ => ∃ p xs n f, x = .ref p ∧ SqX K H p xs ∧ n ≤ 60 ∧ xs.length < 1000 ∧ (∀ H', Same H H' → ∀ y ∈ xs, ∀ z ∈ xs, EqOk K H' n z y (f z y)) ∧ ∀ H', Same H H' → Q (.bl (dupB f xs)) H'
theorem ok_has_equal_items (T : Txt K mg) : FnOk P w K mg base (L2.CX P w) 1 (He.fAd K ("has_equal_items", none)) (S.fdA K ("has_equal_items", none)) ["items"] (spEqI K) := by
  refine FunD.ok T.F_has_equal_items sc_has_equal_items (fun vs H Q E h => S.splen1 h) (fun cdv A outer s H vs Q E hr h => ?_)
  have hu := hu_of hr
  refine ⟨_, (pss_cons (ps_for (S.own_of rfl) rfl (pi_range1 rfl T.n_range (pa_cons (pe_callB (S.lenK (K := K) rfl) rfl T.n_len S.boot_len (pa_cons (pv 0) pa_nil)) pa_nil)) (pg_name (i := 1) sc_has_equal_items.nd rfl (by first | exact Or.inl rfl | exact Or.inr rfl))
        (pss_one (ps_if (pt_cmpR (S.inGK (K := K) rfl (S.hu64 hr)) (pe_ix (S.ixK (K := K) rfl) (pv 0) (pv 1) (fun _ _ => rfl)) (pe_slice (S.slSeqK (K := K) rfl) (pv 0) po_none (po_some (pv 1))) rfl) (pss_one (ps_ret pe_bl)) pss_nil)))
      (pss_one (ps_ret pe_bl))), ?_⟩
  obtain ⟨_, rfl, p, xs, n, f, rfl, hS, hn, hl, he, q⟩ := h
  refine ⟨_, rfl, _, _, rfl, lenVX hS, _, rfl, by omega, by omega, ?_⟩
  refine for_range (n := xs.length) (fun i σ J => Same H J ∧ (∃ t, σ = [some (.ref p), t]) ∧ ∀ j y, j < i → xs[j]? = some y → (xs.take j).any (fun z => f z y) = false) ⟨fun _ _ h => h, ⟨_, rfl⟩, fun _ _ h => absurd h (Nat.not_lt_zero _)⟩ ?_ ?_
  · rintro i σ J hi ⟨sJ, ⟨t, rfl⟩, no⟩
    have ey := List.getElem?_eq_getElem hi
    have e0 : ((0 : Int) + (i : Int)) = (i : Int) := by omega
    rw [e0]
    refine ⟨_, rfl, _, rfl, ixX (hS.same sJ) (atI_nat ey) ⟨_, rfl, _, rfl, _, rfl, sl_takeX (hS.same sJ) hi fun p' J2 hp s2 h2 => ⟨p', _, n, fun z => f z xs[i], rfl, h2, hn, fun z hz => he J2 (sJ.trans s2) _ (List.getElem_mem hi) _ (List.mem_of_mem_take hz), _, rfl, ?_⟩⟩⟩
    cases c : (xs.take i).any fun z => f z xs[i] with
    | true =>
      refine iteY rfl ?_
      have e : dupB f xs = true := by
        unfold dupB
        rw [List.any_eq_true]
        exact ⟨i, List.mem_range.mpr hi, by rw [ey]; exact c⟩
      rw [← e]
      exact q J2 (sJ.trans s2)
    | false =>
      refine iteN (by decide) ⟨sJ.trans s2, ⟨_, rfl⟩, fun j y hj hy => ?_⟩
      rcases Nat.lt_succ_iff_lt_or_eq.mp hj with h | rfl
      · exact no j y h hy
      · rw [ey] at hy
        cases hy
        exact c
  · rintro σ J ⟨sJ, ⟨t, rfl⟩, no⟩
    have e : dupB f xs = false := by
      unfold dupB
      rw [List.any_eq_false]
      intro i hi
      rw [List.mem_range] at hi
      rw [List.getElem?_eq_getElem hi]
      simpa using no i _ (by omega) (List.getElem?_eq_getElem hi)
    rw [← e]
    exact q J sJ
end
end W

namespace W
open PySem PySem.Spec PyProof.Rows L2
section
variable {P : Program} {w : World} {K : S.Frag} {mg : Str → Option Value} {base : Heap}
open S
/-! places and rows, as data -/
structure Pl where
  n : Str
  l : Int
  m : Int
  t : Bool
  deriving DecidableEq
abbrev PlA (K : S.Frag) (H : Hp) (p : Addr) (d : Pl) : Prop := PlAt K H p (.str d.n) (.int d.l) (.int d.m) (.bl d.t)
/-- a tracked list or tuple -/
def SqH (H : Hp) (a : Addr) (xs : List V) : Prop := H a = some (.lst xs) ∨ H a = some (.tup xs)
theorem SqH.x {H : Hp} {a : Addr} {xs : List V} (h : SqH H a xs) : SqX K H a xs := by
  rcases h with h | h
  · exact .inl (.inl (.inl h))
  · exact .inr (.inl (.inl h))
theorem SqH.same {H H' : Hp} {a : Addr} {xs : List V} (h : SqH H a xs) (s : Same H H') : SqH H' a xs := by
  rcases h with h | h
  · exact .inl (s _ _ h)
  · exact .inr (s _ _ h)
theorem SqH.ty {H : Hp} {a : Addr} {xs : List V} (h : SqH H a xs) : ∃ t, TyX K H (.ref a) t ∧ PySem.W.kitAny K t [.type "list", .type "tuple"] = some true := by
  rcases h with h | h
  · exact ⟨_, .base (.lst h), kitAny_cons (kit_ty (r := true) (by decide +kernel)) (fun z => nomatch z) (fun _ => rfl)⟩
  · exact ⟨_, .base (.tup h), kitAny_cons (kit_ty (r := false) (by decide +kernel)) (fun _ => kitAny_cons (kit_ty (r := true) (by decide +kernel)) (fun z => nomatch z) (fun _ => rfl)) (fun z => nomatch z)⟩
theorem nodup_dup {ws : List Str} (h : ws.Nodup) : dupB eqV (ws.map V.str) = false := by
  unfold dupB
  rw [List.any_eq_false]
  intro i hi
  rw [List.mem_range, List.length_map] at hi
  rw [List.getElem?_map, List.getElem?_eq_getElem hi]
  simp only [Option.map_some, Bool.not_eq_true, List.any_eq_false]
  intro z hz
  rw [← List.map_take] at hz
  obtain ⟨y, hy, rfl⟩ := List.mem_map.mp hz
  rw [eqV_str, decide_eq_false_iff_not]
  intro e
  obtain ⟨j, hj, ej⟩ := List.mem_iff_getElem.mp hy
  rw [List.length_take] at hj
  rw [List.getElem_take] at ej
  have := (List.pairwise_iff_getElem.mp h) j i (by omega) hi (by omega)
  exact this (ej.trans e)
theorem eq_strs {H : Hp} {n : Nat} {ws : List Str} : ∀ y ∈ ws.map V.str, ∀ z ∈ ws.map V.str, EqOk K H n z y (eqV z y) := fun y hy z hz => by
  obtain ⟨a, _, rfl⟩ := List.mem_map.mp hy
  obtain ⟨b, _, rfl⟩ := List.mem_map.mp hz
  exact eg_flat rfl rfl
def spPF (K : S.Frag) : Sp := Sp1 fun x H Q _ => ∃ (a : Addr) (ps : List (Addr × Pl)), x = .ref a ∧ SqH H a (ps.map fun z => .ref z.1) ∧ (∀ z ∈ ps, PlA K H z.1 z.2) ∧ 1 ≤ ps.length ∧ ps.length ≤ 6 ∧ (ps.map fun z => z.2.n).Nodup ∧ ∀ H', Same H H' → Q (.bl true) H'
theorem ok_places_fit (T : Txt K mg) : FnOk P w K mg base (L2.CX P w) 2 (He.fAd K ("places_fit", none)) (S.fdA K ("places_fit", none)) ["places"] (spPF K) := by
  have G_has_equal_items := ok_has_equal_items (P := P) (w := w) (base := base) T
  refine FunD.ok T.F_places_fit sc_places_fit (fun vs H Q E h => S.splen1 h) (fun cdv A outer s H vs Q E hr h => ?_)
  have hu := hu_of hr
  refine ⟨_, (pss_cons (ps_if (PW.pt (pw_or (pt_not (pt_val (pe_callB (S.isiTK (K := K) rfl) rfl T.n_isinstance S.boot_isinstance (pa_cons (pv 0) (pa_cons (pe_tup (pa_cons (pe_bltn (v := .ty "list") rfl T.n_list S.boot_list rfl) (pa_cons (pe_bltn (v := .ty "tuple") rfl T.n_tuple S.boot_tuple rfl) pa_nil))) pa_nil))))) (pw_or1 (pt_not (pt_chain op_le op_le pe_int (pe_callB (S.lenK (K := K) rfl) rfl T.n_len S.boot_len (pa_cons (pv 0) pa_nil)) (S.pe_globI rfl T.c_MOST_PLACES)))))) (pss_one (ps_ret pe_bl)) pss_nil)
      (pss_cons (ps_for (S.own_of rfl) rfl (S.pi_seqK (K := K) rfl (pv 0)) (pg_name (i := 1) sc_places_fit.nd rfl (by first | exact Or.inl rfl | exact Or.inr rfl))
        (pss_one (ps_if (pt_not (pt_val (pe_callB (S.isiK (K := K) rfl) rfl T.n_isinstance S.boot_isinstance (pa_cons (pv 1) (pa_cons (pe_glob (v := .ref _) rfl T.g_Place rfl) pa_nil))))) (pss_one (ps_ret pe_bl)) pss_nil)))
      (pss_one (ps_ret (pe_not (S.pe_fnS G_has_equal_items (hr.mono (by decide)) rfl T.g_has_equal_items T.F_has_equal_items.kp (kb_has_equal_items_1 T) S.pas0 (pa_cons (pe_lc (own := [("place", 1)]) (g := gName 1) (tt := tYes) rfl sc_places_fit.nd (S.pi_seqK (K := K) rfl (pv 0)) (blkOk_by (N := ["places", "place"]) (sc := defScope s_places_fit) (by decide +kernel)) (fun _ _ _ _ _ => pg_name (i := 1) sc_places_fit.nd rfl (by first | exact Or.inl rfl | exact Or.inr rfl)) (fun _ _ _ _ _ => pts_nil) (fun _ _ _ _ _ => (S.pe_fldK (K := K) rfl (pv 1) rfl))) pa_nil) pk_nil rfl rfl)))))), ?_⟩
  obtain ⟨_, rfl, a, ps, rfl, hS, hp, l1, l6, nd, q⟩ := h
  refine ⟨_, rfl, by show 2 ≤ sizeLine; decide, fun tp htp => ?_⟩
  have s1 := Same.new (o := .tup [.ty "list", .ty "tuple"]) htp
  obtain ⟨t, ty, kt⟩ := (hS.same s1).ty (K := K)
  refine ⟨_, tp, _, _, _, true, rfl, upd_same, .cons (.ty _) (.cons (.ty _) .nil), ty, kt, _, rfl, iteF ?_⟩
  refine ⟨_, rfl, _, _, rfl, lenVX (hS.same s1).x, _, _, rfl, rfl, _, rfl, ?_⟩
  rw [List.length_map]
  refine iteY (decide_eq_true (by omega)) ⟨_, _, rfl, rfl, _, rfl, iteN (by simp; omega) ?_⟩
  refine ⟨_, rfl, a, _, rfl, (hS.same s1).x, fun J w => for_seq w (fun i σ J => Same (upd H tp (.tup [.ty "list", .ty "tuple"])) J ∧ ∃ v, σ = [some (.ref a), v]) ⟨fun _ _ h => h, _, rfl⟩ (fun i σ J _ h => h.1) ?_ ?_⟩
  · rintro i x σ J hx ⟨sJ, v, rfl⟩
    rw [List.getElem?_map] at hx
    obtain ⟨z, hz, rfl⟩ := Option.map_eq_some_iff.mp hx
    obtain ⟨dx, ez⟩ := (hp z (List.mem_of_getElem? hz)).same (s1.trans sJ)
    exact ⟨_, rfl, _, _, _, _, true, rfl, .own _, T.is_Place.ty T.cl_Place ez, T.ko_Place_Place, _, rfl, iteF ⟨sJ, _, rfl⟩⟩
  · rintro σ J ⟨sJ, v, rfl⟩
    have s2 := s1.trans sJ
    refine ⟨_, rfl, a, _, rfl, (hS.same s2).x, fun It wk D hD => lc_seq wk (fun i J' => Same J J' ∧ J' D = some (.lst (((ps.take i).map fun z => z.2.n).map V.str))) ⟨Same.new hD, upd_same⟩ (fun i J' _ h => h.1) ?_ ?_⟩
    · rintro i x J' hx ⟨sJ', eD⟩
      rw [List.getElem?_map] at hx
      obtain ⟨z, hz, rfl⟩ := Option.map_eq_some_iff.mp hx
      obtain ⟨dx, ez⟩ := ((hp z (List.mem_of_getElem? hz)).same s2).same sJ'
      refine ⟨rfl, yesT ?_⟩
      refine iteT ⟨_, rfl, z.1, _, dx, _, _, rfl, ez, T.cl_Place, T.na_Place_name, lk_name _ _ _ _, _, eD, ?_, ?_⟩
      · rw [List.length_map, List.length_map, List.length_take]
        exact Nat.lt_of_le_of_lt (show min i ps.length ≤ 100 by omega) (by decide)
      · refine ⟨Same.upd sJ' hD, ?_⟩
        rw [upd_same, List.take_add_one, hz, List.map_append, List.map_append]
        rfl
    · rintro J' ⟨sJ', eD⟩
      rw [List.length_map, List.take_length] at eD
      refine ⟨rfl, rfl, _, rfl, D, _, 0, eqV, rfl, .inl (.inl (.inl eD)), by decide, ?_, fun J2 _ => eq_strs, fun J2 s3 => ⟨_, rfl, ?_⟩⟩
      · rw [List.length_map, List.length_map]; omega
      · rw [nodup_dup nd]
        exact q J2 ((s2.trans sJ').trans s3)
/-- the nexts of these names, told by a dict -/
def spNF (K : S.Frag) : Sp := Sp2 fun x y H Q _ => ∃ (a d : Addr) (ws : List Str) (kvs : List (Key × V)), x = .ref a ∧ y = .ref d ∧ SqH H a (ws.map V.str) ∧ H d = some (.dK kvs) ∧ ws.length < 100 ∧ kvs.length = ws.length ∧
  (∀ z ∈ ws, ∃ (t : Addr) (ns : List Str), valV kvs (.inr z) = some (.ref t) ∧ H t = some (.tup (ns.map V.str)) ∧ ns.length < 100 ∧ ns.Nodup ∧ ∀ u ∈ ns, u ∈ ws) ∧ ∀ H', Same H H' → Q (.bl true) H'
theorem any_str {ws : List Str} {z : Str} (h : z ∈ ws) : ((ws.map V.str).any fun y => eqV y (.str z)) = true := by
  rw [List.any_eq_true]
  exact ⟨_, List.mem_map.mpr ⟨z, h, rfl⟩, by rw [eqV_str]; simp⟩
theorem ok_nexts_fit (T : Txt K mg) : FnOk P w K mg base (L2.CX P w) 2 (He.fAd K ("nexts_fit", none)) (S.fdA K ("nexts_fit", none)) ["names", "nexts"] (spNF K) := by
  have G_has_equal_items := ok_has_equal_items (P := P) (w := w) (base := base) T
  refine FunD.ok T.F_nexts_fit sc_nexts_fit (fun vs H Q E h => S.splen2 h) (fun cdv A outer s H vs Q E hr h => ?_)
  have hu := hu_of hr
  refine ⟨_, (pss_cons (ps_if (PW.pt (pw_or (pt_not (pt_val (pe_callB (S.isiK (K := K) rfl) rfl T.n_isinstance S.boot_isinstance (pa_cons (pv 1) (pa_cons (pe_bltn (v := .ty "dict") rfl T.n_dict S.boot_dict rfl) pa_nil))))) (pw_or1 (pt_cmpR op_ne (pe_callB call_lenD rfl T.n_len S.boot_len (pa_cons (pv 1) pa_nil)) (pe_callB (S.lenK (K := K) rfl) rfl T.n_len S.boot_len (pa_cons (pv 0) pa_nil)) (nomark _))))) (pss_one (ps_ret pe_bl)) pss_nil)
      (pss_cons (ps_for (S.own_of rfl) rfl (S.pi_seqK (K := K) rfl (pv 0)) (pg_name (i := 2) sc_nexts_fit.nd rfl (by first | exact Or.inl rfl | exact Or.inr rfl))
        (pss_cons (ps_if (pt_cmp (pc_dnotin hu (pv 2) (pv 1))) (pss_one (ps_ret pe_bl)) pss_nil)
      (pss_cons (ps_set (i := 3) sc_nexts_fit.nd rfl (by first | exact Or.inl rfl | exact Or.inr rfl) (pe_dget hu (pv 1) (pv 2) (fun _ _ => rfl)))
      (pss_cons (ps_if (PW.pt (pw_or (pt_not (pt_val (pe_callB (S.isiK (K := K) rfl) rfl T.n_isinstance S.boot_isinstance (pa_cons (pv 3) (pa_cons (pe_bltn (v := .ty "tuple") rfl T.n_tuple S.boot_tuple rfl) pa_nil))))) (pw_or1 (pt_val (S.pe_fnS G_has_equal_items (hr.mono (by decide)) rfl T.g_has_equal_items T.F_has_equal_items.kp (kb_has_equal_items_1 T) S.pas0 (pa_cons (pv 3) pa_nil) pk_nil rfl rfl))))) (pss_one (ps_ret pe_bl)) pss_nil)
      (pss_one (ps_for (S.own_of rfl) rfl (S.pi_seqK (K := K) rfl (pv 3)) (pg_name (i := 4) sc_nexts_fit.nd rfl (by first | exact Or.inl rfl | exact Or.inr rfl))
        (pss_one (ps_if (pt_cmpR (S.notInGK (K := K) rfl (S.hu64 hr)) (pv 4) (pv 0) rfl) (pss_one (ps_ret pe_bl)) pss_nil))))))))
      (pss_one (ps_ret pe_bl)))), ?_⟩
  obtain ⟨_, _, rfl, a, d, ws, kvs, rfl, rfl, hS, hd, lw, lk, hr', q⟩ := h
  refine ⟨_, rfl, _, _, _, _, true, rfl, .ty _, .base (.dK hd), kit_ty (by decide +kernel), _, rfl, iteF ?_⟩
  refine ⟨_, rfl, d, kvs, rfl, hd, _, rfl, _, _, rfl, lenVX hS.x, rfl, _, rfl, ?_⟩
  rw [List.length_map]
  refine iteN (by simp [lk]) ?_
  refine ⟨_, rfl, a, _, rfl, hS.x, fun J w => for_seq w (fun i σ J => Same H J ∧ ∃ v1 v2 v3, σ = [some (.ref a), some (.ref d), v1, v2, v3]) ⟨fun _ _ h => h, _, _, _, rfl⟩ (fun i σ J _ h => h.1) ?_ ?_⟩
  · rintro i x σ J hx ⟨sJ, v1, v2, v3, rfl⟩
    rw [List.getElem?_map] at hx
    obtain ⟨z, hz, rfl⟩ := Option.map_eq_some_iff.mp hx
    obtain ⟨t, ns, e1, e2, ln, nn, sub⟩ := hr' z (List.mem_of_getElem? hz)
    have g : DGet J d (.str z) (some (.ref t)) := by
      have := DGet.k (k := .inr z) (sJ _ _ hd)
      rw [e1] at this
      exact this
    have et := sJ _ _ e2
    refine ⟨_, rfl, _, rfl, d, _, rfl, g, _, rfl, iteF ?_⟩
    refine ⟨_, rfl, _, rfl, d, _, rfl, g, ?_⟩
    refine ⟨_, rfl, _, _, _, _, true, rfl, .ty _, .base (.tup et), kit_ty (by decide +kernel), _, rfl, iteF ?_⟩
    refine ⟨_, rfl, rfl, rfl, _, rfl, t, _, 0, eqV, rfl, .inr (.inl (.inl et)), by decide, by rw [List.length_map]; omega, fun J2 _ => eq_strs, fun J2 s2 => ⟨_, rfl, ?_⟩⟩
    rw [nodup_dup nn]
    refine iteF ⟨_, rfl, t, _, rfl, .inr (.inl (.inl (s2 _ _ et))), fun It wk => for_seq wk (fun i σ J' => Same J2 J' ∧ ∃ v3, σ = [some (.ref a), some (.ref d), some (.str z), some (.ref t), v3]) ⟨fun _ _ h => h, _, rfl⟩ (fun i σ J' _ h => h.1) ?_ ?_⟩
    · rintro j y σ J' hy ⟨sJ', v3, rfl⟩
      rw [List.getElem?_map] at hy
      obtain ⟨u, hu', rfl⟩ := Option.map_eq_some_iff.mp hy
      have um := sub u (List.mem_of_getElem? hu')
      refine ⟨_, rfl, _, rfl, a, _, 0, fun y => eqV y (.str u), rfl, (hS.same ((sJ.trans s2).trans sJ')).x, by decide, fun y hy => ?_, _, rfl, ?_⟩
      · obtain ⟨b, _, rfl⟩ := List.mem_map.mp hy
        exact eg_flat rfl rfl
      · rw [any_str um]
        exact iteN (by decide) ⟨sJ', _, rfl⟩
    · rintro σ J' ⟨sJ', v3, rfl⟩
      exact ⟨(sJ.trans s2).trans sJ', _, _, _, rfl⟩
  · rintro σ J ⟨sJ, v1, v2, v3, rfl⟩
    exact q J sJ
end
end W

namespace W
open PySem PySem.Spec PyProof.Rows L2
section
variable {P : Program} {w : World} {K : S.Frag} {mg : Str → Option Value} {base : Heap}
open S
theorem ok_BadProgram___init__ (T : Txt K mg) : FnOk P w K mg base (L2.CX P w) 1 (He.fAd K ("BadProgram", some "__init__")) (S.fdA K ("BadProgram", some "__init__")) ["self", "why"] (sp_err (He.ga K "BadProgram") "why") := by
  refine FunD.ok T.F_BadProgram___init__ sc_BadProgram___init__ (fun vs H Q E h => S.splen2 h) (fun cdv A outer s H vs Q E hr h => ?_)
  have hu := hu_of hr
  refine ⟨_, (pss_one (S.ps_ostK (K := K) rfl (pv 0) (pv 1) rfl)), ?_⟩
  obtain ⟨_, y, rfl, a, rfl, ha, k⟩ := h
  exact ⟨_, rfl, _, rfl, a, _, rfl, T.ox_BadProgram, T.xn_BadProgram_why, .inl ⟨ha, k⟩⟩
theorem ok_NoPlace___init__ (T : Txt K mg) : FnOk P w K mg base (L2.CX P w) 1 (He.fAd K ("NoPlace", some "__init__")) (S.fdA K ("NoPlace", some "__init__")) ["self", "name"] (sp_err (He.ga K "NoPlace") "name") := by
  refine FunD.ok T.F_NoPlace___init__ sc_NoPlace___init__ (fun vs H Q E h => S.splen2 h) (fun cdv A outer s H vs Q E hr h => ?_)
  have hu := hu_of hr
  refine ⟨_, (pss_one (S.ps_ostK (K := K) rfl (pv 0) (pv 1) rfl)), ?_⟩
  obtain ⟨_, y, rfl, a, rfl, ha, k⟩ := h
  exact ⟨_, rfl, _, rfl, a, _, rfl, T.ox_NoPlace, T.xn_NoPlace_name, .inl ⟨ha, k⟩⟩
/-- a row: where its object stands, its place, where its nexts stand, its nexts -/
structure Rw where
  a : Addr
  d : Pl
  ta : Addr
  nx : List Str
def rNames (rows : List Rw) : List Str := rows.map fun r => r.d.n
def fldG (l u k : Addr) (s : Str) : List (Str × V) := [("places", .ref l), ("names", .ref u), ("start", .str s), ("links", .ref k)]
def RwA (K : S.Frag) (H : Hp) (r : Rw) : Prop := PlA K H r.a r.d ∧ H r.ta = some (.tup (r.nx.map V.str))
/-- a program stands at p -/
structure PgF (K : S.Frag) (H : Hp) (p dx l u k : Addr) (rows : List Rw) (s : Str) : Prop where
  at_ : H p = some (.ins (He.ga K "Program") dx (fldG l u k s))
  pl : H l = some (.lst (rows.map fun r => .ref r.a))
  nm : H u = some (.tup ((rNames rows).map V.str))
  lk : H k = some (.dK (rows.map fun r => (.inr r.d.n, .ref r.ta)))
  rw_ : ∀ r ∈ rows, RwA K H r
def PgAt (K : S.Frag) (H : Hp) (p : Addr) (rows : List Rw) (s : Str) : Prop := ∃ dx l u k, PgF K H p dx l u k rows s
theorem RwA.same {H H' : Hp} {r : Rw} (h : RwA K H r) (e : Same H H') : RwA K H' r := ⟨h.1.same e, e _ _ h.2⟩
theorem PgF.same {H H' : Hp} {p dx l u k : Addr} {rows : List Rw} {s : Str} (h : PgF K H p dx l u k rows s) (e : Same H H') : PgF K H' p dx l u k rows s :=
  ⟨e _ _ h.at_, e _ _ h.pl, e _ _ h.nm, e _ _ h.lk, fun r hr => (h.rw_ r hr).same e⟩
theorem PgAt.same {H H' : Hp} {p : Addr} {rows : List Rw} {s : Str} (h : PgAt K H p rows s) (e : Same H H') : PgAt K H' p rows s := let ⟨dx, l, u, k, f⟩ := h; ⟨dx, l, u, k, f.same e⟩
/-- all but p stands -/
def Kp (p : Addr) (H H' : Hp) : Prop := ∀ b o, b ≠ p → H b = some o → H' b = some o
theorem Kp.trans {p : Addr} {H H1 H2 : Hp} (x : Kp p H H1) (y : Kp p H1 H2) : Kp p H H2 := fun b o n h => y b o n (x b o n h)
theorem Kp.of {p : Addr} {H H' : Hp} (s : Same H H') : Kp p H H' := fun b o _ h => s b o h
theorem Kp.put {p : Addr} {H : Hp} {o : HO} : Kp p H (upd H p o) := fun b u n h => by rw [upd_ne n]; exact h
/-- right rows: distinct right names, their nexts among them -/
structure okRows (rows : List Rw) : Prop where
  l1 : 1 ≤ rows.length
  l6 : rows.length ≤ 6
  nd : (rNames rows).Nodup
  pl : ∀ r ∈ rows, isNm r.d.n = true ∧ 1 ≤ r.d.l ∧ r.d.l ≤ r.d.m ∧ r.d.m ≤ 6
  nx : ∀ r ∈ rows, r.nx.Nodup ∧ ∀ z ∈ r.nx, z ∈ rNames rows
theorem okRows.nxl {rows : List Rw} (o : okRows rows) {r : Rw} (h : r ∈ rows) : r.nx.length < 100 := by
  have := nodup_le (o.nx r h).1 (o.nx r h).2
  have l6 := o.l6
  unfold rNames at this
  rw [List.length_map] at this
  omega
theorem putK_new {kvs : List (Key × V)} {k : Key} {v : V} (h : ∀ q ∈ kvs, q.1 ≠ k) : putK kvs k v = kvs ++ [(k, v)] := by
  unfold putK
  rw [if_neg]
  rw [List.any_eq_true]
  rintro ⟨q, hq, e⟩
  exact h q hq (by simpa using e)
theorem get_lt {α : Type} {l : List α} {i : Nat} {x : α} (h : l[i]? = some x) : i < l.length := (List.getElem?_eq_some_iff.mp h).1
/-- the key at a place is none of those before it -/
theorem nodup_take {ws : List Str} {i : Nat} {z : Str} (nd : ws.Nodup) (h : ws[i]? = some z) : z ∉ ws.take i := by
  intro hm
  obtain ⟨j, hj, ej⟩ := List.mem_iff_getElem.mp hm
  rw [List.length_take] at hj
  rw [List.getElem_take] at ej
  obtain ⟨hi, ei⟩ := List.getElem?_eq_some_iff.mp h
  exact (List.pairwise_iff_getElem.mp nd) j i (by omega) hi (by omega) (ej.trans ei.symm)
def spProg (K : S.Frag) : Sp := Sp4 fun self x y z H Q _ => ∃ (p dx a d : Addr) (rows : List Rw) (kvs : List (Key × V)) (s : Str), self = .ref p ∧ H p = some (.ins (He.ga K "Program") dx []) ∧ x = .ref a ∧ SqH H a (rows.map fun r => .ref r.a) ∧ y = .ref d ∧ H d = some (.dK kvs) ∧
  kvs.length = rows.length ∧ okRows rows ∧ (∀ r ∈ rows, valV kvs (.inr r.d.n) = some (.ref r.ta) ∧ RwA K H r) ∧ ((z = .non ∧ (rNames rows)[0]? = some s) ∨ (z = .str s ∧ s ∈ rNames rows)) ∧
  ∀ H', Kp p H H' → PgAt K H' p rows s → Q .non H'
theorem ok_Program___init__ (T : Txt K mg) : FnOk P w K mg base (L2.CX P w) 3 (He.fAd K ("Program", some "__init__")) (S.fdA K ("Program", some "__init__")) ["self", "places", "nexts", "start"] (spProg K) := by
  have G_places_fit := ok_places_fit (P := P) (w := w) (base := base) T
  have G_BadProgram___init__ := ok_BadProgram___init__ (P := P) (w := w) (base := base) T
  have G_nexts_fit := ok_nexts_fit (P := P) (w := w) (base := base) T
  refine FunD.ok T.F_Program___init__ sc_Program___init__ (fun vs H Q E h => S.splen4 h) (fun cdv A outer s H vs Q E hr h => ?_)
  have hu := hu_of hr
  refine ⟨_, (pss_cons (ps_if (pt_not (pt_val (S.pe_fnS G_places_fit (hr.mono (by decide)) rfl T.g_places_fit T.F_places_fit.kp (kb_places_fit_1 T) S.pas0 (pa_cons (pv 1) pa_nil) pk_nil rfl rfl))) (pss_one (S.ps_raiseO rfl (takes_of rfl rfl rfl rfl) T.ox_BadProgram T.xi_BadProgram T.xt_BadProgram G_BadProgram___init__ (hr.mono (by decide)) (kb_BadProgram___init___2 T) rfl T.g_BadProgram (pa_cons pe_str pa_nil))) pss_nil)
      (pss_cons (ps_setLc (i := 4) (own := [("place", 5)]) (g := gName 5) (tt := tYes) rfl sc_Program___init__.nd rfl rfl (sw_true rfl rfl rfl (by decide +kernel)) (S.pi_seqK (K := K) rfl (pv 1)) (blkOk_by (N := ["self", "places", "nexts", "start", "names", "place", "name"]) (sc := defScope s_Program___init__) (by decide +kernel)) (fun _ _ _ _ _ => pg_name (i := 5) sc_Program___init__.nd rfl (by first | exact Or.inl rfl | exact Or.inr rfl)) (fun _ _ _ _ _ => pts_nil) (fun _ _ _ _ _ => (S.pe_fldK (K := K) rfl (pv 5) rfl)))
      (pss_cons (ps_if (pt_not (pt_val (S.pe_fnS G_nexts_fit (hr.mono (by decide)) rfl T.g_nexts_fit T.F_nexts_fit.kp (kb_nexts_fit_2 T) S.pas0 (pa_cons (pv 4) (pa_cons (pv 2) pa_nil)) pk_nil rfl rfl))) (pss_one (S.ps_raiseO rfl (takes_of rfl rfl rfl rfl) T.ox_BadProgram T.xi_BadProgram T.xt_BadProgram G_BadProgram___init__ (hr.mono (by decide)) (kb_BadProgram___init___2 T) rfl T.g_BadProgram (pa_cons pe_str pa_nil))) pss_nil)
      (S.pss_cut (ps_if (pt_cmpR op_isN (pv 3) pe_non (nomark _)) (pss_one (ps_set (i := 3) sc_Program___init__.nd rfl (by first | exact Or.inl rfl | exact Or.inr rfl) (pe_ix (S.ixK (K := K) rfl) (pv 4) pe_int (fun _ _ => rfl)))) pss_nil)
      (pss_cons (ps_if (pt_cmpR (S.notInGK (K := K) rfl (S.hu64 hr)) (pv 3) (pv 4) rfl) (pss_one (S.ps_raiseO rfl (takes_of rfl rfl rfl rfl) T.ox_BadProgram T.xi_BadProgram T.xt_BadProgram G_BadProgram___init__ (hr.mono (by decide)) (kb_BadProgram___init___2 T) rfl T.g_BadProgram (pa_cons pe_str pa_nil))) pss_nil)
      (pss_cons (S.ps_fldK (K := K) rfl (pv 0) (pe_callTy (S.listOfK (K := K) rfl) rfl T.n_list S.boot_list (pa_cons (pv 1) pa_nil)) rfl)
      (pss_cons (S.ps_fldK (K := K) rfl (pv 0) (pe_callTy (S.tupOfK (K := K) rfl) rfl T.n_tuple S.boot_tuple (pa_cons (pv 4) pa_nil)) rfl)
      (pss_cons (S.ps_fldK (K := K) rfl (pv 0) (pv 3) rfl)
      (pss_one (S.ps_fldK (K := K) rfl (pv 0) (pe_dc (own := [("name", 6)]) (g := gName 6) (tt := tYes) rfl sc_Program___init__.nd (S.pi_seqK (K := K) rfl (pv 4)) (blkOk_by (N := ["self", "places", "nexts", "start", "names", "place", "name"]) (sc := defScope s_Program___init__) (by decide +kernel)) (fun _ _ _ _ _ => pg_name (i := 6) sc_Program___init__.nd rfl (by first | exact Or.inl rfl | exact Or.inr rfl)) (fun _ _ _ _ _ => pts_nil) (fun _ _ _ _ _ => (pv 6)) (fun _ _ _ _ _ => (pe_dget hu (pv 2) (pv 6) (fun _ _ => rfl)))) rfl)))))))))), ?_⟩
  obtain ⟨_, x, y, z, rfl, p, dx, a, d, rows, kvs, st, rfl, hp, rfl, hS, rfl, hd, lk, ok, hrw, hst, q⟩ := h
  have hS' : SqH H a ((rows.map fun r => (r.a, r.d)).map fun z => .ref z.1) := by rw [List.map_map]; exact hS
  refine ⟨_, rfl, rfl, rfl, _, rfl, a, _, rfl, hS', fun z hz => ?_, by rw [List.length_map]; exact ok.l1, by rw [List.length_map]; exact ok.l6, by rw [List.map_map]; exact ok.nd, fun J0 s0 => ⟨_, rfl, iteF ?_⟩⟩
  · obtain ⟨r, hr', rfl⟩ := List.mem_map.mp hz
    exact (hrw r hr').2.1
  have l6 := ok.l6
  -- the names
  refine ⟨_, rfl, a, _, rfl, (hS.same s0).x, fun It wk D hD => lc_seq wk (fun i J => Same J0 J ∧ J D = some (.lst (((rNames rows).take i).map V.str))) ⟨Same.new hD, upd_same⟩ (fun i J _ h => h.1) ?_ ?_⟩
  · rintro i v J hv ⟨sJ, eD⟩
    rw [List.getElem?_map] at hv
    obtain ⟨r, hr', rfl⟩ := Option.map_eq_some_iff.mp hv
    obtain ⟨dr, er⟩ := (hrw r (List.mem_of_getElem? hr')).2.1.same (s0.trans sJ)
    refine ⟨rfl, yesT ?_⟩
    refine iteT ⟨_, rfl, r.a, _, dr, _, _, rfl, er, T.cl_Place, T.na_Place_name, lk_name _ _ _ _, _, eD, ?_, Same.upd sJ hD, ?_⟩
    · rw [List.length_map, List.length_take]
      unfold rNames
      rw [List.length_map]
      exact Nat.lt_of_le_of_lt (show min i rows.length ≤ 100 by omega) (by decide)
    · have e : (rNames rows)[i]? = some r.d.n := by unfold rNames; rw [List.getElem?_map, hr']; rfl
      rw [upd_same, List.take_add_one, e, List.map_append]
      rfl
  rintro J1 ⟨s1, eD⟩
  have eD : J1 D = some (.lst ((rNames rows).map V.str)) := by
    have e : (rows.map fun r => V.ref r.a).length = (rNames rows).length := by unfold rNames; rw [List.length_map, List.length_map]
    rw [e, List.take_length] at eD
    exact eD
  have s01 := s0.trans s1
  have ln : (rNames rows).length = rows.length := by unfold rNames; rw [List.length_map]
  -- the nexts
  refine ⟨_, rfl, _, rfl, rfl, rfl, _, _, rfl, D, d, rNames rows, kvs, rfl, rfl, .inl eD, s01 _ _ hd, by omega, by omega, fun z hz => ?_, fun J2 s2 => ⟨_, rfl, iteF ?_⟩⟩
  · obtain ⟨r, hr', rfl⟩ := List.mem_map.mp hz
    exact ⟨r.ta, r.nx, (hrw r hr').1, s01 _ _ (hrw r hr').2.2, ok.nxl hr', (ok.nx r hr').1, (ok.nx r hr').2⟩
  have s02 := s01.trans s2
  have eD2 := s2 _ _ eD
  -- the start
  have hsm : st ∈ rNames rows := by
    rcases hst with ⟨_, e⟩ | ⟨_, e⟩
    · exact List.mem_of_getElem? e
    · exact e
  refine ⟨fun τ J => J = J2 ∧ τ = [some (.ref p), some (.ref a), some (.ref d), some (.str st), some (.ref D), none, none], ?_, ?_⟩
  · refine ⟨_, rfl, rfl, _, rfl, ?_⟩
    rcases hst with ⟨rfl, e⟩ | ⟨rfl, e⟩
    · refine iteY (by simp) ⟨_, rfl, .inl ⟨D, _, _, _, rfl, rfl, .inl (.inl eD2), atI_lt (by decide) ?_, rfl, rfl⟩⟩
      show ((rNames rows).map V.str)[0]? = some (.str st)
      rw [List.getElem?_map, e]
      rfl
    · exact iteN (by simp) ⟨rfl, rfl⟩
  rintro τ J ⟨rfl, rfl⟩
  refine ⟨_, rfl, _, rfl, D, _, 0, fun y => eqV y (.str st), rfl, .inl (.inl (.inl eD2)), by decide, fun y hy => ?_, _, rfl, ?_⟩
  · obtain ⟨b, _, rfl⟩ := List.mem_map.mp hy
    exact eg_flat rfl rfl
  rw [any_str hsm]
  refine iteN (by decide) ?_
  have hp2 := s02 _ _ hp
  -- the fields
  refine ⟨_, rfl, a, _, rfl, (hS.same s02).x, fun l hl => ⟨_, rfl, p, _, dx, _, rfl, Same.new hl _ _ hp2, T.cl_Program, T.na_Program_places, (by show 0 < 1000; decide), ?_⟩⟩
  have npl : l ≠ p := (ne_of_none hp2 hl).symm
  have k1 : Kp p J (upd (upd J l (.lst (rows.map fun r => .ref r.a))) p (.ins (He.ga K "Program") dx (putF "places" (.ref l) []))) := (Kp.of (Same.new hl)).trans Kp.put
  have npD : D ≠ p := (ne_of_none (s0 _ _ hp) hD).symm
  refine ⟨_, rfl, D, _, rfl, .inl ⟨.inl (.inl (k1 _ _ npD eD2)), fun u hu' => ⟨_, rfl, p, _, dx, _, rfl, Same.new hu' _ _ upd_same, T.cl_Program, T.na_Program_names, (by show 1 < 1000; decide), ?_⟩⟩⟩
  have npu : u ≠ p := (ne_of_none upd_same hu').symm
  refine ⟨_, rfl, _, rfl, p, _, dx, _, rfl, upd_same, T.cl_Program, T.na_Program_start, (by show 2 < 1000; decide), ?_⟩
  generalize hJ3 : upd (upd (upd (upd (upd J l (.lst (rows.map fun r => .ref r.a))) p (.ins (He.ga K "Program") dx (putF "places" (.ref l) []))) u (.tup ((rNames rows).map V.str))) p (.ins (He.ga K "Program") dx (putF "names" (.ref u) (putF "places" (.ref l) [])))) p (.ins (He.ga K "Program") dx (putF "start" (.str st) (putF "names" (.ref u) (putF "places" (.ref l) [])))) = J3
  have e3p : J3 p = some (.ins (He.ga K "Program") dx (putF "start" (.str st) (putF "names" (.ref u) (putF "places" (.ref l) [])))) := by rw [← hJ3]; exact upd_same
  have nlu : l ≠ u := ne_of_none (by rw [upd_ne npl]; exact upd_same) hu'
  have k3 : Kp p J J3 := by rw [← hJ3]; exact (((k1.trans (Kp.of (Same.new hu'))).trans Kp.put).trans Kp.put)
  have e3l : J3 l = some (.lst (rows.map fun r => .ref r.a)) := by rw [← hJ3, upd_ne npl, upd_ne npl, upd_ne nlu, upd_ne npl, upd_same]
  have e3u : J3 u = some (.tup ((rNames rows).map V.str)) := by rw [← hJ3, upd_ne npu, upd_ne npu, upd_same]
  have npd : d ≠ p := ne_of hd hp (by intro z; cases z)
  have e3D := k3 _ _ npD eD2
  have e3d := k3 _ _ npd (s02 _ _ hd)
  clear hJ3
  refine ⟨_, rfl, D, _, rfl, .inl (.inl (.inl e3D)), fun It wk k hk => dc_it wk (fun i J' => Same J3 J' ∧ J' k = some (.dK ((rows.take i).map fun r => (.inr r.d.n, .ref r.ta)))) ⟨Same.new hk, upd_same⟩ (fun i J' _ h => h.1) ?_ ?_⟩
  · rintro i v J' J'' hi ⟨sJ, ek⟩ ⟨rfl, hv⟩
    rw [List.getElem?_map] at hv
    obtain ⟨z, hz, rfl⟩ := Option.map_eq_some_iff.mp hv
    obtain ⟨r, hr', rfl⟩ : ∃ r, rows[i]? = some r ∧ r.d.n = z := by
      unfold rNames at hz
      rw [List.getElem?_map] at hz
      exact Option.map_eq_some_iff.mp hz
    have g : DGet J'' d (.str r.d.n) (some (.ref r.ta)) := by
      have := DGet.k (k := .inr r.d.n) (sJ _ _ e3d)
      rw [(hrw r (List.mem_of_getElem? hr')).1] at this
      exact this
    refine ⟨rfl, yesT ?_⟩
    refine iteT ⟨_, rfl, _, rfl, _, rfl, d, _, rfl, g, _, .inr r.d.n, rfl, ek, ?_, Same.upd sJ hk, ?_⟩
    · rw [List.length_map, List.length_take]
      exact Nat.lt_of_le_of_lt (show min i rows.length ≤ 100 by omega) (by decide)
    · rw [upd_same, putK_new, List.take_add_one, hr', List.map_append]
      · rfl
      · intro q' hq' e
        obtain ⟨r', hr2, rfl⟩ := List.mem_map.mp hq'
        have en : r'.d.n = r.d.n := by injection e
        refine nodup_take ok.nd hz ?_
        rw [← en]
        unfold rNames
        rw [← List.map_take]
        exact List.mem_map.mpr ⟨r', hr2, rfl⟩
  · rintro J4 ⟨s4, ek⟩
    have ek : J4 k = some (.dK (rows.map fun r => (.inr r.d.n, .ref r.ta))) := by
      have e : ((rNames rows).map V.str).length = rows.length := by rw [List.length_map, ln]
      rw [e, List.take_length] at ek
      exact ek
    have npk : k ≠ p := (ne_of_none e3p hk).symm
    refine ⟨_, rfl, p, _, dx, _, rfl, s4 _ _ e3p, T.cl_Program, T.na_Program_links, (by show 3 < 1000; decide), q _ ((Kp.of s02).trans (k3.trans ((Kp.of s4).trans Kp.put))) ⟨dx, l, u, k, upd_same, ?_, ?_, ?_, fun r hr' => ?_⟩⟩
    · rw [upd_ne npl]; exact s4 _ _ e3l
    · rw [upd_ne npu]; exact s4 _ _ e3u
    · rw [upd_ne npk]; exact ek
    · obtain ⟨⟨dr, er⟩, et⟩ := (hrw r hr').2
      have n1 : r.a ≠ p := ne_of er hp (by intro z; injection z with _ _ z3; exact absurd z3 (List.cons_ne_nil _ _))
      have n2 : r.ta ≠ p := ne_of et hp (by intro z; cases z)
      exact ⟨⟨dr, ((Kp.of s02).trans (k3.trans ((Kp.of s4).trans Kp.put))) _ _ n1 er⟩, ((Kp.of s02).trans (k3.trans ((Kp.of s4).trans Kp.put))) _ _ n2 et⟩
def spGet (K : S.Frag) : Sp := Sp2 fun x y H Q _ => ∃ (p : Addr) (rows : List Rw) (s : Str) (r : Rw), x = .ref p ∧ PgAt K H p rows s ∧ y = .str r.d.n ∧ r ∈ rows ∧ (rNames rows).Nodup ∧ Q (.ref r.a) H
theorem lg_places (l u k : Addr) (s : Str) : (fldG l u k s).lookup ("places" : Str) = some (.ref l) := by
  unfold fldG
  rw [lookup_put, if_pos rfl]
theorem lg_names (l u k : Addr) (s : Str) : (fldG l u k s).lookup ("names" : Str) = some (.ref u) := by
  unfold fldG
  rw [lookup_put, if_neg (by decide +kernel), lookup_put, if_pos rfl]
theorem lg_start (l u k : Addr) (s : Str) : (fldG l u k s).lookup ("start" : Str) = some (.str s) := by
  unfold fldG
  rw [lookup_put, if_neg (by decide +kernel), lookup_put, if_neg (by decide +kernel), lookup_put, if_pos rfl]
theorem lg_links (l u k : Addr) (s : Str) : (fldG l u k s).lookup ("links" : Str) = some (.ref k) := by
  unfold fldG
  rw [lookup_put, if_neg (by decide +kernel), lookup_put, if_neg (by decide +kernel), lookup_put, if_neg (by decide +kernel), lookup_put, if_pos rfl]
theorem nm_one {rows : List Rw} (nd : (rNames rows).Nodup) {r r' : Rw} (h : r ∈ rows) (h' : r' ∈ rows) (e : r.d.n = r'.d.n) : r = r' := by
  unfold rNames at nd
  obtain ⟨i, hi, rfl⟩ := List.mem_iff_getElem.mp h
  obtain ⟨j, hj, rfl⟩ := List.mem_iff_getElem.mp h'
  have q := List.pairwise_iff_getElem.mp nd
  simp only [List.length_map, List.getElem_map] at q
  rcases Nat.lt_trichotomy i j with g | g | g
  · exact absurd e (q i j hi hj g)
  · subst g; rfl
  · exact absurd e.symm (q j i hj hi g)
theorem ok_Program___getitem__ (T : Txt K mg) : FnOk P w K mg base (L2.CX P w) 3 (He.fAd K ("Program", some "__getitem__")) (S.fdA K ("Program", some "__getitem__")) ["self", "at"] (spGet K) := by
  have G_NoPlace___init__ := ok_NoPlace___init__ (P := P) (w := w) (base := base) T
  refine FunD.ok T.F_Program___getitem__ sc_Program___getitem__ (fun vs H Q E h => S.splen2 h) (fun cdv A outer s H vs Q E hr h => ?_)
  have hu := hu_of hr
  refine ⟨_, (pss_cons (ps_for (S.own_of rfl) rfl (S.pi_seqK (K := K) rfl (S.pe_fldK (K := K) rfl (pv 0) rfl)) (pg_name (i := 2) sc_Program___getitem__.nd rfl (by first | exact Or.inl rfl | exact Or.inr rfl))
        (pss_one (ps_if (pt_cmpR (S.eqGK (K := K) rfl (S.hu64 hr)) (S.pe_fldK (K := K) rfl (pv 2) rfl) (pv 1) (nomark _)) (pss_one (ps_ret (pv 2))) pss_nil)))
      (pss_one (S.ps_raiseO rfl (takes_of rfl rfl rfl rfl) T.ox_NoPlace T.xi_NoPlace T.xt_NoPlace G_NoPlace___init__ (hr.mono (by decide)) (kb_NoPlace___init___2 T) rfl T.g_NoPlace (pa_cons (pv 1) pa_nil)))), ?_⟩
  obtain ⟨_, _, rfl, p, rows, st, r, rfl, ⟨dx, l, u, k, F⟩, rfl, hr', nd, q⟩ := h
  refine ⟨_, rfl, p, _, dx, _, _, rfl, F.at_, T.cl_Program, T.na_Program_places, lg_places _ _ _ _, l, _, rfl, .inl (.inl (.inl F.pl)), fun It wk => for_seq wk (fun i σ J => J = H ∧ (∃ v, σ = [some (.ref p), some (.str r.d.n), v]) ∧ ∀ r' ∈ rows.take i, r' ≠ r) ⟨rfl, ⟨_, rfl⟩, fun _ h => by simp at h⟩ (fun i σ J _ h => by rw [h.1]; exact fun _ _ z => z) ?_ ?_⟩
  · rintro i x σ J hx ⟨rfl, ⟨v, rfl⟩, no⟩
    rw [List.getElem?_map] at hx
    obtain ⟨r1, h1, rfl⟩ := Option.map_eq_some_iff.mp hx
    have m1 := List.mem_of_getElem? h1
    obtain ⟨⟨dr, er⟩, _⟩ := F.rw_ r1 m1
    refine ⟨_, rfl, r1.a, _, dr, _, _, rfl, er, T.cl_Place, T.na_Place_name, lk_name _ _ _ _, _, rfl, 0, _, by decide, eg_str.eq, _, rfl, ?_⟩
    by_cases c : r1.d.n = r.d.n
    · have e := nm_one nd m1 hr' c
      subst e
      exact iteY (by simp) ⟨_, rfl, q⟩
    · refine iteN (by simpa using c) ⟨rfl, ⟨_, rfl⟩, fun r' h e => ?_⟩
      rw [List.take_add_one, h1] at h
      rcases List.mem_append.mp h with h | h
      · exact no r' h e
      · rw [show r' = r1 by simpa using h] at e
        exact c (by rw [e])
  · rintro σ J ⟨rfl, ⟨v, rfl⟩, no⟩
    rw [List.length_map, List.take_length] at no
    exact absurd rfl (no r hr')
end
end W

namespace W
open PySem PySem.Spec PyProof.Rows L2
section
variable {P : Program} {w : World} {K : S.Frag} {mg : Str → Option Value} {base : Heap}
open S
/-! equal programs -/
def vw (rows : List Rw) : List (Pl × List Str) := rows.map fun r => (r.d, r.nx)
def tupOf (H : Hp) : V → List V
  | .ref a => match H a with
    | some (.tup xs) => xs
    | _ => []
  | _ => []
def lkOf (rows : List Rw) : List (Key × V) := rows.map fun r => (.inr r.d.n, .ref r.ta)
theorem valV_rows {rows : List Rw} (nd : (rNames rows).Nodup) {r : Rw} (h : r ∈ rows) : valV (lkOf rows) (.inr r.d.n) = some (.ref r.ta) := by
  unfold valV
  cases e : (lkOf rows).find? fun kv => decide (kv.1 = Sum.inr r.d.n) with
  | none =>
    have := List.find?_eq_none.mp e (.inr r.d.n, .ref r.ta) (List.mem_map.mpr ⟨r, h, rfl⟩)
    simp at this
  | some kv =>
    have h1 := List.find?_some e
    obtain ⟨r', hr', rfl⟩ := List.mem_map.mp (List.mem_of_find?_eq_some e)
    have h2 : r'.d.n = r.d.n := by simpa using h1
    have := nm_one nd hr' h h2
    subst this
    rfl
theorem valV_out {rows : List Rw} {z : Str} {y : V} (h : valV (lkOf rows) (.inr z) = some y) : ∃ r ∈ rows, r.d.n = z ∧ y = .ref r.ta := by
  unfold valV at h
  obtain ⟨kv, e, rfl⟩ := Option.map_eq_some_iff.mp h
  have h1 := List.find?_some e
  obtain ⟨r', hr', rfl⟩ := List.mem_map.mp (List.mem_of_find?_eq_some e)
  exact ⟨r', hr', by simpa using h1, rfl⟩
def fTup (H : Hp) (x y : V) : Bool := decide (tupOf H x = tupOf H y)
theorem tupOf_at {H : Hp} {a : Addr} {xs : List V} (h : H a = some (.tup xs)) : tupOf H (.ref a) = xs := by
  simp only [tupOf, h]
theorem names_at {rows rows' : List Rw} (e : rNames rows = rNames rows') {i : Nat} {r : Rw} (h : rows[i]? = some r) : ∃ r', rows'[i]? = some r' ∧ r'.d.n = r.d.n := by
  have : (rNames rows')[i]? = some r.d.n := by
    rw [← e]
    unfold rNames
    rw [List.getElem?_map, h]
    rfl
  unfold rNames at this
  rw [List.getElem?_map] at this
  exact Option.map_eq_some_iff.mp this
theorem hits_rows {H : Hp} {rows rows' : List Rw} (nd : (rNames rows').Nodup) (e : rNames rows = rNames rows') (h : ∀ r ∈ rows, H r.ta = some (.tup (r.nx.map V.str))) (h' : ∀ r ∈ rows', H r.ta = some (.tup (r.nx.map V.str))) :
    hitsV (fTup H) (lkOf rows) (lkOf rows') = decide (rows.map (·.nx) = rows'.map (·.nx)) := by
  unfold hitsV
  rw [Bool.eq_iff_iff, List.all_eq_true, decide_eq_true_eq]
  have one : ∀ (i : Nat) (r r' : Rw), rows[i]? = some r → rows'[i]? = some r' → ((match valV (lkOf rows') (.inr r.d.n) with | some y => fTup H (.ref r.ta) y | none => false) = true ↔ r.nx = r'.nx) := fun i r r' hr hr' => by
    obtain ⟨r2, e2, n2⟩ := names_at e hr
    rw [hr'] at e2
    cases e2
    rw [← n2, valV_rows nd (List.mem_of_getElem? hr')]
    show fTup H (.ref r.ta) (.ref r'.ta) = true ↔ _
    unfold fTup
    rw [decide_eq_true_eq, tupOf_at (h r (List.mem_of_getElem? hr)), tupOf_at (h' r' (List.mem_of_getElem? hr'))]
    exact ⟨mapS_inj, fun z => by rw [z]⟩
  have ln : rows.length = rows'.length := by
    have := congrArg List.length e
    unfold rNames at this
    rwa [List.length_map, List.length_map] at this
  constructor
  · intro al
    refine List.ext_getElem? fun i => ?_
    rw [List.getElem?_map, List.getElem?_map]
    cases hr : rows[i]? with
    | none =>
      rw [List.getElem?_eq_none (by have := List.getElem?_eq_none_iff.mp hr; omega)]
    | some r =>
      obtain ⟨r', e', _⟩ := names_at e hr
      rw [e']
      have := (one i r r' hr e').mp (al (.inr r.d.n, .ref r.ta) (List.mem_map.mpr ⟨r, List.mem_of_getElem? hr, rfl⟩))
      simp [this]
  · rintro eq p hp
    obtain ⟨r, hm, rfl⟩ := List.mem_map.mp hp
    obtain ⟨i, hi⟩ := List.getElem?_of_mem hm
    obtain ⟨r', e', _⟩ := names_at e hi
    refine (one i r r' hi e').mpr ?_
    have := congrArg (fun l => l[i]?) eq
    simp only [List.getElem?_map, hi, e', Option.map_some, Option.some.injEq] at this
    exact this
theorem eg_key {H : Hp} {k k' : Addr} {d d' : Pl} (h : H k = some (.tup [.str d.n, .int d.l, .int d.m, .bl d.t])) (h' : H k' = some (.tup [.str d'.n, .int d'.l, .int d'.m, .bl d'.t])) : EqG K H 5 (.ref k) (.ref k') (decide (d = d')) := by
  have q := eg_dat (K := K) (H := H) (.tup (.inl (.inl h)) (.cons (.str _) (.cons (.int _) (.cons (.int _) (.cons (.bl _) .nil))))) (.tup (.inl (.inl h')) (.cons (.str _) (.cons (.int _) (.cons (.int _) (.cons (.bl _) .nil))))) rfl rfl
  refine (q.to ?_).up (by simp [PyData.depth, PyData.depthAll])
  obtain ⟨a, b, c, e⟩ := d
  obtain ⟨a', b', c', e'⟩ := d'
  simp only [PyData.eqv, PyData.eqvAll]
  rw [Bool.eq_iff_iff]
  simp
def spPgEq (K : S.Frag) : Sp := Sp2 fun x y H Q _ => ∃ (p p' : Addr) (rows rows' : List Rw) (s s' : Str), x = .ref p ∧ y = .ref p' ∧ PgAt K H p rows s ∧ PgAt K H p' rows' s' ∧ okRows rows ∧ okRows rows' ∧
  ∀ H', Same H H' → Q (.bl (decide (vw rows = vw rows' ∧ s = s'))) H'
theorem vw_names {rows rows' : List Rw} (h : vw rows = vw rows') : rNames rows = rNames rows' := by
  have := congrArg (List.map fun z : Pl × List Str => z.1.n) h
  unfold vw at this
  rw [List.map_map, List.map_map] at this
  exact this
theorem vw_nx {rows rows' : List Rw} (h : vw rows = vw rows') : rows.map (·.nx) = rows'.map (·.nx) := by
  have := congrArg (List.map Prod.snd) h
  unfold vw at this
  rw [List.map_map, List.map_map] at this
  exact this
theorem vw_of {rows rows' : List Rw} (hl : rows.length = rows'.length) (h1 : ∀ (i : Nat) (r r' : Rw), i < rows.length → rows[i]? = some r → rows'[i]? = some r' → r.d = r'.d) (h2 : rows.map (·.nx) = rows'.map (·.nx)) : vw rows = vw rows' := by
  unfold vw
  refine List.ext_getElem? fun i => ?_
  rw [List.getElem?_map, List.getElem?_map]
  by_cases c : i < rows.length
  · have e1 := List.getElem?_eq_getElem c
    have e2 := List.getElem?_eq_getElem (show i < rows'.length by omega)
    have n := congrArg (fun l => l[i]?) h2
    simp only [List.getElem?_map, e1, e2, Option.map_some, Option.some.injEq] at n
    rw [e1, e2]
    simp [h1 i _ _ c e1 e2, n]
  · rw [List.getElem?_eq_none (by omega), List.getElem?_eq_none (by omega)]
theorem ok_Program___eq__ (T : Txt K mg) : FnOk P w K mg base (L2.CX P w) 2 (He.fAd K ("Program", some "__eq__")) (S.fdA K ("Program", some "__eq__")) ["self", "other"] (spPgEq K) := by
  have G_Place_place_key := ok_Place_place_key (P := P) (w := w) (base := base) T
  refine FunD.ok T.F_Program___eq__ sc_Program___eq__ (fun vs H Q E h => S.splen2 h) (fun cdv A outer s H vs Q E hr h => ?_)
  have hu := hu_of hr
  refine ⟨_, (pss_cons (ps_if (pt_not (pt_val (pe_callB (S.isiK (K := K) rfl) rfl T.n_isinstance S.boot_isinstance (pa_cons (pv 1) (pa_cons (pe_glob (v := .ref _) rfl T.g_Program rfl) pa_nil))))) (pss_one (ps_ret pe_bl)) pss_nil)
      (pss_cons (ps_if (PW.pt (pw_or (pt_cmpR (S.neGK (K := K) rfl (S.hu64 hr)) (S.pe_fldK (K := K) rfl (pv 0) rfl) (S.pe_fldK (K := K) rfl (pv 1) rfl) (nomark _)) (pw_or (pt_cmpR (S.neGK (K := K) rfl (S.hu64 hr)) (S.pe_fldK (K := K) rfl (pv 0) rfl) (S.pe_fldK (K := K) rfl (pv 1) rfl) (nomark _)) (pw_or1 (pt_cmpR (S.neGK (K := K) rfl (S.hu64 hr)) (S.pe_fldK (K := K) rfl (pv 0) rfl) (S.pe_fldK (K := K) rfl (pv 1) rfl) (nomark _)))))) (pss_one (ps_ret pe_bl)) pss_nil)
      (pss_cons (ps_for (S.own_of rfl) rfl (pi_range1 rfl T.n_range (pa_cons (pe_callB (S.lenK (K := K) rfl) rfl T.n_len S.boot_len (pa_cons (S.pe_fldK (K := K) rfl (pv 0) rfl) pa_nil)) pa_nil)) (pg_name (i := 2) sc_Program___eq__.nd rfl (by first | exact Or.inl rfl | exact Or.inr rfl))
        (pss_one (ps_if (pt_cmpR (S.neGK (K := K) rfl (S.hu64 hr)) (S.pe_mtS0 (pe_ix (S.ixK (K := K) rfl) (S.pe_fldK (K := K) rfl (pv 0) rfl) (pv 2) (fun _ _ => rfl)) T.cl_Place T.me_Place_place_key G_Place_place_key (hr.mono (by decide)) (kb_Place_place_key_1 T) S.pas0  pk_nil rfl rfl) (S.pe_mtS0 (pe_ix (S.ixK (K := K) rfl) (S.pe_fldK (K := K) rfl (pv 1) rfl) (pv 2) (fun _ _ => rfl)) T.cl_Place T.me_Place_place_key G_Place_place_key (hr.mono (by decide)) (kb_Place_place_key_1 T) S.pas0  pk_nil rfl rfl) (nomark _)) (pss_one (ps_ret pe_bl)) pss_nil)))
      (pss_one (ps_ret pe_bl))))), ?_⟩
  obtain ⟨_, _, rfl, p, p', rows, rows', st, st', rfl, rfl, ⟨dx, l, u, k, F⟩, ⟨dx', l', u', k', F'⟩, ok, ok', q⟩ := h
  have bad : ∀ H', Same H H' → ¬ (vw rows = vw rows' ∧ st = st') → Q (.bl false) H' := fun H' s1 n => by
    have := q H' s1
    rw [decide_eq_false n] at this
    exact this
  refine ⟨_, rfl, _, _, _, _, true, rfl, .own _, T.is_Program.ty T.cl_Program F'.at_, T.ko_Program_Program, _, rfl, iteF ?_⟩
  refine ⟨_, rfl, p, _, dx, _, _, rfl, F.at_, T.cl_Program, T.na_Program_names, lg_names _ _ _ _, _, rfl, p', _, dx', _, _, rfl, F'.at_, T.cl_Program, T.na_Program_names, lg_names _ _ _ _, 1, _, by decide, (eg_tups (.inl (.inl F.nm)) (.inl (.inl F'.nm)) fun e => ?_).ne, _, rfl, ?_⟩
  · subst e
    have := F.nm.symm.trans F'.nm
    injection this with this
    injection this with this
    exact mapS_inj this
  by_cases c1 : rNames rows = rNames rows'
  · rw [decide_eq_true c1]
    refine iteN (by decide) ?_
    have he : ∀ z ∈ lkOf rows, ∀ y, valV (lkOf rows') z.1 = some y → EqOk K H 1 z.2 y (fTup H z.2 y) := by
      intro z hz y hy
      obtain ⟨r, hr', rfl⟩ := List.mem_map.mp hz
      obtain ⟨r', h1, _, rfl⟩ := valV_out hy
      have e1 := (F.rw_ r hr').2
      have e2 := (F'.rw_ r' h1).2
      refine (eg_tups (n := 0) (.inl (.inl e1)) (.inl (.inl e2)) fun e => ?_).at_.to ?_
      · rw [e] at e1
        have := e1.symm.trans e2
        injection this with this
        injection this with this
        exact mapS_inj this
      · unfold fTup
        rw [tupOf_at e1, tupOf_at e2, Bool.eq_iff_iff]
        simp only [decide_eq_true_eq]
        exact ⟨fun z => by rw [z], mapS_inj⟩
    refine ⟨_, rfl, p, _, dx, _, _, rfl, F.at_, T.cl_Program, T.na_Program_links, lg_links _ _ _ _, _, rfl, p', _, dx', _, _, rfl, F'.at_, T.cl_Program, T.na_Program_links, lg_links _ _ _ _, 2, _, by decide, (eg_dict (f := fTup H) F.lk F'.lk he).2, _, rfl, ?_⟩
    have ln : rows.length = rows'.length := by
      have := congrArg List.length c1
      unfold rNames at this
      rwa [List.length_map, List.length_map] at this
    have hh := hits_rows (H := H) ok'.nd c1 (fun r hr' => (F.rw_ r hr').2) (fun r hr' => (F'.rw_ r hr').2)
    unfold lkOf at hh
    rw [hh, List.length_map, List.length_map, decide_eq_true ln, Bool.true_and]
    by_cases c2 : rows.map (·.nx) = rows'.map (·.nx)
    · rw [decide_eq_true c2]
      refine iteN (by decide) ?_
      refine ⟨_, rfl, p, _, dx, _, _, rfl, F.at_, T.cl_Program, T.na_Program_start, lg_start _ _ _ _, _, rfl, p', _, dx', _, _, rfl, F'.at_, T.cl_Program, T.na_Program_start, lg_start _ _ _ _, 0, _, by decide, eg_str.ne, _, rfl, ?_⟩
      by_cases c3 : st = st'
      · rw [decide_eq_true c3]
        refine iteN (by decide) ?_
        have l6 := ok.l6
        refine ⟨_, rfl, p, _, dx, _, _, rfl, F.at_, T.cl_Program, T.na_Program_places, lg_places _ _ _ _, _, _, rfl, lenVX (.inl (.inl (.inl F.pl))), _, rfl, by omega, by rw [List.length_map]; omega, ?_⟩
        refine for_range (n := (rows.map fun r => V.ref r.a).length) (fun i σ J => Same H J ∧ (∃ t, σ = [some (.ref p), some (.ref p'), t]) ∧ ∀ j r r', j < i → rows[j]? = some r → rows'[j]? = some r' → r.d = r'.d) ⟨fun _ _ h => h, ⟨_, rfl⟩, fun _ _ _ h => absurd h (Nat.not_lt_zero _)⟩ ?_ ?_
        · rintro i σ J hi ⟨sJ, ⟨t, rfl⟩, no⟩
          rw [List.length_map] at hi
          have e0 : ((0 : Int) + (i : Int)) = (i : Int) := by omega
          rw [e0]
          have e1 := List.getElem?_eq_getElem hi
          have e2 := List.getElem?_eq_getElem (show i < rows'.length by omega)
          have G := F.same sJ
          have G' := F'.same sJ
          have x1 : atI (rows.map fun r => V.ref r.a) (i : Int) = some (.ref rows[i].a) := atI_nat (by rw [List.getElem?_map, e1]; rfl)
          have x2 : atI (rows'.map fun r => V.ref r.a) (i : Int) = some (.ref (rows'[i]'(by omega)).a) := atI_nat (by rw [List.getElem?_map, e2]; rfl)
          have p1 := (F.rw_ _ (List.mem_of_getElem? e1)).1
          have p2 := (F'.rw_ _ (List.mem_of_getElem? e2)).1
          obtain ⟨d1, q1⟩ := p1.same sJ
          refine ⟨_, rfl, p, _, dx, _, _, rfl, G.at_, T.cl_Program, T.na_Program_places, lg_places _ _ _ _, _, rfl, ixX (.inl (.inl (.inl G.pl))) x1 ⟨_, d1, _, rfl, q1, lk_key _ _ _ _, rfl, rfl, _, rfl, _, _, _, _, _, rfl, p1.same sJ, fun k1 hk1 => ?_⟩⟩
          have s1 := sJ.trans (Same.new (o := .tup [.str rows[i].d.n, .int rows[i].d.l, .int rows[i].d.m, .bl rows[i].d.t]) hk1)
          have G2 := F'.same s1
          obtain ⟨d2, q2⟩ := p2.same s1
          refine ⟨_, rfl, p', _, dx', _, _, rfl, G2.at_, T.cl_Program, T.na_Program_places, lg_places _ _ _ _, _, rfl, ixX (.inl (.inl (.inl G2.pl))) x2 ⟨_, d2, _, rfl, q2, lk_key _ _ _ _, rfl, rfl, _, rfl, _, _, _, _, _, rfl, p2.same s1, fun k2 hk2 => ?_⟩⟩
          refine ⟨5, _, by decide, (eg_key (Same.new hk2 _ _ upd_same) upd_same).ne, _, rfl, ?_⟩
          have s2 := s1.trans (Same.new (o := .tup [.str (rows'[i]'(by omega)).d.n, .int (rows'[i]'(by omega)).d.l, .int (rows'[i]'(by omega)).d.m, .bl (rows'[i]'(by omega)).d.t]) hk2)
          by_cases c4 : rows[i].d = (rows'[i]'(by omega)).d
          · rw [decide_eq_true c4]
            refine iteN (by decide) ⟨s2, ⟨_, rfl⟩, fun j r r' hj h1 h2 => ?_⟩
            rcases Nat.lt_succ_iff_lt_or_eq.mp hj with h | rfl
            · exact no j r r' h h1 h2
            · rw [e1] at h1
              rw [e2] at h2
              cases h1
              cases h2
              exact c4
          · rw [decide_eq_false c4]
            refine iteY (by decide) (bad _ s2 ?_)
            rintro ⟨v, _⟩
            have := congrArg (fun l => l[i]?) v
            unfold vw at this
            simp only [List.getElem?_map, e1, e2, Option.map_some, Option.some.injEq, Prod.mk.injEq] at this
            exact c4 this.1
        · rintro σ J ⟨sJ, ⟨t, rfl⟩, no⟩
          rw [List.length_map] at no
          have := q J sJ
          rw [decide_eq_true ⟨vw_of ln (fun i r r' h => no i r r' h) c2, c3⟩] at this
          exact this
      · rw [decide_eq_false c3]
        exact iteY (by decide) (bad _ (fun _ _ z => z) fun z => c3 z.2)
    · rw [decide_eq_false c2]
      exact iteY (by decide) (bad _ (fun _ _ z => z) fun z => c2 (vw_nx z.1))
  · rw [decide_eq_false c1]
    exact iteY (by decide) (bad _ (fun _ _ z => z) fun z => c1 (vw_names z.1))
end
end W

namespace W
open PySem PySem.Spec PyProof.Rows L2
section
variable {P : Program} {w : World} {K : S.Frag} {mg : Str → Option Value} {base : Heap}
open S
/-! draws go on, all else stands -/
structure Dw (H H' : Hp) : Prop where
  kp : ∀ b o, (∀ n : Int, o ≠ .lst [.int n]) → H b = some o → H' b = some o
  dr : ∀ (b : Addr) (n : Int), H b = some (.lst [.int n]) → ∃ m : Int, H' b = some (.lst [.int m])
theorem Dw.refl {H : Hp} : Dw H H := ⟨fun _ _ _ h => h, fun _ n h => ⟨n, h⟩⟩
theorem Dw.trans {H H1 H2 : Hp} (x : Dw H H1) (y : Dw H1 H2) : Dw H H2 := ⟨fun b o n h => y.kp b o n (x.kp b o n h), fun b n h => let ⟨m, e⟩ := x.dr b n h; y.dr b m e⟩
theorem Dw.of {H H' : Hp} (s : Same H H') : Dw H H' := ⟨fun b o _ h => s b o h, fun b n h => ⟨n, s _ _ h⟩⟩
theorem Dw.new {H : Hp} {p : Addr} {o : HO} (h : H p = none) : Dw H (upd H p o) := Dw.of (Same.new h)
theorem Dw.take {H : Hp} {a : Addr} {n m : Int} (h : H a = some (.lst [.int n])) : Dw H (upd H a (.lst [.int m])) := by
  refine ⟨fun b o no hb => ?_, fun b n' hb => ?_⟩
  · by_cases e : b = a
    · subst e
      rw [h] at hb
      cases hb
      exact absurd rfl (no n)
    · rw [upd_ne e]; exact hb
  · by_cases e : b = a
    · subst e
      exact ⟨m, upd_same⟩
    · exact ⟨n', by rw [upd_ne e]; exact hb⟩
theorem Dw.dr_ {H H' : Hp} {a : Addr} {n : Int} (h : H a = some (.lst [.int n])) (d : Dr a H H') : Dw H H' := by
  refine ⟨fun b o no hb => ?_, fun b n' hb => ?_⟩
  · by_cases e : b = a
    · subst e
      rw [h] at hb
      cases hb
      exact absurd rfl (no n)
    · exact d.kp b o e hb
  · by_cases e : b = a
    · subst e
      exact d.at_
    · exact ⟨n', d.kp b _ e hb⟩
theorem Dw.fresh {H J : Hp} {p : Addr} {o : HO} (d : Dw H J) (h : H p = none) : Dw H (upd J p o) :=
  ⟨fun b u no hb => by rw [upd_ne (ne_of_none hb h)]; exact d.kp b u no hb, fun b n hb => by rw [upd_ne (ne_of_none hb h)]; exact d.dr b n hb⟩
theorem Dw.back {H J : Hp} {p : Addr} (d : Dw H J) (h : J p = none) : H p = none := by
  cases e : H p with
  | none => rfl
  | some o =>
    by_cases c : ∃ n : Int, o = .lst [.int n]
    · obtain ⟨n, rfl⟩ := c
      obtain ⟨m, e2⟩ := d.dr p n e
      rw [h] at e2
      cases e2
    · have := d.kp p o (fun n z => c ⟨n, z⟩) e
      rw [h] at this
      cases this
theorem Dw.tup {H J : Hp} {a : Addr} {xs : List V} (d : Dw H J) (h : H a = some (.tup xs)) : J a = some (.tup xs) := d.kp _ _ (fun _ z => by cases z) h
theorem Dw.dK {H J : Hp} {a : Addr} {xs : List (Key × V)} (d : Dw H J) (h : H a = some (.dK xs)) : J a = some (.dK xs) := d.kp _ _ (fun _ z => by cases z) h
theorem Dw.ins {H J : Hp} {a C dx : Addr} {xs : List (Str × V)} (d : Dw H J) (h : H a = some (.ins C dx xs)) : J a = some (.ins C dx xs) := d.kp _ _ (fun _ z => by cases z) h
theorem Dw.refs {H J : Hp} {a : Addr} {xs : List Addr} (d : Dw H J) (h : H a = some (.lst (xs.map V.ref))) : J a = some (.lst (xs.map V.ref)) := d.kp _ _ (fun n z => by cases xs with | nil => cases z | cons y ys => cases z) h
theorem Dw.strs {H J : Hp} {a : Addr} {xs : List Str} (d : Dw H J) (h : H a = some (.lst (xs.map V.str))) : J a = some (.lst (xs.map V.str)) := d.kp _ _ (fun n z => by cases xs with | nil => cases z | cons y ys => cases z) h
/-! the law's rows -/
def rowL (r : Rw) : List V := [.str r.d.n, .int r.d.l, .int r.d.m, .bl r.d.t, .ref r.ta]
structure RowsAt (H : Hp) (R : Addr) (rows : List Rw) : Prop where
  at_ : H R = some (.lst (rows.map fun r => .ref r.a))
  row : ∀ r ∈ rows, H r.a = some (.lst (rowL r)) ∧ H r.ta = some (.tup (r.nx.map V.str))
theorem Dw.row {H J : Hp} {a : Addr} {r : Rw} (d : Dw H J) (h : H a = some (.lst (rowL r))) : J a = some (.lst (rowL r)) := d.kp _ _ (fun n z => by unfold rowL at z; cases z) h
theorem Dw.rref {H J : Hp} {a : Addr} {rows : List Rw} (d : Dw H J) (h : H a = some (.lst (rows.map fun r => .ref r.a))) : J a = some (.lst (rows.map fun r => .ref r.a)) := by
  have e : (rows.map fun r => V.ref r.a) = (rows.map fun r => r.a).map V.ref := by rw [List.map_map]; rfl
  rw [e] at h ⊢
  exact d.refs h
theorem RowsAt.dw {H J : Hp} {R : Addr} {rows : List Rw} (h : RowsAt H R rows) (d : Dw H J) : RowsAt J R rows := ⟨d.rref h.at_, fun r hr => ⟨d.row (h.row r hr).1, d.tup (h.row r hr).2⟩⟩
theorem RowsAt.same {H J : Hp} {R : Addr} {rows : List Rw} (h : RowsAt H R rows) (d : Same H J) : RowsAt J R rows := h.dw (.of d)
/-- what _law_rows makes -/
structure okDrawn (M G : Int) (rows : List Rw) : Prop where
  ok : okRows rows
  many : (rows.length : Int) ≤ M
  long : ∀ r ∈ rows, r.d.m ≤ G
  nda : (rows.map fun r => r.a).Nodup
def spRows (K : S.Frag) : Sp := Sp4 fun x y m g H Q _ => ∃ (a u : Addr) (n1 n2 M G : Int), x = .ref a ∧ y = .ref u ∧ H a = some (.lst [.int n1]) ∧ H u = some (.lst [.int n2]) ∧ m = .int M ∧ 1 ≤ M ∧ M ≤ 6 ∧ g = .int G ∧ 1 ≤ G ∧ G ≤ 6 ∧
  ∀ R rows H', Dw H H' → H R = none → (∀ r ∈ rows, H r.a = none) → RowsAt H' R rows → okDrawn M G rows → Q (.ref R) H'
theorem mod_inj {n s w j j' : Int} (hn : 0 < n) (hw : w = 1 ∨ w = -1) (h0 : 0 ≤ j) (h1 : j < n) (h0' : 0 ≤ j') (h1' : j' < n) (e : (s + w * j) % n = (s + w * j') % n) : j = j' := by
  have h := Int.emod_emod_of_dvd
  have d : (n : Int) ∣ (s + w * j) - (s + w * j') := Int.dvd_of_emod_eq_zero (by rw [Int.sub_emod, e, Int.sub_self]; simp)
  obtain ⟨c, hc⟩ := d
  rcases hw with rfl | rfl
  · have e2 : j - j' = n * c := by rw [← hc]; omega
    have : c = 0 := by
      rcases Int.lt_trichotomy c 0 with z | z | z
      · have : n * c ≤ n * (-1) := Int.mul_le_mul_of_nonneg_left (by omega) (by omega)
        omega
      · exact z
      · have : n * 1 ≤ n * c := Int.mul_le_mul_of_nonneg_left (by omega) (by omega)
        omega
    subst this
    omega
  · have e2 : j' - j = n * c := by rw [← hc]; omega
    have : c = 0 := by
      rcases Int.lt_trichotomy c 0 with z | z | z
      · have : n * c ≤ n * (-1) := Int.mul_le_mul_of_nonneg_left (by omega) (by omega)
        omega
      · exact z
      · have : n * 1 ≤ n * c := Int.mul_le_mul_of_nonneg_left (by omega) (by omega)
        omega
    subst this
    omega
/-- rows whose nexts are not drawn yet -/
structure okRaw (G : Int) (rows : List Rw) : Prop where
  nd : (rNames rows).Nodup
  pl : ∀ r ∈ rows, isNm r.d.n = true ∧ 1 ≤ r.d.l ∧ r.d.l ≤ r.d.m ∧ r.d.m ≤ G
  nda : (rows.map fun r => r.a).Nodup
  nx : ∀ r ∈ rows, r.nx = []
theorem row_ne {H : Hp} {R : Addr} {rows : List Rw} {r : Rw} (h : H r.a = some (.lst (rowL r))) (hR : H R = some (.lst (rows.map fun r => .ref r.a))) : r.a ≠ R := ne_of h hR (by
  intro z
  injection z with z
  unfold rowL at z
  cases rows with
  | nil => cases z
  | cons y ys => cases z)
theorem nda_ne {rows : List Rw} (nd : (rows.map fun r => r.a).Nodup) {i j : Nat} {r r' : Rw} (hi : rows[i]? = some r) (hj : rows[j]? = some r') (e : r.a = r'.a) : i = j := by
  obtain ⟨h1, e1⟩ := List.getElem?_eq_some_iff.mp hi
  obtain ⟨h2, e2⟩ := List.getElem?_eq_some_iff.mp hj
  have q := List.pairwise_iff_getElem.mp nd
  simp only [List.length_map, List.getElem_map] at q
  rcases Nat.lt_trichotomy i j with g | g | g
  · exact absurd (by rw [e1, e2]; exact e) (q i j h1 h2 g)
  · exact g
  · exact absurd (by rw [e1, e2]; exact e.symm) (q j i h2 h1 g)
theorem set_same {α : Type} {l : List α} {i : Nat} {x : α} (h : l[i]? = some x) : l.set i x = l := by
  refine List.ext_getElem? fun k => ?_
  rw [List.getElem?_set]
  split
  · rename_i e
    subst e
    rw [h, if_pos (List.getElem?_eq_some_iff.mp h).1]
  · rfl
theorem getD_lt {α : Type} (l : List α) (d : α) {n : Nat} (h : n < l.length) : l.getD n d = l[n] := by
  rw [List.getD_eq_getElem?_getD, List.getElem?_eq_getElem h]
  rfl
def nmAt (rows : List Rw) (sh ww : Int) (k : Nat) : Str := (rNames rows).getD ((sh + ww * (k : Int)) % (rows.length : Int)).toNat ""
/-- one row's nexts are stored -/
theorem RowsAt.store {H : Hp} {R tt : Addr} {rows : List Rw} {i : Nat} {r : Rw} {ns : List Str} (h : RowsAt H R rows) (nd : (rows.map fun r => r.a).Nodup) (hi : rows[i]? = some r) (ht : H tt = some (.tup (ns.map V.str))) :
    RowsAt (upd H r.a (.lst (rowL { r with ta := tt, nx := ns }))) R (rows.set i { r with ta := tt, nx := ns }) := by
  have hr := h.row r (List.mem_of_getElem? hi)
  obtain ⟨hlt, ei⟩ := List.getElem?_eq_some_iff.mp hi
  refine ⟨?_, fun r' hr' => ?_⟩
  · rw [upd_ne (row_ne hr.1 h.at_).symm, h.at_, List.map_set]
    rw [set_same]
    rw [List.getElem?_map, hi]
    rfl
  · obtain ⟨j, hj, rfl⟩ := List.mem_iff_getElem.mp hr'
    rw [List.getElem_set]
    rw [List.length_set] at hj
    split
    · refine ⟨upd_same, ?_⟩
      rw [upd_ne (ne_of ht hr.1 (by intro z; cases z))]
      exact ht
    · rename_i ne
      have e2 := List.getElem?_eq_getElem hj
      have h2 := h.row _ (List.mem_of_getElem? e2)
      have n1 : (rows[j]).a ≠ r.a := fun z => ne (nda_ne nd hi e2 z.symm)
      rw [upd_ne n1, upd_ne (ne_of h2.2 hr.1 (by intro z; cases z))]
      exact h2
theorem ok__law_rows (T : Txt K mg) : FnOk P w K mg base (L2.CX P w) 3 (He.fAd K ("_law_rows", none)) (S.fdA K ("_law_rows", none)) ["_law_draw", "_law_words", "_law_many", "_law_longest"] (spRows K) := by
  have G__law_take := ok__law_take (P := P) (w := w) (base := base) T
  have G__law_name := ok__law_name (P := P) (w := w) (base := base) T
  refine FunD.ok T.F__law_rows sc__law_rows (fun vs H Q E h => S.splen4 h) (fun cdv A outer s H vs Q E hr h => ?_)
  have hu := hu_of hr
  refine ⟨_, (pss_cons (ps_set (i := 4) sc__law_rows.nd rfl (by first | exact Or.inl rfl | exact Or.inr rfl) (pe_lst pa_nil))
      (pss_cons (ps_for (S.own_of rfl) rfl (pi_range1 rfl T.n_range (pa_cons (pe_op op_add pe_int (S.pe_fnS G__law_take (hr.mono (by decide)) rfl T.g__law_take T.F__law_take.kp (kb__law_take_2 T) S.pas0 (pa_cons (pv 0) (pa_cons (pv 2) pa_nil)) pk_nil rfl rfl)) pa_nil)) (pg_name (i := 5) sc__law_rows.nd rfl (by first | exact Or.inl rfl | exact Or.inr rfl))
        (pss_cons (ps_set (i := 6) sc__law_rows.nd rfl (by first | exact Or.inl rfl | exact Or.inr rfl) (S.pe_fnS G__law_name (hr.mono (by decide)) rfl T.g__law_name T.F__law_name.kp (kb__law_name_2 T) S.pas0 (pa_cons (pv 1) (pa_cons (pe_lc (own := [("_law_row_here", 7)]) (g := gName 7) (tt := tYes) rfl sc__law_rows.nd (S.pi_seqK (K := K) rfl (pv 4)) (blkOk_by (N := ["_law_draw", "_law_words", "_law_many", "_law_longest", "_law_rows_here", "_law_k", "_law_word", "_law_row_here", "_law_low", "_law_shift", "_law_way", "_law_found", "_law_j"]) (sc := defScope s__law_rows) (by decide +kernel)) (fun _ _ _ _ _ => pg_name (i := 7) sc__law_rows.nd rfl (by first | exact Or.inl rfl | exact Or.inr rfl)) (fun _ _ _ _ _ => pts_nil) (fun _ _ _ _ _ => (pe_ix (S.ixK (K := K) rfl) (pv 7) pe_int (fun _ _ => rfl)))) pa_nil)) pk_nil rfl rfl))
      (pss_cons (ps_set (i := 8) sc__law_rows.nd rfl (by first | exact Or.inl rfl | exact Or.inr rfl) (pe_op op_add pe_int (S.pe_fnS G__law_take (hr.mono (by decide)) rfl T.g__law_take T.F__law_take.kp (kb__law_take_2 T) S.pas0 (pa_cons (pv 0) (pa_cons (pv 3) pa_nil)) pk_nil rfl rfl)))
      (pss_one (ps_expr (pe_bm PySem.F.plainAttrs_list PySem.F.slot_list_append PySem.F.type_list_append mt_append (pv 4) (pa_cons (pe_lst (pa_cons (pv 6) (pa_cons (pv 8) (pa_cons (pe_op op_add (pv 8) (S.pe_fnS G__law_take (hr.mono (by decide)) rfl T.g__law_take T.F__law_take.kp (kb__law_take_2 T) S.pas0 (pa_cons (pv 0) (pa_cons (pe_op op_sub (pe_op op_add (pv 3) pe_int) (pv 8)) pa_nil)) pk_nil rfl rfl)) (pa_cons (pe_cmpR op_gt (S.pe_fnS G__law_take (hr.mono (by decide)) rfl T.g__law_take T.F__law_take.kp (kb__law_take_2 T) S.pas0 (pa_cons (pv 0) (pa_cons pe_int pa_nil)) pk_nil rfl rfl) pe_int (nomark _)) (pa_cons (pe_tup pa_nil) pa_nil)))))) pa_nil)))))))
      (pss_cons (ps_for (S.own_of rfl) rfl (pi_range1 rfl T.n_range (pa_cons (pe_callB (S.lenK (K := K) rfl) rfl T.n_len S.boot_len (pa_cons (pv 4) pa_nil)) pa_nil)) (pg_name (i := 5) sc__law_rows.nd rfl (by first | exact Or.inl rfl | exact Or.inr rfl))
        (pss_cons (ps_set (i := 9) sc__law_rows.nd rfl (by first | exact Or.inl rfl | exact Or.inr rfl) (S.pe_fnS G__law_take (hr.mono (by decide)) rfl T.g__law_take T.F__law_take.kp (kb__law_take_2 T) S.pas0 (pa_cons (pv 0) (pa_cons (pe_callB (S.lenK (K := K) rfl) rfl T.n_len S.boot_len (pa_cons (pv 4) pa_nil)) pa_nil)) pk_nil rfl rfl))
      (pss_cons (ps_set (i := 10) sc__law_rows.nd rfl (by first | exact Or.inl rfl | exact Or.inr rfl) (pe_op op_sub pe_int (pe_op S.op_mulA pe_int (S.pe_fnS G__law_take (hr.mono (by decide)) rfl T.g__law_take T.F__law_take.kp (kb__law_take_2 T) S.pas0 (pa_cons (pv 0) (pa_cons pe_int pa_nil)) pk_nil rfl rfl))))
      (pss_cons (ps_set (i := 11) sc__law_rows.nd rfl (by first | exact Or.inl rfl | exact Or.inr rfl) (pe_lst pa_nil))
      (pss_cons (ps_for (S.own_of rfl) rfl (pi_range1 rfl T.n_range (pa_cons (pe_callB (S.lenK (K := K) rfl) rfl T.n_len S.boot_len (pa_cons (pv 4) pa_nil)) pa_nil)) (pg_name (i := 12) sc__law_rows.nd rfl (by first | exact Or.inl rfl | exact Or.inr rfl))
        (pss_one (ps_if (pt_cmpR op_gt (S.pe_fnS G__law_take (hr.mono (by decide)) rfl T.g__law_take T.F__law_take.kp (kb__law_take_2 T) S.pas0 (pa_cons (pv 0) (pa_cons pe_int pa_nil)) pk_nil rfl rfl) pe_int (nomark _)) (pss_one (ps_expr (pe_bm PySem.F.plainAttrs_list PySem.F.slot_list_append PySem.F.type_list_append mt_append (pv 11) (pa_cons (pe_ix (S.ixK (K := K) rfl) (pe_ix (S.ixK (K := K) rfl) (pv 4) (pe_op op_mod (pe_op op_add (pv 9) (pe_op S.op_mulA (pv 10) (pv 12))) (pe_callB (S.lenK (K := K) rfl) rfl T.n_len S.boot_len (pa_cons (pv 4) pa_nil))) (fun _ _ => rfl)) pe_int (fun _ _ => rfl)) pa_nil)))) pss_nil)))
      (pss_cons (ps_set (i := 7) sc__law_rows.nd rfl (by first | exact Or.inl rfl | exact Or.inr rfl) (pe_ix (S.ixK (K := K) rfl) (pv 4) (pv 5) (fun _ _ => rfl)))
      (pss_one (ps_asg (pe_callTy (S.tupOfK (K := K) rfl) rfl T.n_tuple S.boot_tuple (pa_cons (pv 11) pa_nil)) (pg_sub (pv 7) pe_int set_list)))))))))
      (pss_one (ps_ret (pv 4)))))), ?_⟩
  obtain ⟨_, _, _, _, rfl, a, u, n1, n2, M, G, rfl, rfl, ha, hu0, rfl, m1, m6, rfl, g1, g6, q⟩ := h
  have nau : ∀ {J : Hp} {D : Addr}, J u = some (.lst [.int n2]) → J D = none → u ≠ D := fun h1 h2 => ne_of_none h1 h2
  refine ⟨by decide, fun R hR => ?_⟩
  refine ⟨_, rfl, _, rfl, rfl, rfl, _, _, rfl, a, n1, M, rfl, Same.new hR _ _ ha, rfl, by omega, by omega, fun t0 n' t1 t2 => ⟨_, _, rfl, rfl, _, rfl, by omega, by omega, ?_⟩⟩
  have d0 : Dw H (upd (upd H R (.lst [])) a (.lst [.int n'])) := (Dw.new hR).trans (Dw.take (Same.new hR _ _ ha))
  have eR0 : upd (upd H R (.lst [])) a (.lst [.int n']) R = some (.lst []) := by rw [upd_ne (ne_of_none ha hR).symm]; exact upd_same
  refine for_range (n := (1 + t0).toNat) (fun i σ J => Dw H J ∧ (∃ v5 v6 v7 v8, σ = [some (.ref a), some (.ref u), some (.int M), some (.int G), some (.ref R), v5, v6, v7, v8, none, none, none, none]) ∧ ∃ rows, RowsAt J R rows ∧ rows.length = i ∧ okRaw G rows ∧ ∀ r ∈ rows, H r.a = none) ⟨d0, ⟨_, _, _, _, rfl⟩, [], ⟨eR0, fun _ h => by cases h⟩, rfl, ⟨List.nodup_nil, (fun _ h => by cases h), List.nodup_nil, fun _ h => by cases h⟩, fun _ h => by cases h⟩ ?_ ?_
  · rintro i σ J hi ⟨d, ⟨v5, v6, v7, v8, rfl⟩, rows, hr0, hl, ok, fr⟩
    obtain ⟨na, ea⟩ := d.dr _ _ ha
    obtain ⟨nu, eu⟩ := d.dr _ _ hu0
    refine ⟨_, rfl, _, rfl, R, _, rfl, .inl (.inl (.inl hr0.at_)), fun It wk D hD => lc_seq wk (fun i J' => Same J J' ∧ J' D = some (.lst (((rNames rows).take i).map V.str))) ⟨Same.new hD, upd_same⟩ (fun i J' _ h => h.1) ?_ ?_⟩
    · rintro j x J' hx ⟨sJ, eD⟩
      rw [List.getElem?_map] at hx
      obtain ⟨r, hr', rfl⟩ := Option.map_eq_some_iff.mp hx
      refine ⟨rfl, yesT ?_⟩
      refine iteT ⟨_, rfl, ix3 ((hr0.same sJ).row r (List.mem_of_getElem? hr')).1 rfl ⟨_, eD, ?_, Same.upd sJ hD, ?_⟩⟩
      · rw [List.length_map, List.length_take]
        unfold rNames
        rw [List.length_map]
        exact Nat.lt_of_le_of_lt (show min j rows.length ≤ 100 by omega) (by decide)
      · have e : (rNames rows)[j]? = some r.d.n := by unfold rNames; rw [List.getElem?_map, hr']; rfl
        rw [upd_same, List.take_add_one, e, List.map_append]
        rfl
    · rintro J1 ⟨s1, eD⟩
      have eD : J1 D = some (.lst ((rNames rows).map V.str)) := by
        have e : (rows.map fun r => V.ref r.a).length = (rNames rows).length := by unfold rNames; rw [List.length_map, List.length_map]
        rw [e, List.take_length] at eD
        exact eD
      refine ⟨rfl, rfl, _, _, rfl, u, D, nu, rNames rows, rfl, rfl, ne_of_none eu hD, s1 _ _ eu, eD, by unfold rNames; rw [List.length_map]; omega, fun z J2 hz hzn dz => ?_⟩
      have d2 : Dw H J2 := (d.trans (.of s1)).trans (.dr_ (s1 _ _ eu) dz)
      have r2 : RowsAt J2 R rows := (hr0.same s1).dw (.dr_ (s1 _ _ eu) dz)
      obtain ⟨n3, e3⟩ := d2.dr _ _ ha
      refine ⟨_, rfl, _, rfl, rfl, rfl, _, _, rfl, a, n3, G, rfl, e3, rfl, by omega, by omega, fun lo n4 lo0 lo1 => ⟨_, _, rfl, rfl, ?_⟩⟩
      have d3 := d2.trans (Dw.take (m := n4) e3)
      have r3 := r2.dw (Dw.take (m := n4) e3)
      refine ⟨_, rfl, .inl ⟨rfl, _, .inl (.inl r3.at_)⟩, ?_⟩
      refine ⟨_, rfl, _, rfl, _, rfl, _, rfl, _, rfl, _, _, rfl, rfl, _, rfl, _, _, rfl, rfl, rfl, rfl, _, _, rfl, a, n4, _, rfl, upd_same, rfl, by omega, by omega, fun hi' n5 hi0 hi1 => ⟨_, _, rfl, rfl, ?_⟩⟩
      have d4 := d3.trans (Dw.take (m := n5) upd_same)
      have r4 := r3.dw (Dw.take (m := n5) upd_same)
      refine ⟨_, rfl, rfl, rfl, _, _, rfl, a, n5, 3, rfl, upd_same, rfl, by decide, by decide, fun lt n6 lt0 lt1 => ⟨_, _, rfl, rfl, ?_⟩⟩
      have d5 := d4.trans (Dw.take (m := n6) upd_same)
      have r5 := r4.dw (Dw.take (m := n6) upd_same)
      refine ⟨by decide, fun ta hta => ⟨by show 5 ≤ sizeLine; decide, fun ra hra => ?_⟩⟩
      have d6 := (d5.trans (Dw.new (o := .tup []) hta)).trans (Dw.new (o := .lst [.str z, .int (1 + lo), .int (1 + lo + hi'), .bl (decide (0 < lt)), .ref ta]) hra)
      have r6 := (r5.dw (Dw.new (o := .tup []) hta)).dw (Dw.new (o := .lst [.str z, .int (1 + lo), .int (1 + lo + hi'), .bl (decide (0 < lt)), .ref ta]) hra)
      have rR : ra ≠ R := (ne_of_none (Same.new hta _ _ r5.at_) hra).symm
      have tR : ta ≠ R := (ne_of_none r5.at_ hta).symm
      have tr : ta ≠ ra := ne_of_none upd_same hra
      have fra : H ra = none := (d5.trans (Dw.new (o := .tup []) hta)).back hra
      refine ⟨R, _, _, rfl, rfl, r6.at_, by rw [List.length_map]; exact Nat.lt_of_le_of_lt (show rows.length ≤ 100 by omega) (by decide), d6.fresh hR, ⟨_, _, _, _, rfl⟩, rows ++ [⟨ra, ⟨z, 1 + lo, 1 + lo + hi', decide (0 < lt)⟩, ta, []⟩], ⟨by rw [upd_same, List.map_append]; rfl, fun r hr' => ?_⟩, by simp [hl], ⟨?_, fun r hr' => ?_, ?_, fun r hr' => ?_⟩, fun r hr' => ?_⟩
      · rcases List.mem_append.mp hr' with h | h
        · have h2 := r6.row r h
          rw [upd_ne (row_ne h2.1 r6.at_), upd_ne (ne_of h2.2 r6.at_ (by intro z; cases z))]
          exact h2
        · rw [List.mem_singleton.mp h]
          refine ⟨?_, ?_⟩
          · show upd _ R _ ra = _
            rw [upd_ne rR, upd_same]
            rfl
          · show upd _ R _ ta = _
            rw [upd_ne tR, upd_ne tr, upd_same]
            rfl
      · unfold rNames
        rw [List.map_append]
        refine List.nodup_append.mpr ⟨ok.nd, by simp, fun x hx y hy => ?_⟩
        rw [show y = z by simpa using hy]
        exact fun e => hzn (e ▸ hx)
      · rcases List.mem_append.mp hr' with h | h
        · exact ok.pl r h
        · rw [List.mem_singleton.mp h]
          exact ⟨hz, by show 1 ≤ 1 + lo; omega, by show 1 + lo ≤ 1 + lo + hi'; omega, by show 1 + lo + hi' ≤ G; omega⟩
      · rw [List.map_append]
        refine List.nodup_append.mpr ⟨ok.nda, by simp, fun x hx y hy => ?_⟩
        rw [show y = ra by simpa using hy]
        obtain ⟨r, hr', rfl⟩ := List.mem_map.mp hx
        exact ne_of_none ((r5.dw (Dw.new (o := .tup []) hta)).row r hr').1 hra
      · rcases List.mem_append.mp hr' with h | h
        · exact ok.nx r h
        · rw [List.mem_singleton.mp h]
      · rcases List.mem_append.mp hr' with h | h
        · exact fr r h
        · rw [List.mem_singleton.mp h]
          exact fra
  · rintro σ J ⟨d, ⟨v5, v6, v7, v8, rfl⟩, rows, hr0, hl, ok, fr⟩
    have lp : 1 ≤ rows.length := by omega
    have l6 : rows.length ≤ 6 := by omega
    have lm : (rows.map fun r => V.ref r.a).length = rows.length := List.length_map _
    refine ⟨_, rfl, _, _, rfl, lenVX (.inl (.inl (.inl hr0.at_))), _, rfl, by omega, by omega, ?_⟩
    refine for_range (n := (rows.map fun r => V.ref r.a).length) (fun i σ J => Dw H J ∧ (∃ v5 v6 v7 v8 v9 v10 v11 v12, σ = [some (.ref a), some (.ref u), some (.int M), some (.int G), some (.ref R), v5, v6, v7, v8, v9, v10, v11, v12]) ∧ ∃ rows', RowsAt J R rows' ∧ (rows'.map fun r => r.a) = (rows.map fun r => r.a) ∧ (rows'.map fun r => r.d) = (rows.map fun r => r.d) ∧ ∀ r ∈ rows', r.nx.Nodup ∧ ∀ z ∈ r.nx, z ∈ rNames rows) ⟨d, ⟨_, _, _, _, _, _, _, _, rfl⟩, rows, hr0, rfl, rfl, fun r hr' => by rw [ok.nx r hr']; exact ⟨List.nodup_nil, fun _ h => by cases h⟩⟩ ?_ ?_
    · rintro i σ J1 hi ⟨d1, ⟨v5, v6, v7, v8, v9, v10, v11, v12, rfl⟩, rw1, h1, ea1, ed1, nx1⟩
      rw [lm] at hi
      have l1 : rw1.length = rows.length := by have := congrArg List.length ea1; rwa [List.length_map, List.length_map] at this
      have lm1 : (rw1.map fun r => V.ref r.a).length = rows.length := by rw [List.length_map, l1]
      have nm1 : rNames rw1 = rNames rows := by
        have := congrArg (List.map Pl.n) ed1
        rw [List.map_map, List.map_map] at this
        exact this
      obtain ⟨n1', e1⟩ := d1.dr _ _ ha
      refine ⟨_, rfl, _, rfl, _, _, rfl, lenVX (.inl (.inl (.inl h1.at_))), rfl, rfl, _, _, rfl, a, n1', _, rfl, e1, rfl, by omega, by omega, fun sh n3 sh0 sh1 => ?_⟩
      have d2 := d1.trans (Dw.take (m := n3) e1)
      have h2 := h1.dw (Dw.take (m := n3) e1)
      refine ⟨_, rfl, rfl, rfl, _, _, rfl, a, n3, 2, rfl, upd_same, rfl, by decide, by decide, fun wy n4 wy0 wy1 => ⟨_, _, rfl, rfl, mul_smallL (by decide), _, _, rfl, rfl, ?_⟩⟩
      have d3 := d2.trans (Dw.take (m := n4) upd_same)
      have h3 := h2.dw (Dw.take (m := n4) upd_same)
      have ea3 := upd_same (H := upd J1 a (.lst [.int n3])) (a := a) (o := .lst [.int n4])
      generalize upd (upd J1 a (.lst [.int n3])) a (.lst [.int n4]) = J3 at *
      have hw : 1 - 2 * wy = 1 ∨ 1 - 2 * wy = -1 := by omega
      refine ⟨by decide, fun F hF => ?_⟩
      have fF : H F = none := d3.back hF
      have h4 := h3.dw (Dw.new (o := .lst []) hF)
      refine ⟨_, rfl, _, _, rfl, lenVX (.inl (.inl (.inl h4.at_))), _, rfl, by omega, by omega, ?_⟩
      refine for_range (n := (rw1.map fun r => V.ref r.a).length) (fun j σ J => Dw H J ∧ (∃ v12, σ = [some (.ref a), some (.ref u), some (.int M), some (.int G), some (.ref R), some (.int (0 + (i : Int))), v6, v7, v8, some (.int sh), some (.int (1 - 2 * wy)), some (.ref F), v12]) ∧ RowsAt J R rw1 ∧ ∃ js : List Nat, J F = some (.lst ((js.map (nmAt rows sh (1 - 2 * wy))).map V.str)) ∧ js.Nodup ∧ (∀ k ∈ js, k < j) ∧ js.length ≤ j)
        ⟨d3.trans (Dw.new hF), ⟨_, rfl⟩, h4, [], upd_same, List.nodup_nil, (fun _ h => by cases h), Nat.le_refl _⟩ ?_ ?_
      · rintro j σ J5 hj ⟨d5, ⟨v12, rfl⟩, h5, js, eF, jn, jl, jlen⟩
        rw [lm1] at hj
        obtain ⟨n5, e5⟩ := d5.dr _ _ ha
        refine ⟨_, rfl, rfl, rfl, _, _, rfl, a, n5, 3, rfl, e5, rfl, by decide, by decide, fun t3 n6 t30 t31 => ⟨_, _, rfl, rfl, _, rfl, ?_⟩⟩
        have aF : F ≠ a := (ne_of_none ha fF).symm
        have d6 := d5.trans (Dw.take (m := n6) e5)
        have h6 := h5.dw (Dw.take (m := n6) e5)
        have eF6 : upd J5 a (.lst [.int n6]) F = some (.lst ((js.map (nmAt rows sh (1 - 2 * wy))).map V.str)) := by rw [upd_ne aF]; exact eF
        by_cases c : 0 < t3
        · have mp : (0 : Int) < (rows.length : Int) := by omega
          have x0 := mod_lo (sh + (1 - 2 * wy) * (j : Int)) mp
          have x1 := mod_hi (sh + (1 - 2 * wy) * (j : Int)) mp
          have hlt : ((sh + (1 - 2 * wy) * (j : Int)) % (rows.length : Int)).toNat < rw1.length := by omega
          have eg := List.getElem?_eq_getElem hlt
          have nmj : nmAt rows sh (1 - 2 * wy) j = (rw1[((sh + (1 - 2 * wy) * (j : Int)) % (rows.length : Int)).toNat]'hlt).d.n := by
            unfold nmAt
            rw [← nm1]
            unfold rNames
            rw [List.getD_eq_getElem?_getD, List.getElem?_map, eg]
            rfl
          have e0 : ((0 : Int) + (j : Int)) = (j : Int) := by omega
          rw [e0]
          refine iteY (by simpa using c) ⟨_, rfl, .inl ⟨rfl, _, .inl (.inl eF6)⟩, _, rfl, _, rfl, _, rfl, _, rfl, _, _, rfl, rfl, mul_smallL (by rcases hw with h | h <;> rw [h] <;> decide), _, _, rfl, rfl, _, rfl, _, _, rfl, lenVX (.inl (.inl (.inl h6.at_))), _, _, rfl, rfl, (by rw [lm1]; exact mp), ?_⟩
          rw [lm1]
          refine ixX (.inl (.inl (.inl h6.at_))) (atI_lt x0 (by rw [List.getElem?_map, eg]; rfl)) (ix3 (h6.row _ (List.mem_of_getElem? eg)).1 rfl ?_)
          refine ⟨F, _, _, rfl, rfl, eF6, ?_, d6.fresh fF, ⟨_, rfl⟩, ?_, js ++ [j], ?_, ?_, fun k hk => ?_, by simp; omega⟩
          · rw [List.length_map, List.length_map]
            exact Nat.lt_of_le_of_lt (show js.length ≤ 100 by omega) (by decide)
          · refine ⟨?_, fun r hr' => ?_⟩
            · rw [upd_ne (ne_of_none h3.at_ hF)]
              exact h6.at_
            · have z1 := h3.row r hr'
              have z2 := h6.row r hr'
              rw [upd_ne (ne_of_none z1.1 hF), upd_ne (ne_of_none z1.2 hF)]
              exact z2
          · rw [upd_same, List.map_append, List.map_append]
            show some (HO.lst (_ ++ [V.str _])) = some (HO.lst (_ ++ [V.str (nmAt rows sh (1 - 2 * wy) j)]))
            rw [nmj]
          · refine List.nodup_append.mpr ⟨jn, by simp, fun x hx y hy => ?_⟩
            rw [show y = j by simpa using hy]
            have := jl x hx
            omega
          · rcases List.mem_append.mp hk with h | h
            · have := jl k h
              omega
            · rw [show k = j by simpa using h]
              omega
        · exact iteN (by simpa using c) ⟨d6, ⟨_, rfl⟩, h6, js, eF6, jn, fun k hk => Nat.lt_succ_of_lt (jl k hk), Nat.le_succ_of_le jlen⟩
      · rintro σ J5 ⟨d5, ⟨v12', rfl⟩, h5, js, eF, jn, jl, jlen⟩
        rw [lm1] at jl jlen
        have e0 : ((0 : Int) + (i : Int)) = (i : Int) := by omega
        rw [e0]
        have hi1 : i < rw1.length := by omega
        have er := List.getElem?_eq_getElem hi1
        refine ⟨_, rfl, _, rfl, ixX (.inl (.inl (.inl h5.at_))) (atI_nat (by rw [List.getElem?_map, er]; rfl)) ?_⟩
        refine ⟨_, rfl, F, _, rfl, .inl ⟨.inl (.inl eF), fun tt htt => ?_⟩⟩
        have h6 := h5.dw (Dw.new (o := .tup ((js.map (nmAt rows sh (1 - 2 * wy))).map V.str)) htt)
        have d6 := d5.trans (Dw.new (o := .tup ((js.map (nmAt rows sh (1 - 2 * wy))).map V.str)) htt)
        have mp : (0 : Int) < (rows.length : Int) := by omega
        have fra : H (rw1[i]).a = none := by
          have m : (rw1[i]).a ∈ rw1.map fun r => r.a := List.mem_map.mpr ⟨_, List.mem_of_getElem? er, rfl⟩
          rw [ea1] at m
          obtain ⟨r, hr', e⟩ := List.mem_map.mp m
          rw [← e]
          exact fr r hr'
        refine ⟨_, rfl, (rw1[i]).a, _, 4, 4, rfl, rfl, (h6.row _ (List.mem_of_getElem? er)).1, rfl, d6.fresh fra, ⟨_, _, _, _, _, _, _, _, rfl⟩, rw1.set i { rw1[i] with ta := tt, nx := js.map (nmAt rows sh (1 - 2 * wy)) }, h6.store (by rw [ea1]; exact ok.nda) er upd_same, ?_, ?_, fun r hr' => ?_⟩
        · rw [List.map_set, ← ea1]
          refine List.ext_getElem? fun k => ?_
          rw [List.getElem?_set]
          split
          · rename_i e
            subst e
            rw [List.getElem?_map, er, if_pos (by rw [List.length_map]; exact hi1)]
            rfl
          · rfl
        · rw [List.map_set, ← ed1]
          refine List.ext_getElem? fun k => ?_
          rw [List.getElem?_set]
          split
          · rename_i e
            subst e
            rw [List.getElem?_map, er, if_pos (by rw [List.length_map]; exact hi1)]
            rfl
          · rfl
        · rcases List.mem_or_eq_of_mem_set hr' with h | rfl
          · exact nx1 r h
          · refine ⟨?_, fun z hz => ?_⟩
            · refine List.pairwise_map.mpr (List.Pairwise.imp_of_mem (fun {k k'} hk hk' ne e => ?_) jn)
              have b1 := jl k hk
              have b2 := jl k' hk'
              have lr : (rNames rows).length = rows.length := by unfold rNames; rw [List.length_map]
              have x0 := mod_lo (sh + (1 - 2 * wy) * (k : Int)) mp
              have x1 := mod_hi (sh + (1 - 2 * wy) * (k : Int)) mp
              have y0 := mod_lo (sh + (1 - 2 * wy) * (k' : Int)) mp
              have y1 := mod_hi (sh + (1 - 2 * wy) * (k' : Int)) mp
              have ix : ((sh + (1 - 2 * wy) * (k : Int)) % (rows.length : Int)).toNat = ((sh + (1 - 2 * wy) * (k' : Int)) % (rows.length : Int)).toNat := by
                have q1 : ((sh + (1 - 2 * wy) * (k : Int)) % (rows.length : Int)).toNat < (rNames rows).length := by omega
                have q2 : ((sh + (1 - 2 * wy) * (k' : Int)) % (rows.length : Int)).toNat < (rNames rows).length := by omega
                unfold nmAt at e
                rw [getD_lt _ _ q1, getD_lt _ _ q2] at e
                have q := List.pairwise_iff_getElem.mp ok.nd
                rcases Nat.lt_trichotomy ((sh + (1 - 2 * wy) * (k : Int)) % (rows.length : Int)).toNat ((sh + (1 - 2 * wy) * (k' : Int)) % (rows.length : Int)).toNat with g | g | g
                · exact absurd e (q _ _ q1 q2 g)
                · exact g
                · exact absurd e.symm (q _ _ q2 q1 g)
              have := mod_inj mp hw (by omega) (by omega) (by omega) (by omega) (show (sh + (1 - 2 * wy) * (k : Int)) % (rows.length : Int) = (sh + (1 - 2 * wy) * (k' : Int)) % (rows.length : Int) by omega)
              omega
            · obtain ⟨k, _, rfl⟩ := List.mem_map.mp hz
              have lr : (rNames rows).length = rows.length := by unfold rNames; rw [List.length_map]
              have x0 := mod_lo (sh + (1 - 2 * wy) * (k : Int)) mp
              have x1 := mod_hi (sh + (1 - 2 * wy) * (k : Int)) mp
              unfold nmAt
              rw [getD_lt _ _ (by omega)]
              exact List.getElem_mem _
    · rintro σ J1 ⟨d1, ⟨v5, v6, v7, v8, v9, v10, v11, v12, rfl⟩, rw1, h1, ea1, ed1, nx1⟩
      have l1 : rw1.length = rows.length := by have := congrArg List.length ea1; rwa [List.length_map, List.length_map] at this
      have nm1 : rNames rw1 = rNames rows := by
        have := congrArg (List.map Pl.n) ed1
        rw [List.map_map, List.map_map] at this
        exact this
      have plr : ∀ r ∈ rw1, ∃ r' ∈ rows, r'.d = r.d := fun r hr' => by
        have m : r.d ∈ rw1.map fun r => r.d := List.mem_map.mpr ⟨r, hr', rfl⟩
        rw [ed1] at m
        exact List.mem_map.mp m
      refine ⟨_, rfl, q R rw1 J1 d1 hR (fun r hr' => ?_) h1 ⟨⟨by omega, by omega, by rw [nm1]; exact ok.nd, fun r hr' => ?_, fun r hr' => by rw [nm1]; exact nx1 r hr'⟩, by omega, fun r hr' => ?_, by rw [ea1]; exact ok.nda⟩⟩
      · have m : r.a ∈ rw1.map fun r => r.a := List.mem_map.mpr ⟨r, hr', rfl⟩
        rw [ea1] at m
        obtain ⟨r', h', e⟩ := List.mem_map.mp m
        rw [← e]
        exact fr r' h'
      · obtain ⟨r', h', e⟩ := plr r hr'
        have := ok.pl r' h'
        rw [e] at this
        exact ⟨this.1, this.2.1, this.2.2.1, by omega⟩
      · obtain ⟨r', h', e⟩ := plr r hr'
        have := ok.pl r' h'
        rw [e] at this
        exact this.2.2.2
end
end W

namespace W
open PySem PySem.Spec PyProof.Rows L2
section
variable {P : Program} {w : World} {K : S.Frag} {mg : Str → Option Value} {base : Heap}
open S
/-! the law's own making of a program -/
def spNexts (K : S.Frag) : Sp := Sp1 fun x H Q _ => ∃ (R : Addr) (rows : List Rw), x = .ref R ∧ RowsAt H R rows ∧ (rNames rows).Nodup ∧ rows.length ≤ 100 ∧ ∀ d H', H d = none → Same H H' → H' d = some (.dK (lkOf rows)) → Q (.ref d) H'
theorem lk_put {rows : List Rw} (nd : (rNames rows).Nodup) {i : Nat} {r : Rw} (h : rows[i]? = some r) : putK (lkOf (rows.take i)) (.inr r.d.n) (.ref r.ta) = lkOf (rows.take (i + 1)) := by
  rw [putK_new]
  · unfold lkOf
    rw [List.take_add_one, h, List.map_append]
    rfl
  · intro q hq e
    obtain ⟨r', hr', rfl⟩ := List.mem_map.mp hq
    have en : r'.d.n = r.d.n := by injection e
    have hz : (rNames rows)[i]? = some r.d.n := by unfold rNames; rw [List.getElem?_map, h]; rfl
    refine nodup_take nd hz ?_
    rw [← en]
    unfold rNames
    rw [← List.map_take]
    exact List.mem_map.mpr ⟨r', hr', rfl⟩
theorem lkOf_len (rows : List Rw) : (lkOf rows).length = rows.length := List.length_map _
theorem ok__law_nexts (T : Txt K mg) : FnOk P w K mg base (L2.CX P w) 1 (He.fAd K ("_law_nexts", none)) (S.fdA K ("_law_nexts", none)) ["_law_rows_here"] (spNexts K) := by
  refine FunD.ok T.F__law_nexts sc__law_nexts (fun vs H Q E h => S.splen1 h) (fun cdv A outer s H vs Q E hr h => ?_)
  have hu := hu_of hr
  refine ⟨_, (pss_cons (ps_set (i := 1) sc__law_nexts.nd rfl (by first | exact Or.inl rfl | exact Or.inr rfl) pe_dnewK)
      (pss_cons (ps_for (S.own_of rfl) rfl (S.pi_listK (K := K) rfl (pv 0)) (pg_name (i := 2) sc__law_nexts.nd rfl (by first | exact Or.inl rfl | exact Or.inr rfl))
        (pss_one (ps_dput hu (pv 1) (pe_ix (S.ixK (K := K) rfl) (pv 2) pe_int (fun _ _ => rfl)) (pe_ix (S.ixK (K := K) rfl) (pv 2) pe_int (fun _ _ => rfl)) rfl)))
      (pss_one (ps_ret (pv 1))))), ?_⟩
  obtain ⟨_, rfl, R, rows, rfl, hR, nd, ln, q⟩ := h
  refine fun d hd => ?_
  have s0 := Same.new (o := .dK []) hd
  refine ⟨_, rfl, R, rfl, ⟨_, .inl (.inl (s0 _ _ hR.at_))⟩, for_list (xs := rows.map fun r => V.ref r.a) (fun i σ J => Same H J ∧ J d = some (.dK (lkOf (rows.take i))) ∧ ∃ v, σ = [some (.ref R), some (.ref d), v]) ⟨s0, upd_same, _, rfl⟩ (fun i σ J _ h => .inl (.inl (h.1 _ _ hR.at_))) ?_ ?_⟩
  · rintro i x σ J hx ⟨sJ, ed, v, rfl⟩
    rw [List.getElem?_map] at hx
    obtain ⟨r, hr', rfl⟩ := Option.map_eq_some_iff.mp hx
    have er := ((hR.same sJ).row r (List.mem_of_getElem? hr')).1
    refine ⟨_, rfl, ix3 er rfl ⟨_, rfl, _, rfl, ix3 er rfl ⟨d, _, rfl, DPut.k (k := .inr r.d.n) ed ?_, Same.upd sJ hd, ?_, _, rfl⟩⟩⟩
    · rw [lkOf_len, List.length_take]
      exact Nat.lt_of_le_of_lt (show min i rows.length ≤ 100 by omega) (by decide)
    · rw [upd_same, lk_put nd hr']
  · rintro σ J ⟨sJ, ed, v, rfl⟩
    rw [List.length_map, List.take_length] at ed
    exact ⟨_, rfl, q d J hd sJ ed⟩
theorem mkPl {H : Hp} {Z : VK} {E : XK} {d : Pl} {p dx : Addr} (np : H p = none) (ndx : H dx = none) (ne : dx ≠ p) (ok : isNm d.n = true ∧ 1 ≤ d.l ∧ d.l ≤ d.m ∧ d.m ≤ 6) (k : ∀ H', Same H H' → PlA K H' p d → Z .non H') :
    spPlace K [.ref p, .str d.n, .int d.l, .int d.m, .bl d.t] (upd (upd H dx (.own p)) p (.ins (He.ga K "Place") dx [])) Z E := by
  obtain ⟨o1, o2, o3, o4⟩ := ok
  have s0 : Same H (upd (upd H dx (.own p)) p (.ins (He.ga K "Place") dx [])) := Same.upd (Same.new ndx) np
  have em : mostV (.int d.l) (.int d.m) = .int d.m := by simp [mostV]
  have l8 : d.n.length ≤ 8 := by
    unfold isNm at o1
    simp only [Bool.and_eq_true, decide_eq_true_eq] at o1
    exact o1.1.2
  have du : dueP (.str d.n) (.int d.l) (.int d.m) (.bl d.t) = "" := by
    unfold dueP
    rw [em]
    simp [nmV, o1, inR, isBl, intOf, o2, o3, o4]
    omega
  refine ⟨_, _, _, _, _, rfl, p, dx, rfl, upd_same, .str _, (show d.n.length ≤ 1000 by omega), .int _, .int _, .bl _, fun _ H' kp hp => k H' (fun c o hc => kp c o (s0 c o hc) (ne_of_none hc np)) ⟨dx, ?_⟩, fun e => absurd du e⟩
  rw [em] at hp
  exact hp
def okD (d : Pl) : Prop := isNm d.n = true ∧ 1 ≤ d.l ∧ d.l ≤ d.m ∧ d.m ≤ 6
theorem vw_rNames (rows : List Rw) : rNames rows = (vw rows).map fun z => z.1.n := by
  unfold rNames vw
  rw [List.map_map]
  rfl
theorem okRows.vw {rows rows' : List Rw} (o : okRows rows) (e : vw rows' = vw rows) : okRows rows' := by
  have ln : rows'.length = rows.length := by have := congrArg List.length e; unfold W.vw at this; rwa [List.length_map, List.length_map] at this
  have mem : ∀ r ∈ rows', ∃ r' ∈ rows, (r'.d, r'.nx) = (r.d, r.nx) := fun r hr => by
    have m : (r.d, r.nx) ∈ W.vw rows' := List.mem_map.mpr ⟨r, hr, rfl⟩
    rw [e] at m
    exact List.mem_map.mp m
  have nm : rNames rows' = rNames rows := by rw [vw_rNames, vw_rNames, e]
  refine ⟨by rw [ln]; exact o.l1, by rw [ln]; exact o.l6, by rw [nm]; exact o.nd, fun r hr => ?_, fun r hr => ?_⟩
  · obtain ⟨r', h', e'⟩ := mem r hr
    have := o.pl r' h'
    simp only [Prod.mk.injEq] at e'
    rw [e'.1] at this
    exact this
  · obtain ⟨r', h', e'⟩ := mem r hr
    have := o.nx r' h'
    simp only [Prod.mk.injEq] at e'
    rw [e'.2] at this
    rw [nm]
    exact this
def spMkProg (K : S.Frag) : Sp := Sp2 fun x y H Q _ => ∃ (R : Addr) (rows : List Rw) (b : Str), x = .ref R ∧ y = .str b ∧ RowsAt H R rows ∧ okRows rows ∧ b ∈ rNames rows ∧
  ∀ p prow H', H p = none → Same H H' → PgAt K H' p prow b → vw prow = vw rows → okRows prow → Q (.ref p) H'
theorem atRow {r : Rw} : atI (rowL r) 0 = some (.str r.d.n) ∧ atI (rowL r) 1 = some (.int r.d.l) ∧ atI (rowL r) 2 = some (.int r.d.m) ∧ atI (rowL r) 3 = some (.bl r.d.t) ∧ atI (rowL r) 4 = some (.ref r.ta) := ⟨rfl, rfl, rfl, rfl, rfl⟩
/-- the rows with the places' addresses -/
def reA (rows : List Rw) (as : List Addr) : List Rw := (rows.zip as).map fun z => { z.1 with a := z.2 }
theorem reA_vw {rows : List Rw} {as : List Addr} (h : rows.length = as.length) : vw (reA rows as) = vw rows := by
  unfold vw reA
  rw [List.map_map]
  have : ((fun r : Rw => (r.d, r.nx)) ∘ fun z : Rw × Addr => { z.1 with a := z.2 }) = (fun r : Rw => (r.d, r.nx)) ∘ Prod.fst := rfl
  rw [this, ← List.map_map, List.map_fst_zip (by omega)]
theorem reA_a {rows : List Rw} {as : List Addr} (h : rows.length = as.length) : (reA rows as).map (fun r => V.ref r.a) = as.map V.ref := by
  unfold reA
  rw [List.map_map]
  have : ((fun r : Rw => V.ref r.a) ∘ fun z : Rw × Addr => { z.1 with a := z.2 }) = V.ref ∘ Prod.snd := rfl
  rw [this, ← List.map_map, List.map_snd_zip (by omega)]
theorem reA_lk {rows : List Rw} {as : List Addr} (h : rows.length = as.length) : lkOf (reA rows as) = lkOf rows := by
  unfold lkOf reA
  rw [List.map_map]
  have : ((fun r : Rw => ((Sum.inr r.d.n : Key), V.ref r.ta)) ∘ fun z : Rw × Addr => { z.1 with a := z.2 }) = (fun r : Rw => ((Sum.inr r.d.n : Key), V.ref r.ta)) ∘ Prod.fst := rfl
  rw [this, ← List.map_map, List.map_fst_zip (by omega)]
theorem reA_mem {rows : List Rw} {as : List Addr} {r : Rw} (h : r ∈ reA rows as) : ∃ (i : Nat) (r0 : Rw), rows[i]? = some r0 ∧ as[i]? = some r.a ∧ r = { r0 with a := r.a } := by
  obtain ⟨⟨r0, a⟩, hz, rfl⟩ := List.mem_map.mp h
  obtain ⟨i, hi⟩ := List.getElem?_of_mem hz
  rw [List.getElem?_zip_eq_some] at hi
  exact ⟨i, r0, hi.1, hi.2, rfl⟩
theorem ok__law_program (T : Txt K mg) : FnOk P w K mg base (L2.CX P w) 5 (He.fAd K ("_law_program", none)) (S.fdA K ("_law_program", none)) ["_law_rows_here", "_law_begin"] (spMkProg K) := by
  have G_Place___init__ := ok_Place___init__ (P := P) (w := w) (base := base) T
  have G_Program___init__ := ok_Program___init__ (P := P) (w := w) (base := base) T
  have G__law_nexts := ok__law_nexts (P := P) (w := w) (base := base) T
  refine FunD.ok T.F__law_program sc__law_program (fun vs H Q E h => S.splen2 h) (fun cdv A outer s H vs Q E hr h => ?_)
  have hu := hu_of hr
  refine ⟨_, (pss_cons (ps_setLc (i := 2) (own := [("_law_row_here", 3)]) (g := gName 3) (tt := tYes) rfl sc__law_program.nd rfl rfl (sw_true rfl rfl rfl (by decide +kernel)) (S.pi_seqK (K := K) rfl (pv 0)) (blkOk_by (N := ["_law_rows_here", "_law_begin", "_law_places", "_law_row_here"]) (sc := defScope s__law_program) (by decide +kernel)) (fun _ _ _ _ _ => pg_name (i := 3) sc__law_program.nd rfl (by first | exact Or.inl rfl | exact Or.inr rfl)) (fun _ _ _ _ _ => pts_nil) (fun _ _ _ _ _ => (S.pe_mkS T.mk_Place G_Place___init__ (hr.mono (by decide)) rfl T.g_Place (kb_Place___init___4_let T).choose_spec S.pas0 (pa_cons (pe_ix (S.ixK (K := K) rfl) (pv 3) pe_int (fun _ _ => rfl)) (pa_cons (pe_ix (S.ixK (K := K) rfl) (pv 3) pe_int (fun _ _ => rfl)) (pa_cons (pe_ix (S.ixK (K := K) rfl) (pv 3) pe_int (fun _ _ => rfl)) pa_nil))) (pk_cons (pe_ix (S.ixK (K := K) rfl) (pv 3) pe_int (fun _ _ => rfl)) pk_nil) rfl rfl)))
      (pss_one (ps_ret (S.pe_mkS T.mk_Program G_Program___init__ (hr.mono (by decide)) rfl T.g_Program (kb_Program___init___3_start T).choose_spec (S.pasE (takes_of rfl rfl rfl rfl)) (pa_cons (pv 2) (pa_cons (S.pe_fnS G__law_nexts (hr.mono (by decide)) rfl T.g__law_nexts T.F__law_nexts.kp (kb__law_nexts_1 T) S.pas0 (pa_cons (pv 0) pa_nil) pk_nil rfl rfl) pa_nil)) (pk_cons (pv 1) pk_nil) rfl rfl)))), ?_⟩
  obtain ⟨_, _, rfl, R, rows, b, rfl, rfl, hR, ok, hb, q⟩ := h
  have l6 := ok.l6
  refine ⟨_, rfl, R, _, rfl, .inl (.inl (.inl hR.at_)), fun It wk D hD => lc_seq wk (fun i J => Same H J ∧ ∃ as : List Addr, J D = some (.lst (as.map V.ref)) ∧ as.length = i ∧ ∀ (j : Nat) (r : Rw) (p : Addr), rows[j]? = some r → as[j]? = some p → PlA K J p r.d) ⟨Same.new hD, [], upd_same, rfl, fun j r p _ h => by simp at h⟩ (fun i J _ h => h.1) ?_ ?_⟩
  · rintro i x J hx ⟨sJ, as, eD, la, hp⟩
    rw [List.getElem?_map] at hx
    obtain ⟨r, hr', rfl⟩ := Option.map_eq_some_iff.mp hx
    have er := ((hR.same sJ).row r (List.mem_of_getElem? hr')).1
    have il := get_lt hr'
    refine ⟨rfl, yesT ?_⟩
    refine iteT ⟨_, rfl, ix3 er rfl ⟨_, rfl, ix3 er rfl ⟨_, rfl, ix3 er rfl ⟨_, rfl, ix3 er rfl ⟨rfl, rfl, fun p dx np ndx ne => mkPl np ndx ne (ok.pl r (List.mem_of_getElem? hr')) fun J2 s2 hpl => ⟨rfl, _, s2 _ _ eD, ?_, Same.upd (sJ.trans s2) hD, as ++ [p], ?_, by simp [la], fun j r2 p2 h1 h2 => ?_⟩⟩⟩⟩⟩⟩
    · rw [List.length_map]
      exact Nat.lt_of_le_of_lt (show as.length ≤ 100 by omega) (by decide)
    · rw [upd_same, List.map_append]
      rfl
    · have pD : ∀ {q2 : Addr} {d2 : Pl}, PlA K J2 q2 d2 → PlA K (upd J2 D (.lst (as.map V.ref ++ [.ref p]))) q2 d2 := fun {q2 d2} h => by
        obtain ⟨dx2, e2⟩ := h
        refine ⟨dx2, ?_⟩
        rw [upd_ne (ne_of e2 (s2 _ _ eD) (by intro z; cases z))]
        exact e2
      by_cases c : j < as.length
      · rw [List.getElem?_append_left c] at h2
        exact pD ((hp j r2 p2 h1 h2).same s2)
      · rw [List.getElem?_append_right (by omega)] at h2
        have jl : j - as.length = 0 := by
          by_cases c2 : j - as.length = 0
          · exact c2
          · rw [List.getElem?_eq_none (by simp; omega)] at h2
            cases h2
        rw [jl] at h2
        have : j = i := by omega
        subst this
        rw [hr'] at h1
        cases h1
        cases h2
        exact pD hpl
  · rintro J ⟨sJ, as, eD, la, hp⟩
    rw [List.length_map] at la
    refine ⟨_, rfl, _, rfl, rfl, rfl, _, rfl, R, rows, rfl, hR.same sJ, ok.nd, by omega, fun d J2 hd s2 ed => ⟨_, rfl, rfl, rfl, fun p dx np ndx ne => ?_⟩⟩
    have s3 : Same J2 (upd (upd J2 dx (.own p)) p (.ins (He.ga K "Program") dx [])) := Same.upd (Same.new ndx) np
    have s12 := s2.trans s3
    have okr := ok.vw (reA_vw la.symm)
    refine ⟨_, _, _, _, rfl, p, dx, D, d, reA rows as, lkOf rows, b, rfl, upd_same, rfl, .inl ?_, rfl, s3 _ _ ed, ?_, okr, fun r hr' => ?_, .inr ⟨rfl, ?_⟩, fun J3 kp pg => ⟨rfl, ?_⟩⟩
    · rw [reA_a la.symm]
      exact s12 _ _ eD
    · rw [lkOf_len]
      have := congrArg List.length (reA_vw la.symm)
      unfold vw at this
      rw [List.length_map, List.length_map] at this
      exact this.symm
    · refine ⟨?_, ?_, ?_⟩
      · rw [← reA_lk la.symm]
        exact valV_rows okr.nd hr'
      · obtain ⟨i, r0, h1, h2, e⟩ := reA_mem hr'
        have := ((hp i r0 r.a h1 h2).same s12)
        rw [e]
        exact this
      · obtain ⟨i, r0, h1, h2, e⟩ := reA_mem hr'
        have := (((hR.same sJ).same s12).row r0 (List.mem_of_getElem? h1)).2
        rw [e]
        exact this
    · rw [vw_rNames, reA_vw la.symm, ← vw_rNames]
      exact hb
    · have fp : H p = none := by
        cases e : H p with
        | none => rfl
        | some o => rw [(sJ.trans s2) _ _ e] at np; cases np
      exact q p (reA rows as) J3 fp (fun c o hc => kp c o (ne_of_none hc fp) (s3 _ _ ((sJ.trans s2) _ _ hc))) pg (reA_vw la.symm) okr
end
end W

namespace W
open PySem PySem.Spec PyProof.Rows L2
section
variable {P : Program} {w : World} {K : S.Frag} {mg : Str → Option Value} {base : Heap}
open S
/-- one row is stored anew -/
theorem RowsAt.put {H : Hp} {R : Addr} {rows : List Rw} {i : Nat} {r r' : Rw} (h : RowsAt H R rows) (nd : (rows.map fun r => r.a).Nodup) (hi : rows[i]? = some r) (ea : r'.a = r.a) (ht : H r'.ta = some (.tup (r'.nx.map V.str))) :
    RowsAt (upd H r.a (.lst (rowL r'))) R (rows.set i r') := by
  have hr := h.row r (List.mem_of_getElem? hi)
  refine ⟨?_, fun r2 hr' => ?_⟩
  · rw [upd_ne (row_ne hr.1 h.at_).symm, h.at_, List.map_set, set_same]
    rw [List.getElem?_map, hi, ea]
    rfl
  · obtain ⟨j, hj, rfl⟩ := List.mem_iff_getElem.mp hr'
    rw [List.getElem_set]
    rw [List.length_set] at hj
    split
    · refine ⟨?_, ?_⟩
      · rw [ea]; exact upd_same
      · rw [upd_ne (ne_of ht hr.1 (by intro z; cases z))]
        exact ht
    · rename_i ne
      have e2 := List.getElem?_eq_getElem hj
      have h2 := h.row _ (List.mem_of_getElem? e2)
      have n1 : (rows[j]).a ≠ r.a := fun z => ne (nda_ne nd hi e2 z.symm)
      rw [upd_ne n1, upd_ne (ne_of h2.2 hr.1 (by intro z; cases z))]
      exact h2
theorem okRows.set {rows : List Rw} {i : Nat} {r r' : Rw} (o : okRows rows) (hi : rows[i]? = some r) (en : r'.d.n = r.d.n) (od : okD r'.d) (on : r'.nx.Nodup ∧ ∀ z ∈ r'.nx, z ∈ rNames rows) : okRows (rows.set i r') := by
  have nm : rNames (rows.set i r') = rNames rows := by
    unfold rNames
    rw [List.map_set, set_same]
    rw [List.getElem?_map, hi, en]
    rfl
  refine ⟨by rw [List.length_set]; exact o.l1, by rw [List.length_set]; exact o.l6, by rw [nm]; exact o.nd, fun x hx => ?_, fun x hx => ?_⟩
  · rcases List.mem_or_eq_of_mem_set hx with h | rfl
    · exact o.pl x h
    · exact od
  · rw [nm]
    rcases List.mem_or_eq_of_mem_set hx with h | rfl
    · exact o.nx x h
    · exact on
theorem set_nda {rows : List Rw} {i : Nat} {r r' : Rw} (hi : rows[i]? = some r) (ea : r'.a = r.a) : ((rows.set i r').map fun r => r.a) = rows.map fun r => r.a := by
  rw [List.map_set, set_same]
  rw [List.getElem?_map, hi, ea]
  rfl
theorem okRows.perm {rows rows' : List Rw} (o : okRows rows) (p : rows'.Perm rows) : okRows rows' := by
  have nm : (rNames rows').Perm (rNames rows) := p.map _
  refine ⟨by rw [p.length_eq]; exact o.l1, by rw [p.length_eq]; exact o.l6, nm.nodup_iff.mpr o.nd, fun r hr => o.pl r (p.mem_iff.mp hr), fun r hr => ?_⟩
  obtain ⟨h1, h2⟩ := o.nx r (p.mem_iff.mp hr)
  exact ⟨h1, fun z hz => nm.mem_iff.mpr (h2 z hz)⟩
theorem last_perm {α : Type} {l : List α} {i : Nat} {r : α} (h : l[i]? = some r) : (l.take i ++ l.drop (i + 1) ++ [r]).Perm l := by
  obtain ⟨hi, e⟩ := List.getElem?_eq_some_iff.mp h
  have e1 : l = l.take i ++ r :: l.drop (i + 1) := by
    rw [← e, ← List.drop_eq_getElem_cons hi, List.take_append_drop]
  have p1 : (l.take i ++ l.drop (i + 1) ++ [r]).Perm (r :: (l.take i ++ l.drop (i + 1))) := List.perm_append_singleton _ _
  have p2 : (l.take i ++ r :: l.drop (i + 1)).Perm (r :: (l.take i ++ l.drop (i + 1))) := List.perm_middle
  have p3 := p1.trans p2.symm
  rw [← e1] at p3
  exact p3
/-- rows of one's own: their lists were made behind H -/
structure Own (H J : Hp) (R : Addr) (rows : List Rw) : Prop where
  at_ : RowsAt J R rows
  ok : okRows rows
  nda : (rows.map fun r => r.a).Nodup
  fr : ∀ r ∈ rows, H r.a = none
theorem Own.put {H J : Hp} {R : Addr} {rows : List Rw} {i : Nat} {r r' : Rw} (o : Own H J R rows) (hi : rows[i]? = some r) (ea : r'.a = r.a) (ht : J r'.ta = some (.tup (r'.nx.map V.str))) (en : r'.d.n = r.d.n) (od : okD r'.d) (on : r'.nx.Nodup ∧ ∀ z ∈ r'.nx, z ∈ rNames rows) :
    Own H (upd J r.a (.lst (rowL r'))) R (rows.set i r') :=
  ⟨o.at_.put o.nda hi ea ht, o.ok.set hi en od on, by rw [set_nda hi ea]; exact o.nda, fun x hx => by
    rcases List.mem_or_eq_of_mem_set hx with h | rfl
    · exact o.fr x h
    · rw [ea]; exact o.fr r (List.mem_of_getElem? hi)⟩
theorem Own.dw {H J J' : Hp} {R : Addr} {rows : List Rw} (o : Own H J R rows) (d : Dw J J') : Own H J' R rows := ⟨o.at_.dw d, o.ok, o.nda, o.fr⟩
def spCopy (K : S.Frag) : Sp := Sp1 fun x H Q _ => ∃ (R : Addr) (rows : List Rw), x = .ref R ∧ RowsAt H R rows ∧ okRows rows ∧ ∀ R2 rows2 H', Same H H' → Own H H' R2 rows2 → vw rows2 = vw rows → Q (.ref R2) H'
theorem ok__law_copy (T : Txt K mg) : FnOk P w K mg base (L2.CX P w) 1 (He.fAd K ("_law_copy", none)) (S.fdA K ("_law_copy", none)) ["_law_rows_here"] (spCopy K) := by
  refine FunD.ok T.F__law_copy sc__law_copy (fun vs H Q E h => S.splen1 h) (fun cdv A outer s H vs Q E hr h => ?_)
  have hu := hu_of hr
  refine ⟨_, (pss_one (ps_ret (pe_lc (own := [("_law_row_here", 1)]) (g := gName 1) (tt := tYes) rfl sc__law_copy.nd (S.pi_seqK (K := K) rfl (pv 0)) (blkOk_by (N := ["_law_rows_here", "_law_row_here"]) (sc := defScope s__law_copy) (by decide +kernel)) (fun _ _ _ _ _ => pg_name (i := 1) sc__law_copy.nd rfl (by first | exact Or.inl rfl | exact Or.inr rfl)) (fun _ _ _ _ _ => pts_nil) (fun _ _ _ _ _ => (pe_callTy (S.listOfK (K := K) rfl) rfl T.n_list S.boot_list (pa_cons (pv 1) pa_nil)))))), ?_⟩
  obtain ⟨_, rfl, R, rows, rfl, hR, ok, q⟩ := h
  have l6 := ok.l6
  refine ⟨_, rfl, R, _, rfl, .inl (.inl (.inl hR.at_)), fun It wk D hD => lc_seq wk (fun i J => Same H J ∧ ∃ as : List Addr, J D = some (.lst (as.map V.ref)) ∧ as.length = i ∧ as.Nodup ∧ (∀ p ∈ as, H p = none ∧ p ≠ D) ∧ ∀ (j : Nat) (r : Rw) (p : Addr), rows[j]? = some r → as[j]? = some p → J p = some (.lst (rowL r))) ⟨Same.new hD, [], upd_same, rfl, List.nodup_nil, (fun _ h => by cases h), fun j r p _ h => by simp at h⟩ (fun i J _ h => h.1) ?_ ?_⟩
  · rintro i x J hx ⟨sJ, as, eD, la, nd, fr, hp⟩
    rw [List.getElem?_map] at hx
    obtain ⟨r, hr', rfl⟩ := Option.map_eq_some_iff.mp hx
    have er := ((hR.same sJ).row r (List.mem_of_getElem? hr')).1
    have il := get_lt hr'
    refine ⟨rfl, yesT ?_⟩
    refine iteT ⟨_, rfl, r.a, _, rfl, .inl (.inl (.inl er)), fun p np => ⟨_, Same.new np _ _ eD, ?_, Same.upd (sJ.trans (Same.new np)) hD, as ++ [p], ?_, by simp [la], ?_, fun p2 hp2 => ?_, fun j r2 p2 h1 h2 => ?_⟩⟩
    · rw [List.length_map]
      exact Nat.lt_of_le_of_lt (show as.length ≤ 100 by omega) (by decide)
    · rw [upd_same, List.map_append]
      rfl
    · refine List.nodup_append.mpr ⟨nd, by simp, fun x hx y hy => ?_⟩
      rw [show y = p by simpa using hy]
      obtain ⟨j, hj⟩ := List.getElem?_of_mem hx
      have jl := get_lt hj
      exact ne_of_none (hp j _ x (List.getElem?_eq_getElem (by omega)) hj) np
    · rcases List.mem_append.mp hp2 with h | h
      · exact fr p2 h
      · rw [show p2 = p by simpa using h]
        refine ⟨?_, (ne_of_none eD np).symm⟩
        cases e : H p with
        | none => rfl
        | some o => rw [sJ _ _ e] at np; cases np
    · have pD : p ≠ D := (ne_of_none eD np).symm
      by_cases c : j < as.length
      · rw [List.getElem?_append_left c] at h2
        rw [upd_ne (fr p2 (List.mem_of_getElem? h2)).2]
        exact Same.new np _ _ (hp j r2 p2 h1 h2)
      · rw [List.getElem?_append_right (by omega)] at h2
        have jl : j - as.length = 0 := by
          by_cases c2 : j - as.length = 0
          · exact c2
          · rw [List.getElem?_eq_none (by simp; omega)] at h2
            cases h2
        rw [jl] at h2
        have : j = i := by omega
        subst this
        rw [hr'] at h1
        cases h1
        cases h2
        rw [upd_ne pD, upd_same]
  · rintro J ⟨sJ, as, eD, la, nd, fr, hp⟩
    rw [List.length_map] at la
    have ea : ((reA rows as).map fun r => r.a) = as := by
      unfold reA
      rw [List.map_map]
      have : ((fun r : Rw => r.a) ∘ fun z : Rw × Addr => { z.1 with a := z.2 }) = Prod.snd := rfl
      rw [this, List.map_snd_zip (by omega)]
    refine q D (reA rows as) J sJ ⟨⟨by rw [reA_a la.symm]; exact eD, fun r hr' => ?_⟩, ok.vw (reA_vw la.symm), by rw [ea]; exact nd, fun r hr' => ?_⟩ (reA_vw la.symm)
    · obtain ⟨i, r0, h1, h2, e⟩ := reA_mem hr'
      have x1 := hp i r0 r.a h1 h2
      have x2 := ((hR.same sJ).row r0 (List.mem_of_getElem? h1)).2
      rw [e]
      exact ⟨x1, x2⟩
    · have m : r.a ∈ (reA rows as).map fun r => r.a := List.mem_map.mpr ⟨r, hr', rfl⟩
      rw [ea] at m
      exact (fr _ m).1
end
end W

namespace W
open PySem PySem.Spec PyProof.Rows L2
section
variable {P : Program} {w : World} {K : S.Frag} {mg : Str → Option Value} {base : Heap}
open S
def rn (old new z : Str) : Str := if z = old then new else z
def rnR (old new : Str) (r : Rw) : Rw := { r with d := { r.d with n := rn old new r.d.n }, nx := r.nx.map (rn old new) }
theorem rn_inj {old new x y : Str} {ws : List Str} (h : new ∉ ws) (hx : x ∈ ws) (hy : y ∈ ws) (e : rn old new x = rn old new y) : x = y := by
  unfold rn at e
  split at e <;> split at e
  · rename_i a b
    rw [a, b]
  · exact absurd (e ▸ hy) h
  · exact absurd (e.symm ▸ hx) h
  · exact e
theorem map_nd {ws zs : List Str} {old new : Str} (h : new ∉ ws) (nd : zs.Nodup) (sub : ∀ z ∈ zs, z ∈ ws) : (zs.map (rn old new)).Nodup :=
  List.pairwise_map.mpr (List.Pairwise.imp_of_mem (fun {a b} ha hb ne e => ne (rn_inj h (sub a ha) (sub b hb) e)) nd)
theorem okRows.rn {rows : List Rw} {old new : Str} (o : okRows rows) (hn : isNm new = true) (h : new ∉ rNames rows) : okRows (rows.map (rnR old new)) := by
  have nm : rNames (rows.map (rnR old new)) = (rNames rows).map (W.rn old new) := by
    unfold rNames
    rw [List.map_map, List.map_map]
    rfl
  refine ⟨by rw [List.length_map]; exact o.l1, by rw [List.length_map]; exact o.l6, by rw [nm]; exact map_nd h o.nd fun _ z => z, fun r hr => ?_, fun r hr => ?_⟩
  · obtain ⟨r0, h0, rfl⟩ := List.mem_map.mp hr
    obtain ⟨a, b, c, d⟩ := o.pl r0 h0
    refine ⟨?_, b, c, d⟩
    show isNm (W.rn old new r0.d.n) = true
    unfold W.rn
    split
    · exact hn
    · exact a
  · obtain ⟨r0, h0, rfl⟩ := List.mem_map.mp hr
    obtain ⟨a, b⟩ := o.nx r0 h0
    refine ⟨map_nd h a b, fun z hz => ?_⟩
    obtain ⟨y, hy, rfl⟩ := List.mem_map.mp hz
    rw [nm]
    exact List.mem_map.mpr ⟨y, b y hy, rfl⟩
def spRen (K : S.Frag) : Sp := Sp3 fun x y z H Q _ => ∃ (R : Addr) (rows : List Rw) (i : Nat) (new : Str), x = .ref R ∧ y = .int (i : Int) ∧ z = .str new ∧ RowsAt H R rows ∧ okRows rows ∧ i < rows.length ∧ isNm new = true ∧ new ∉ rNames rows ∧
  ∀ R2 rows2 H', Dw H H' → Own H H' R2 rows2 → rows2.length = rows.length → Q (.ref R2) H'
theorem ok__law_renamed (T : Txt K mg) : FnOk P w K mg base (L2.CX P w) 2 (He.fAd K ("_law_renamed", none)) (S.fdA K ("_law_renamed", none)) ["_law_rows_here", "_law_at", "_law_word"] (spRen K) := by
  have G__law_copy := ok__law_copy (P := P) (w := w) (base := base) T
  refine FunD.ok T.F__law_renamed sc__law_renamed (fun vs H Q E h => S.splen3 h) (fun cdv A outer s H vs Q E hr h => ?_)
  have hu := hu_of hr
  refine ⟨_, (pss_cons (ps_set (i := 3) sc__law_renamed.nd rfl (by first | exact Or.inl rfl | exact Or.inr rfl) (pe_ix (S.ixK (K := K) rfl) (pe_ix (S.ixK (K := K) rfl) (pv 0) (pv 1) (fun _ _ => rfl)) pe_int (fun _ _ => rfl)))
      (pss_cons (ps_set (i := 4) sc__law_renamed.nd rfl (by first | exact Or.inl rfl | exact Or.inr rfl) (S.pe_fnS G__law_copy (hr.mono (by decide)) rfl T.g__law_copy T.F__law_copy.kp (kb__law_copy_1 T) S.pas0 (pa_cons (pv 0) pa_nil) pk_nil rfl rfl))
      (pss_cons (ps_for (S.own_of rfl) rfl (S.pi_listK (K := K) rfl (pv 4)) (pg_name (i := 5) sc__law_renamed.nd rfl (by first | exact Or.inl rfl | exact Or.inr rfl))
        (pss_one (ps_asg (pe_callTy (S.tupOfK (K := K) rfl) rfl T.n_tuple S.boot_tuple (pa_cons (pe_lc (own := [("_law_one", 6)]) (g := gName 6) (tt := tYes) rfl sc__law_renamed.nd (S.pi_seqK (K := K) rfl (pe_ix (S.ixK (K := K) rfl) (pv 5) pe_int (fun _ _ => rfl))) (blkOk_by (N := ["_law_rows_here", "_law_at", "_law_word", "_law_old", "_law_out", "_law_row_here", "_law_one"]) (sc := defScope s__law_renamed) (by decide +kernel)) (fun _ _ _ _ _ => pg_name (i := 6) sc__law_renamed.nd rfl (by first | exact Or.inl rfl | exact Or.inr rfl)) (fun _ _ _ _ _ => pts_nil) (fun _ _ _ _ _ => (pe_ix (S.ixK (K := K) rfl) (pe_lst (pa_cons (pv 6) (pa_cons (pv 2) pa_nil))) (pe_callTy call_int1 rfl T.n_int S.boot_int (pa_cons (pe_cmpR op_eq (pv 6) (pv 3) (nomark _)) pa_nil)) (fun _ _ => rfl)))) pa_nil)) (pg_sub (pv 5) pe_int set_list))))
      (pss_cons (ps_set (i := 5) sc__law_renamed.nd rfl (by first | exact Or.inl rfl | exact Or.inr rfl) (pe_ix (S.ixK (K := K) rfl) (pv 4) (pv 1) (fun _ _ => rfl)))
      (pss_cons (ps_asg (pv 2) (pg_sub (pv 5) pe_int set_list))
      (pss_one (ps_ret (pv 4)))))))), ?_⟩
  obtain ⟨_, _, _, rfl, R, rows, i, new, rfl, rfl, rfl, hR, ok, hi, hn, hnew, q⟩ := h
  have l6 := ok.l6
  have ei := List.getElem?_eq_getElem hi
  refine ⟨_, rfl, _, rfl, ixX (.inl (.inl (.inl hR.at_))) (atI_nat (by rw [List.getElem?_map, ei]; rfl)) (ix3 (hR.row _ (List.mem_of_getElem? ei)).1 rfl ?_)⟩
  refine ⟨_, rfl, rfl, rfl, _, rfl, R, rows, rfl, hR, ok, fun R2 rw2 J0 s0 o2 ev => ?_⟩
  have ln2 : rw2.length = rows.length := by have := congrArg List.length ev; unfold vw at this; rwa [List.length_map, List.length_map] at this
  have nm2 : rNames rw2 = rNames rows := by rw [vw_rNames, vw_rNames, ev]
  generalize hold : rows[i].d.n = old at *
  refine ⟨_, rfl, R2, rfl, ⟨_, .inl (.inl o2.at_.at_)⟩, for_list (xs := rw2.map fun r => V.ref r.a) (fun k σ J => Dw H J ∧ (∃ v5 v6, σ = [some (.ref R), some (.int (i : Int)), some (.str new), some (.str old), some (.ref R2), v5, v6]) ∧ ∃ rw3, RowsAt J R2 rw3 ∧ ∀ j : Nat, (rw3[j]?).map (fun r => (r.a, r.d, r.nx)) = (rw2[j]?).map fun r => (r.a, r.d, if j < k then r.nx.map (rn old new) else r.nx))
    ⟨.of s0, ⟨_, _, rfl⟩, rw2, o2.at_, fun j => by simp⟩ (fun k σ J hk h => ?_) ?_ ?_⟩
  · obtain ⟨_, _, rw3, h3, e3⟩ := h
    have ea : (rw3.map fun r => V.ref r.a) = rw2.map fun r => V.ref r.a := by
      refine List.ext_getElem? fun j => ?_
      have := congrArg (Option.map fun z : Addr × Pl × List Str => V.ref z.1) (e3 j)
      rw [Option.map_map, Option.map_map] at this
      rw [List.getElem?_map, List.getElem?_map]
      exact this
    rw [← ea]
    exact .inl (.inl h3.at_)
  · rintro k x σ J hx ⟨d, ⟨v5, v6, rfl⟩, rw3, h3, e3⟩
    have ea : (rw3.map fun r => r.a) = rw2.map fun r => r.a := by
      refine List.ext_getElem? fun j => ?_
      have := congrArg (Option.map fun z : Addr × Pl × List Str => z.1) (e3 j)
      rw [Option.map_map, Option.map_map] at this
      rw [List.getElem?_map, List.getElem?_map]
      exact this
    rw [List.getElem?_map] at hx
    obtain ⟨r2, h2, rfl⟩ := Option.map_eq_some_iff.mp hx
    have e3k := e3 k
    rw [h2, Option.map_some, if_neg (Nat.lt_irrefl k)] at e3k
    obtain ⟨r3, h3k, e4⟩ := Option.map_eq_some_iff.mp e3k
    simp only [Prod.mk.injEq] at e4
    obtain ⟨ea3, ed3, en3⟩ := e4
    have er := h3.row r3 (List.mem_of_getElem? h3k)
    have o2r := o2.ok.nxl (List.mem_of_getElem? h2)
    rw [← ea3]
    refine ⟨_, rfl, ix3 er.1 rfl ⟨r3.ta, _, rfl, .inr (.inl (.inl er.2)), fun It wk D hD => lc_seq wk (fun m J' => Same J J' ∧ J' D = some (.lst (((r3.nx.take m).map (rn old new)).map V.str))) ⟨Same.new hD, upd_same⟩ (fun m J' _ h => h.1) ?_ ?_⟩⟩
    · rintro m y J' hy ⟨sJ, eD⟩
      rw [List.getElem?_map] at hy
      obtain ⟨z, hz, rfl⟩ := Option.map_eq_some_iff.mp hy
      refine ⟨rfl, yesT ?_⟩
      refine iteT ⟨_, rfl, _, rfl, by show 2 ≤ sizeLine; decide, fun tl htl => ⟨_, rfl, _, rfl, rfl, .inr ⟨_, rfl, ?_⟩⟩⟩
      refine ix3 (v := .str (rn old new z)) upd_same ?_ ⟨_, Same.new htl _ _ eD, ?_, Same.upd (sJ.trans (Same.new htl)) hD, ?_⟩
      · by_cases c : z = old
        · simp [rn, c, b2i]
          rfl
        · simp [rn, c, b2i]
          rfl
      · rw [List.length_map, List.length_map, List.length_take, en3]
        exact Nat.lt_of_le_of_lt (show min m r2.nx.length ≤ 100 by omega) (by decide)
      · rw [upd_same, List.take_add_one, hz, List.map_append, List.map_append]
        rfl
    · rintro J1 ⟨s1, eD⟩
      rw [List.length_map, List.take_length] at eD
      refine ⟨D, _, rfl, .inl ⟨.inl (.inl eD), fun tt htt => ?_⟩⟩
      have s2 := s1.trans (Same.new (o := .tup ((r3.nx.map (rn old new)).map V.str)) htt)
      have h4 := h3.same s2
      have er4 := h4.row r3 (List.mem_of_getElem? h3k)
      refine ⟨_, rfl, r3.a, _, 4, 4, rfl, rfl, er4.1, rfl, (d.trans (.of s2)).fresh ?_, ⟨_, _, rfl⟩, rw3.set k { r3 with ta := tt, nx := r3.nx.map (rn old new) }, h4.put (r' := { r3 with ta := tt, nx := r3.nx.map (rn old new) }) (by rw [ea]; exact o2.nda) h3k rfl upd_same, fun j => ?_⟩
      · rw [ea3]
        exact o2.fr r2 (List.mem_of_getElem? h2)
      · rw [List.getElem?_set]
        by_cases c : k = j
        · subst c
          rw [if_pos rfl, if_pos (get_lt h3k), h2]
          simp [ea3, ed3, en3]
        · rw [if_neg c, e3 j]
          have : (j < k + 1) ↔ (j < k) := by omega
          simp [this]
  · rintro σ J ⟨d, ⟨v5, v6, rfl⟩, rw3, h3, e3⟩
    rw [List.length_map] at e3
    have ea : (rw3.map fun r => r.a) = rw2.map fun r => r.a := by
      refine List.ext_getElem? fun j => ?_
      have := congrArg (Option.map fun z : Addr × Pl × List Str => z.1) (e3 j)
      rw [Option.map_map, Option.map_map] at this
      rw [List.getElem?_map, List.getElem?_map]
      exact this
    have ln3 : rw3.length = rw2.length := by have := congrArg List.length ea; rwa [List.length_map, List.length_map] at this
    have hi3 : i < rw3.length := by omega
    have h3i := List.getElem?_eq_getElem hi3
    have er := h3.row _ (List.mem_of_getElem? h3i)
    refine ⟨_, rfl, _, rfl, ixX (.inl (.inl (.inl h3.at_))) (atI_nat (by rw [List.getElem?_map, h3i]; rfl)) ⟨_, rfl, _, rfl, (rw3[i]).a, _, 0, 0, rfl, rfl, er.1, rfl, ?_⟩⟩
    have h4 := h3.put (r' := { rw3[i] with d := { (rw3[i]).d with n := new } }) (by rw [ea]; exact o2.nda) h3i rfl er.2
    have hi2 : i < rw2.length := by omega
    have fra : ∀ r ∈ rw3, H r.a = none := fun r hr' => by
      have m : r.a ∈ rw3.map fun r => r.a := List.mem_map.mpr ⟨r, hr', rfl⟩
      rw [ea] at m
      obtain ⟨r', h', e⟩ := List.mem_map.mp m
      rw [← e]
      exact o2.fr r' h'
    have nold : (rw2[i]).d.n = old := by
      have e1 : (rNames rw2)[i]? = some (rw2[i]).d.n := by unfold rNames; rw [List.getElem?_map, List.getElem?_eq_getElem hi2]; rfl
      have e2 : (rNames rows)[i]? = some old := by unfold rNames; rw [List.getElem?_map, ei, Option.map_some, hold]
      rw [nm2, e2] at e1
      exact (Option.some.inj e1).symm
    have vv : vw (rw3.set i { rw3[i] with d := { (rw3[i]).d with n := new } }) = vw (rw2.map (rnR old new)) := by
      unfold vw
      refine List.ext_getElem? fun j => ?_
      rw [List.getElem?_map, List.getElem?_set, List.getElem?_map, List.getElem?_map]
      have e3j := e3 j
      by_cases c : i = j
      · subst c
        rw [if_pos rfl, if_pos hi3, List.getElem?_eq_getElem hi2]
        rw [h3i, List.getElem?_eq_getElem hi2] at e3j
        simp only [Option.map_some, Option.some.injEq, Prod.mk.injEq, hi2, if_true] at e3j
        simp only [Option.map_some, rnR, e3j, nold]
        simp [rn]
      · rw [if_neg c]
        cases h2 : rw2[j]? with
        | none =>
          rw [List.getElem?_eq_none (by have := List.getElem?_eq_none_iff.mp h2; omega)]
          rfl
        | some r2 =>
          rw [h2] at e3j
          have jl := get_lt h2
          have h3j := List.getElem?_eq_getElem (show j < rw3.length by omega)
          rw [h3j] at e3j
          simp only [Option.map_some, Option.some.injEq, Prod.mk.injEq, jl, if_true] at e3j
          rw [h3j]
          have ne : r2.d.n ≠ old := fun e => by
            have q1 := List.pairwise_iff_getElem.mp o2.ok.nd
            unfold rNames at q1
            simp only [List.length_map, List.getElem_map] at q1
            have e5 : rw2[j] = r2 := by rw [List.getElem?_eq_getElem jl] at h2; exact Option.some.inj h2
            rcases Nat.lt_or_gt_of_ne c with g | g
            · exact q1 i j hi2 jl g (by rw [nold, e5, e])
            · exact q1 j i jl hi2 g (by rw [nold, e5, e])
          simp only [Option.map_some, rnR, e3j]
          simp [rn, ne]
    refine ⟨_, rfl, q R2 _ _ (d.fresh (fra _ (List.mem_of_getElem? h3i))) ⟨h4, (o2.ok.rn hn (by rw [nm2]; exact hnew)).vw vv, ?_, fun r hr' => ?_⟩ (by rw [List.length_set]; omega)⟩
    · have e9 := set_nda (r' := { rw3[i] with d := { (rw3[i]).d with n := new } }) h3i rfl
      rw [e9, ea]
      exact o2.nda
    · rcases List.mem_or_eq_of_mem_set hr' with h | rfl
      · exact fra r h
      · exact (show H (rw3[i]).a = none from fra _ (List.mem_of_getElem? h3i))
end
end W

namespace W
open PySem PySem.Spec PyProof.Rows L2
section
variable {P : Program} {w : World} {K : S.Frag} {mg : Str → Option Value} {base : Heap}
open S
def spChg (K : S.Frag) : Sp := Sp3 fun x y z H Q _ => ∃ (a R : Addr) (n : Int) (rows : List Rw) (i : Nat), x = .ref a ∧ H a = some (.lst [.int n]) ∧ y = .ref R ∧ z = .int (i : Int) ∧ RowsAt H R rows ∧ okRows rows ∧ i < rows.length ∧
  ∀ R2 rows2 H', Dw H H' → Own H H' R2 rows2 → rows2.length = rows.length → Q (.ref R2) H'
/-- between the changes: the row at its own place; at any place -/
def CI (H : Hp) (a R R2 : Addr) (i : Nat) (kd : Int) (rows : List Rw) (τ : L2.St) (J : Hp) : Prop := Dw H J ∧ ∃ (rw3 : List Rw) (r : Rw), Own H J R2 rw3 ∧ rw3.length = rows.length ∧ rw3[i]? = some r ∧ τ = [some (V.ref a), some (V.ref R), some (V.int (i : Int)), some (V.int kd), some (V.ref r.a), some (V.ref R2)]
def CJ (H : Hp) (a R : Addr) (i : Nat) (kd : Int) (rows : List Rw) (τ : L2.St) (J : Hp) : Prop := Dw H J ∧ ∃ (R3 : Addr) (rw3 : List Rw) (k : Nat) (r : Rw), Own H J R3 rw3 ∧ rw3.length = rows.length ∧ rw3[k]? = some r ∧ τ = [some (V.ref a), some (V.ref R), some (V.int (i : Int)), some (V.int kd), some (V.ref r.a), some (V.ref R3)]
theorem set_at {α : Type} {l : List α} {i : Nat} {x y : α} (h : l[i]? = some x) : (l.set i y)[i]? = some y := by
  rw [List.getElem?_set, if_pos rfl, if_pos (get_lt h)]
theorem CI.put {H J : Hp} {a R R2 : Addr} {i : Nat} {kd : Int} {rows rw3 : List Rw} {r r' : Rw} (d : Dw H J) (o : Own H J R2 rw3) (ln : rw3.length = rows.length) (hi : rw3[i]? = some r) (ea : r'.a = r.a) (ht : J r'.ta = some (.tup (r'.nx.map V.str))) (en : r'.d.n = r.d.n) (od : okD r'.d) (on : r'.nx.Nodup ∧ ∀ z ∈ r'.nx, z ∈ rNames rw3) :
    CI H a R R2 i kd rows [some (V.ref a), some (V.ref R), some (V.int (i : Int)), some (V.int kd), some (V.ref r.a), some (V.ref R2)] (upd J r.a (.lst (rowL r'))) :=
  ⟨d.fresh (o.fr r (List.mem_of_getElem? hi)), rw3.set i r', r', o.put hi ea ht en od on, by rw [List.length_set]; exact ln, set_at hi, by rw [ea]⟩
theorem CJ.put {H J : Hp} {a R R3 : Addr} {i k : Nat} {kd : Int} {rows rw3 : List Rw} {r r' : Rw} (d : Dw H J) (o : Own H J R3 rw3) (ln : rw3.length = rows.length) (hi : rw3[k]? = some r) (ea : r'.a = r.a) (ht : J r'.ta = some (.tup (r'.nx.map V.str))) (en : r'.d.n = r.d.n) (od : okD r'.d) (on : r'.nx.Nodup ∧ ∀ z ∈ r'.nx, z ∈ rNames rw3) :
    CJ H a R i kd rows [some (V.ref a), some (V.ref R), some (V.int (i : Int)), some (V.int kd), some (V.ref r.a), some (V.ref R3)] (upd J r.a (.lst (rowL r'))) :=
  ⟨d.fresh (o.fr r (List.mem_of_getElem? hi)), R3, rw3.set k r', k, r', o.put hi ea ht en od on, by rw [List.length_set]; exact ln, set_at hi, by rw [ea]⟩
theorem cut1d (xs : List V) : cutV xs (some 1) none = xs.drop 1 := by
  cases xs with
  | nil => rfl
  | cons x xs => exact cut_drop (i := 1) (x :: xs) (by simp)
theorem cut1t (xs : List V) : cutV xs none (some 1) = xs.take 1 := by
  cases xs with
  | nil => rfl
  | cons x xs => exact cut_take (i := 1) (x :: xs) (by simp)
theorem ok__law_changed (T : Txt K mg) : FnOk P w K mg base (L2.CX P w) 3 (He.fAd K ("_law_changed", none)) (S.fdA K ("_law_changed", none)) ["_law_draw", "_law_rows_here", "_law_at"] (spChg K) := by
  have G__law_take := ok__law_take (P := P) (w := w) (base := base) T
  have G__law_renamed := ok__law_renamed (P := P) (w := w) (base := base) T
  have G__law_name := ok__law_name (P := P) (w := w) (base := base) T
  have G__law_copy := ok__law_copy (P := P) (w := w) (base := base) T
  refine FunD.ok T.F__law_changed sc__law_changed (fun vs H Q E h => S.splen3 h) (fun cdv A outer s H vs Q E hr h => ?_)
  have hu := hu_of hr
  refine ⟨_, (pss_cons (ps_set (i := 3) sc__law_changed.nd rfl (by first | exact Or.inl rfl | exact Or.inr rfl) (S.pe_fnS G__law_take (hr.mono (by decide)) rfl T.g__law_take T.F__law_take.kp (kb__law_take_2 T) S.pas0 (pa_cons (pv 0) (pa_cons pe_int pa_nil)) pk_nil rfl rfl))
      (pss_cons (ps_if (pt_cmpR op_eq (pv 3) pe_int (nomark _)) (pss_one (ps_ret (S.pe_fnS G__law_renamed (hr.mono (by decide)) rfl T.g__law_renamed T.F__law_renamed.kp (kb__law_renamed_3 T) S.pas0 (pa_cons (pv 1) (pa_cons (pv 2) (pa_cons (S.pe_fnS G__law_name (hr.mono (by decide)) rfl T.g__law_name T.F__law_name.kp (kb__law_name_2 T) S.pas0 (pa_cons (pv 0) (pa_cons (pe_lc (own := [("_law_row_here", 4)]) (g := gName 4) (tt := tYes) rfl sc__law_changed.nd (S.pi_seqK (K := K) rfl (pv 1)) (blkOk_by (N := ["_law_draw", "_law_rows_here", "_law_at", "_law_kind", "_law_row_here", "_law_out"]) (sc := defScope s__law_changed) (by decide +kernel)) (fun _ _ _ _ _ => pg_name (i := 4) sc__law_changed.nd rfl (by first | exact Or.inl rfl | exact Or.inr rfl)) (fun _ _ _ _ _ => pts_nil) (fun _ _ _ _ _ => (pe_ix (S.ixK (K := K) rfl) (pv 4) pe_int (fun _ _ => rfl)))) pa_nil)) pk_nil rfl rfl) pa_nil))) pk_nil rfl rfl))) pss_nil)
      (pss_cons (ps_set (i := 5) sc__law_changed.nd rfl (by first | exact Or.inl rfl | exact Or.inr rfl) (S.pe_fnS G__law_copy (hr.mono (by decide)) rfl T.g__law_copy T.F__law_copy.kp (kb__law_copy_1 T) S.pas0 (pa_cons (pv 1) pa_nil) pk_nil rfl rfl))
      (pss_cons (ps_set (i := 4) sc__law_changed.nd rfl (by first | exact Or.inl rfl | exact Or.inr rfl) (pe_ix (S.ixK (K := K) rfl) (pv 5) (pv 2) (fun _ _ => rfl)))
      (S.pss_cut (ps_if (PW.pt (pw_and (pt_cmpR op_eq (pv 3) pe_int (nomark _)) (pw_and1 (pt_cmpR op_lt (pe_ix (S.ixK (K := K) rfl) (pv 4) pe_int (fun _ _ => rfl)) (pe_ix (S.ixK (K := K) rfl) (pv 4) pe_int (fun _ _ => rfl)) (nomark _))))) (pss_one (ps_asg (pe_op op_add (pe_ix (S.ixK (K := K) rfl) (pv 4) pe_int (fun _ _ => rfl)) pe_int) (pg_sub (pv 4) pe_int set_list))) pss_nil)
      (S.pss_cut (ps_if (PW.pt (pw_and (pt_cmpR op_eq (pv 3) pe_int (nomark _)) (pw_and1 (pt_cmpR op_lt (pe_ix (S.ixK (K := K) rfl) (pv 4) pe_int (fun _ _ => rfl)) pe_int (nomark _))))) (pss_one (ps_asg (pe_op op_add (pe_ix (S.ixK (K := K) rfl) (pv 4) pe_int (fun _ _ => rfl)) pe_int) (pg_sub (pv 4) pe_int set_list))) pss_nil)
      (S.pss_cut (ps_if (pt_cmpR op_eq (pv 3) pe_int (nomark _)) (pss_one (ps_asg (pe_not (pe_ix (S.ixK (K := K) rfl) (pv 4) pe_int (fun _ _ => rfl))) (pg_sub (pv 4) pe_int set_list))) pss_nil)
      (S.pss_cut (ps_if (pt_cmpR op_eq (pv 3) pe_int (nomark _)) (pss_one (ps_set (i := 5) sc__law_changed.nd rfl (by first | exact Or.inl rfl | exact Or.inr rfl) (pe_op op_cat (pe_op op_cat (pe_slice (S.slLK (K := K) rfl) (pv 5) po_none (po_some (pv 2))) (pe_slice (S.slLK (K := K) rfl) (pv 5) (po_some (pe_op op_add (pv 2) pe_int)) po_none)) (pe_lst (pa_cons (pv 4) pa_nil))))) pss_nil)
      (S.pss_cut (ps_if (PW.pt (pw_and (pt_cmpR op_eq (pv 3) pe_int (nomark _)) (pw_and1 (pt_cmpR op_gt (pe_callB (S.lenK (K := K) rfl) rfl T.n_len S.boot_len (pa_cons (pe_ix (S.ixK (K := K) rfl) (pv 4) pe_int (fun _ _ => rfl)) pa_nil)) pe_int (nomark _))))) (pss_one (ps_asg (pe_slice (S.slTwK (K := K) rfl) (pe_ix (S.ixK (K := K) rfl) (pv 4) pe_int (fun _ _ => rfl)) (po_some pe_int) po_none) (pg_sub (pv 4) pe_int set_list))) pss_nil)
      (S.pss_cut (ps_if (pt_cmpR op_eq (pv 3) pe_int (nomark _)) (pss_one (ps_asg (pe_op (S.catTK (K := K) rfl) (pe_slice (S.slTwK (K := K) rfl) (pe_ix (S.ixK (K := K) rfl) (pv 4) pe_int (fun _ _ => rfl)) (po_some pe_int) po_none) (pe_slice (S.slTwK (K := K) rfl) (pe_ix (S.ixK (K := K) rfl) (pv 4) pe_int (fun _ _ => rfl)) po_none (po_some pe_int))) (pg_sub (pv 4) pe_int set_list))) pss_nil)
      (pss_one (ps_ret (pv 5))))))))))))), ?_⟩
  obtain ⟨_, _, _, rfl, a, R, n0, rows, i, rfl, ha, rfl, rfl, hR, ok, hi, q⟩ := h
  have l6 := ok.l6
  refine ⟨_, rfl, rfl, rfl, _, _, rfl, a, n0, 7, rfl, ha, rfl, by decide, by decide, fun kd n1 kd0 kd1 => ?_⟩
  have d0 : Dw H (upd H a (.lst [.int n1])) := Dw.take ha
  have h0 := hR.dw d0
  refine ⟨_, rfl, rfl, _, rfl, ?_⟩
  by_cases c0 : kd = 0
  · refine iteY (by simp [c0]) ?_
    refine ⟨_, rfl, _, rfl, _, rfl, _, rfl, R, _, rfl, .inl (.inl (.inl h0.at_)), fun It wk D hD => lc_seq wk (fun m J' => Same (upd H a (.lst [.int n1])) J' ∧ J' D = some (.lst (((rNames rows).take m).map V.str))) ⟨Same.new hD, upd_same⟩ (fun m J' _ h => h.1) ?_ ?_⟩
    · rintro j x J' hx ⟨sJ, eD⟩
      rw [List.getElem?_map] at hx
      obtain ⟨r, hr', rfl⟩ := Option.map_eq_some_iff.mp hx
      refine ⟨rfl, yesT ?_⟩
      refine iteT ⟨_, rfl, ix3 ((h0.same sJ).row r (List.mem_of_getElem? hr')).1 rfl ⟨_, eD, ?_, Same.upd sJ hD, ?_⟩⟩
      · rw [List.length_map, List.length_take]
        unfold rNames
        rw [List.length_map]
        exact Nat.lt_of_le_of_lt (show min j rows.length ≤ 100 by omega) (by decide)
      · have e : (rNames rows)[j]? = some r.d.n := by unfold rNames; rw [List.getElem?_map, hr']; rfl
        rw [upd_same, List.take_add_one, e, List.map_append]
        rfl
    · rintro J1 ⟨s1, eD⟩
      have eD : J1 D = some (.lst ((rNames rows).map V.str)) := by
        have e : (rows.map fun r => V.ref r.a).length = (rNames rows).length := by unfold rNames; rw [List.length_map, List.length_map]
        rw [e, List.take_length] at eD
        exact eD
      have e1 : J1 a = some (.lst [.int n1]) := s1 _ _ upd_same
      refine ⟨rfl, rfl, _, _, rfl, a, D, n1, rNames rows, rfl, rfl, ne_of_none upd_same hD, e1, eD, by unfold rNames; rw [List.length_map]; omega, fun z J2 hz hzn dz => ?_⟩
      have d2 := (d0.trans (.of s1)).trans (.dr_ e1 dz)
      refine ⟨rfl, rfl, _, _, _, rfl, R, rows, i, z, rfl, rfl, rfl, hR.dw d2, ok, hi, hz, hzn, fun R2 rows2 H' d3 o3 l3 => q R2 rows2 H' (d2.trans d3) ⟨o3.at_, o3.ok, o3.nda, fun r hr' => d2.back (o3.fr r hr')⟩ l3⟩
  · refine iteN (by simp [c0]) ?_
    refine ⟨_, rfl, rfl, rfl, _, rfl, R, rows, rfl, h0, ok, fun R2 rw2 J2 s2 o2 ev => ?_⟩
    have ln2 : rw2.length = rows.length := by have := congrArg List.length ev; unfold vw at this; rwa [List.length_map, List.length_map] at this
    have d2 := d0.trans (.of s2)
    have o2' : Own H J2 R2 rw2 := ⟨o2.at_, o2.ok, o2.nda, fun r hr' => d0.back (o2.fr r hr')⟩
    have hi2 : i < rw2.length := by omega
    have e2 := List.getElem?_eq_getElem hi2
    refine ⟨_, rfl, _, rfl, ixX (.inl (.inl (.inl o2.at_.at_))) (atI_nat (by rw [List.getElem?_map, e2]; rfl)) ?_⟩
    refine ⟨CI H a R R2 i kd rows, ?_, ?_⟩
    · refine ⟨_, rfl, rfl, _, rfl, ?_⟩
      have er := (o2'.at_.row _ (List.mem_of_getElem? e2)).1
      by_cases c : kd = 1
      · refine iteY (by simp [c]) ⟨_, rfl, ix3 er rfl ⟨_, rfl, ix3 er rfl ⟨_, _, rfl, rfl, _, rfl, ?_⟩⟩⟩
        by_cases c2 : (rw2[i]).d.l < (rw2[i]).d.m
        · obtain ⟨p1, p2, p3, p4⟩ := o2'.ok.pl _ (List.mem_of_getElem? e2)
          exact iteY (by simpa using c2) ⟨_, rfl, ix3 er rfl ⟨_, _, rfl, rfl, _, rfl, (rw2[i]).a, _, 1, 1, rfl, rfl, er, rfl, CI.put d2 o2' ln2 e2 (r' := { rw2[i] with d := { (rw2[i]).d with l := (rw2[i]).d.l + 1 } }) rfl (o2'.at_.row rw2[i] (List.mem_of_getElem? e2)).2 rfl ⟨p1, by show 1 ≤ (rw2[i]).d.l + 1; omega, by show (rw2[i]).d.l + 1 ≤ (rw2[i]).d.m; omega, p4⟩ (o2'.ok.nx rw2[i] (List.mem_of_getElem? e2))⟩⟩
        · exact iteN (by simpa using c2) ⟨d2, rw2, _, o2', ln2, e2, rfl⟩
      · exact iteN (by simp [c]) (iteF ⟨d2, rw2, _, o2', ln2, e2, rfl⟩)
    rintro τ J ⟨d3, rw3, r, o3, l3, e3, rfl⟩
    refine ⟨CI H a R R2 i kd rows, ?_, ?_⟩
    · refine ⟨_, rfl, rfl, _, rfl, ?_⟩
      have er := (o3.at_.row _ (List.mem_of_getElem? e3)).1
      by_cases c : kd = 2
      · refine iteY (by simp [c]) ⟨_, rfl, ix3 er rfl ⟨_, _, rfl, rfl, _, rfl, ?_⟩⟩
        by_cases c2 : r.d.m < 6
        · obtain ⟨p1, p2, p3, p4⟩ := o3.ok.pl _ (List.mem_of_getElem? e3)
          exact iteY (by simpa using c2) ⟨_, rfl, ix3 er rfl ⟨_, _, rfl, rfl, _, rfl, r.a, _, 2, 2, rfl, rfl, er, rfl, CI.put d3 o3 l3 e3 (r' := { r with d := { r.d with m := r.d.m + 1 } }) rfl (o3.at_.row r (List.mem_of_getElem? e3)).2 rfl ⟨p1, p2, by show r.d.l ≤ r.d.m + 1; omega, by show r.d.m + 1 ≤ 6; omega⟩ (o3.ok.nx r (List.mem_of_getElem? e3))⟩⟩
        · exact iteN (by simpa using c2) ⟨d3, rw3, r, o3, l3, e3, rfl⟩
      · exact iteN (by simp [c]) (iteF ⟨d3, rw3, r, o3, l3, e3, rfl⟩)
    clear d3 o3 l3 e3
    rintro τ J ⟨d3, rw3, r, o3, l3, e3, rfl⟩
    refine ⟨CI H a R R2 i kd rows, ?_, ?_⟩
    · refine ⟨_, rfl, rfl, _, rfl, ?_⟩
      have er := (o3.at_.row _ (List.mem_of_getElem? e3)).1
      by_cases c : kd = 3
      · exact iteY (by simp [c]) ⟨_, rfl, ix3 er rfl ⟨_, rfl, _, rfl, r.a, _, 3, 3, rfl, rfl, er, rfl, CI.put d3 o3 l3 e3 (r' := { r with d := { r.d with t := !r.d.t } }) rfl (o3.at_.row r (List.mem_of_getElem? e3)).2 rfl (o3.ok.pl r (List.mem_of_getElem? e3)) (o3.ok.nx r (List.mem_of_getElem? e3))⟩⟩
      · exact iteN (by simp [c]) ⟨d3, rw3, r, o3, l3, e3, rfl⟩
    clear d3 o3 l3 e3
    rintro τ J ⟨d3, rw3, r, o3, l3, e3, rfl⟩
    refine ⟨CJ H a R i kd rows, ?_, ?_⟩
    · refine ⟨_, rfl, rfl, _, rfl, ?_⟩
      by_cases c : kd = 4
      · refine iteY (by simp [c]) ⟨_, rfl, _, rfl, _, rfl, R2, _, rfl, .inl (.inl o3.at_.at_), fun p1 h1 => ?_⟩
        have s1 := Same.new (o := .lst (cutV (rw3.map fun r => V.ref r.a) none (some (i : Int)))) h1
        refine ⟨_, rfl, _, rfl, _, _, rfl, rfl, _, rfl, R2, _, rfl, .inl (.inl (s1 _ _ o3.at_.at_)), fun p2 h2 => ?_⟩
        have s2' := Same.new (o := .lst (cutV (rw3.map fun r => V.ref r.a) (some ((i : Int) + 1)) none)) h2
        have ec1 : cutV (rw3.map fun r => V.ref r.a) none (some (i : Int)) = (rw3.map fun r => V.ref r.a).take i := cut_take _ (by rw [List.length_map]; omega)
        have ec2 : cutV (rw3.map fun r => V.ref r.a) (some ((i : Int) + 1)) none = (rw3.map fun r => V.ref r.a).drop (i + 1) := cut_drop (i := i + 1) _ (by rw [List.length_map]; omega)
        have cl1 := cutV_length (rw3.map fun r => V.ref r.a) none (some (i : Int))
        have cl2 := cutV_length (rw3.map fun r => V.ref r.a) (some ((i : Int) + 1)) none
        rw [List.length_map] at cl1 cl2
        refine ⟨p1, p2, _, _, rfl, rfl, s2' _ _ upd_same, upd_same, Nat.le_trans (show _ ≤ 100 by omega) (by decide), fun p3 h3 => ?_⟩
        refine ⟨_, rfl, by show 1 ≤ sizeLine; decide, fun p4 h4 => ?_⟩
        refine ⟨p3, p4, _, _, rfl, rfl, Same.new h4 _ _ upd_same, upd_same, Nat.le_trans (show _ ≤ 100 by rw [List.length_append]; simp only [List.length_cons, List.length_nil]; omega) (by decide), fun p5 h5 => ?_⟩
        have sA := (((s1.trans s2').trans (Same.new (o := .lst (cutV (rw3.map fun r => V.ref r.a) none (some (i : Int)) ++ cutV (rw3.map fun r => V.ref r.a) (some ((i : Int) + 1)) none)) h3)).trans (Same.new (o := .lst [.ref r.a]) h4)).trans (Same.new (o := .lst (cutV (rw3.map fun r => V.ref r.a) none (some (i : Int)) ++ cutV (rw3.map fun r => V.ref r.a) (some ((i : Int) + 1)) none ++ [.ref r.a])) h5)
        have pm := last_perm e3
        refine ⟨d3.trans (.of sA), p5, rw3.take i ++ rw3.drop (i + 1) ++ [r], (rw3.take i ++ rw3.drop (i + 1)).length, r, ⟨⟨?_, fun r' hr' => ?_⟩, o3.ok.perm pm, (pm.map _).nodup_iff.mpr o3.nda, fun r' hr' => o3.fr r' (pm.mem_iff.mp hr')⟩, by rw [pm.length_eq]; exact l3, ?_, rfl⟩
        · rw [upd_same, ec1, ec2, List.map_append, List.map_append, List.map_take, List.map_drop]
          rfl
        · have := o3.at_.row r' (pm.mem_iff.mp hr')
          exact ⟨sA _ _ this.1, sA _ _ this.2⟩
        · rw [List.getElem?_append_right (Nat.le_refl _), Nat.sub_self]
          rfl
      · exact iteN (by simp [c]) ⟨d3, R2, rw3, i, r, o3, l3, e3, rfl⟩
    clear d3 o3 l3 e3
    rintro τ J ⟨d3, R3, rw3, k, r, o3, l3, e3, rfl⟩
    refine ⟨CJ H a R i kd rows, ?_, ?_⟩
    · refine ⟨_, rfl, rfl, _, rfl, ?_⟩
      have er := (o3.at_.row _ (List.mem_of_getElem? e3)).1
      have et := (o3.at_.row _ (List.mem_of_getElem? e3)).2
      obtain ⟨n1', n2'⟩ := o3.ok.nx _ (List.mem_of_getElem? e3)
      by_cases c : kd = 5
      · refine iteY (by simp [c]) ⟨_, rfl, ix3 er rfl ⟨_, _, rfl, lenVX (.inr (.inl (.inl et))), _, _, rfl, rfl, _, rfl, ?_⟩⟩
        by_cases c2 : (0 : Int) < ((r.nx.map V.str).length : Int)
        · refine iteY (by simpa using c2) ⟨_, rfl, ix3 er rfl ⟨_, rfl, ?_⟩⟩
          unfold tNoPart
          refine sl_Tt et fun tt J4 s4 e4 => ?_
          rw [cut1d, ← List.map_drop] at e4
          have o4 := o3.dw (.of s4)
          exact ⟨_, rfl, r.a, _, 4, 4, rfl, rfl, (o4.at_.row _ (List.mem_of_getElem? e3)).1, rfl, CJ.put (d3.trans (.of s4)) o4 l3 e3 (r' := { r with ta := tt, nx := r.nx.drop 1 }) rfl e4 rfl (o3.ok.pl r (List.mem_of_getElem? e3)) ⟨n1'.sublist (List.drop_sublist _ _), fun z hz => n2' z (List.mem_of_mem_drop hz)⟩⟩
        · exact iteN (by simpa using c2) ⟨d3, R3, rw3, k, r, o3, l3, e3, rfl⟩
      · exact iteN (by simp [c]) (iteF ⟨d3, R3, rw3, k, r, o3, l3, e3, rfl⟩)
    clear d3 o3 l3 e3
    rintro τ J ⟨d3, R3, rw3, k, r, o3, l3, e3, rfl⟩
    refine ⟨CJ H a R i kd rows, ?_, ?_⟩
    · refine ⟨_, rfl, rfl, _, rfl, ?_⟩
      have er := (o3.at_.row _ (List.mem_of_getElem? e3)).1
      have et := (o3.at_.row _ (List.mem_of_getElem? e3)).2
      obtain ⟨n1', n2'⟩ := o3.ok.nx _ (List.mem_of_getElem? e3)
      by_cases c : kd = 6
      · refine iteY (by simp [c]) ⟨_, rfl, ix3 er rfl ⟨_, rfl, ?_⟩⟩
        unfold tNoPart
        refine sl_Tt et fun t1 J4 s4 e4 => ?_
        have o4 := o3.dw (.of s4)
        have er4 := o4.at_.row _ (List.mem_of_getElem? e3)
        refine ⟨_, rfl, ix3 er4.1 rfl ⟨_, rfl, sl_Tt er4.2 fun t2 J5 s5 e5 => ?_⟩⟩
        rw [cut1d, ← List.map_drop] at e4
        rw [cut1t, ← List.map_take] at e5
        have nl := o3.ok.nxl (List.mem_of_getElem? e3)
        refine cat_Tt (s5 _ _ e4) e5 (by rw [List.length_map, List.length_map, List.length_drop, List.length_take]; omega) fun t3 J6 s6 e6 => ?_
        rw [← List.map_append] at e6
        have sB := (s4.trans s5).trans s6
        have o6 := o3.dw (.of sB)
        have pm : (r.nx.drop 1 ++ r.nx.take 1).Perm r.nx := by
          have := List.perm_append_comm (l₁ := r.nx.drop 1) (l₂ := r.nx.take 1)
          rwa [List.take_append_drop] at this
        exact ⟨_, rfl, r.a, _, 4, 4, rfl, rfl, (o6.at_.row _ (List.mem_of_getElem? e3)).1, rfl, CJ.put (d3.trans (.of sB)) o6 l3 e3 (r' := { r with ta := t3, nx := r.nx.drop 1 ++ r.nx.take 1 }) rfl e6 rfl (o3.ok.pl r (List.mem_of_getElem? e3)) ⟨pm.nodup_iff.mpr n1', fun z hz => n2' z (pm.mem_iff.mp hz)⟩⟩
      · exact iteN (by simp [c]) ⟨d3, R3, rw3, k, r, o3, l3, e3, rfl⟩
    clear d3 o3 l3 e3
    rintro τ J ⟨d3, R3, rw3, k, r, o3, l3, e3, rfl⟩
    exact ⟨_, rfl, q R3 rw3 J d3 o3 l3⟩
end
end W

namespace W
open PySem PySem.Spec PyProof.Rows L2
section
variable {P : Program} {w : World} {K : S.Frag} {mg : Str → Option Value} {base : Heap}
open S
theorem pairs_of {α : Type} [DecidableEq α] {l l' : List α} {xs ys : List V} (hx : xs.length = l.length) (hy : ys.length = l'.length) : pairs (fun i => decide (l[i]? = l'[i]?)) xs ys = decide (l = l') := by
  unfold pairs
  rw [hx, hy, Bool.eq_iff_iff]
  simp only [Bool.and_eq_true, decide_eq_true_eq, List.all_eq_true, List.mem_range]
  constructor
  · rintro ⟨hl, h⟩
    refine List.ext_getElem? fun i => ?_
    by_cases c : i < l.length
    · exact h i c
    · rw [List.getElem?_eq_none (by omega), List.getElem?_eq_none (by omega)]
  · rintro rfl
    exact ⟨rfl, fun _ _ => rfl⟩
def eRow (r r' : Rw) (i : Nat) : Bool := match i with
  | 0 => decide (r.d.n = r'.d.n)
  | 1 => decide (r.d.l = r'.d.l)
  | 2 => decide (r.d.m = r'.d.m)
  | 3 => decide (r.d.t = r'.d.t)
  | _ => decide (r.nx = r'.nx)
theorem eRow_all (r r' : Rw) (m : Nat) (x y : List V) (hx : x.length = 5) (hy : y.length = 5) : pairs (eRow r r') x y = decide ((r.d, r.nx) = (r'.d, r'.nx)) := by
  unfold pairs
  rw [hx, hy]
  obtain ⟨_, ⟨a, b, c, d⟩, _, f⟩ := r
  obtain ⟨_, ⟨a', b', c', d'⟩, _, f'⟩ := r'
  rw [Bool.eq_iff_iff]
  simp [List.range, List.range.loop, eRow]
  grind
theorem ta_one {H : Hp} {r r' : Rw} (h : H r.ta = some (.tup (r.nx.map V.str))) (h' : H r'.ta = some (.tup (r'.nx.map V.str))) (e : r.ta = r'.ta) : r.nx = r'.nx := by
  rw [e] at h
  have := h.symm.trans h'
  injection this with this
  injection this with this
  exact mapS_inj this
theorem eg_row {H : Hp} {r r' : Rw} (h : H r.a = some (.lst (rowL r)) ∧ H r.ta = some (.tup (r.nx.map V.str))) (h' : H r'.a = some (.lst (rowL r')) ∧ H r'.ta = some (.tup (r'.nx.map V.str))) : EqG K H 2 (.ref r.a) (.ref r'.a) (decide ((r.d, r.nx) = (r'.d, r'.nx))) := by
  have key : ∀ (i : Nat) (p q : V), (rowL r)[i]? = some p → (rowL r')[i]? = some q → EqOk K H 1 p q (eRow r r' i) := fun i p q hp hq => by
    match i with
    | 0 => cases hp; cases hq; exact eg_str.at_
    | 1 => cases hp; cases hq; exact eg_int.at_
    | 2 => cases hp; cases hq; exact eg_int.at_
    | 3 => cases hp; cases hq; exact eg_bl.at_
    | 4 => cases hp; cases hq; exact (eg_tups (.inl (.inl h.2)) (.inl (.inl h'.2)) fun e => ta_one h.2 h'.2 e).at_
    | _ + 5 => cases hp
  refine (eg_list (.inl (.inl h.1)) (.inl (.inl h'.1)) key fun e => ?_).to (eRow_all r r' 5 _ _ rfl rfl)
  rw [eRow_all r r' 5 _ _ rfl rfl, decide_eq_true_eq]
  have e1 := h.1
  rw [e] at e1
  have := e1.symm.trans h'.1
  injection this with this
  injection this with this
  unfold rowL at this
  simp only [List.cons.injEq, V.str.injEq, V.int.injEq, V.bl.injEq, V.ref.injEq, and_true] at this
  obtain ⟨a1, a2, a3, a4, a5⟩ := this
  have a6 := ta_one h.2 h'.2 a5
  obtain ⟨_, ⟨a, b, c, d⟩, _, f⟩ := r
  obtain ⟨_, ⟨a', b', c', d'⟩, _, f'⟩ := r'
  simp_all
theorem eg_rows {H : Hp} {R R' : Addr} {rows rows' : List Rw} (h : RowsAt H R rows) (h' : RowsAt H R' rows') (ne : R = R' → vw rows = vw rows') : EqG K H 3 (.ref R) (.ref R') (decide (vw rows = vw rows')) := by
  have l1 : (rows.map fun r => V.ref r.a).length = (vw rows).length := by unfold vw; rw [List.length_map, List.length_map]
  have l2 : (rows'.map fun r => V.ref r.a).length = (vw rows').length := by unfold vw; rw [List.length_map, List.length_map]
  refine (eg_list (n := 2) (.inl (.inl h.at_)) (.inl (.inl h'.at_)) (fun i p q hp hq => ?_) fun e => ?_).to (pairs_of l1 l2)
  · rw [List.getElem?_map] at hp hq
    obtain ⟨r, hr, rfl⟩ := Option.map_eq_some_iff.mp hp
    obtain ⟨r', hr', rfl⟩ := Option.map_eq_some_iff.mp hq
    refine (eg_row (h.row r (List.mem_of_getElem? hr)) (h'.row r' (List.mem_of_getElem? hr'))).at_.to ?_
    unfold vw
    rw [List.getElem?_map, List.getElem?_map, hr, hr']
    simp
  · rw [pairs_of l1 l2]
    exact decide_eq_true (ne e)
/-- two places compared -/
theorem key_eqv {d d' : Pl} : PyData.eqvAll ([V.str d.n, .int d.l, .int d.m, .bl d.t].map dat) ([V.str d'.n, .int d'.l, .int d'.m, .bl d'.t].map dat) = decide (d = d') := by
  obtain ⟨a, b, c, e⟩ := d
  obtain ⟨a', b', c', e'⟩ := d'
  simp only [List.map, dat, PyData.eqvAll, PyData.eqv]
  rw [Bool.eq_iff_iff]
  simp
/-- the first four of a row -/
theorem eg_four {H : Hp} {x y : Addr} {r r' : Rw} (h : H x = some (.lst [.str r.d.n, .int r.d.l, .int r.d.m, .bl r.d.t])) (h' : H y = some (.lst [.str r'.d.n, .int r'.d.l, .int r'.d.m, .bl r'.d.t])) : EqG K H 5 (.ref x) (.ref y) (decide (r.d = r'.d)) := by
  have q := eg_dat (K := K) (H := H) (.lst (.inl (.inl h)) (.cons (.str _) (.cons (.int _) (.cons (.int _) (.cons (.bl _) .nil))))) (.lst (.inl (.inl h')) (.cons (.str _) (.cons (.int _) (.cons (.int _) (.cons (.bl _) .nil))))) rfl rfl
  refine (q.to ?_).up (by simp [PyData.depth, PyData.depthAll])
  obtain ⟨_, ⟨a, b, c, e⟩, _, _⟩ := r
  obtain ⟨_, ⟨a', b', c', e'⟩, _, _⟩ := r'
  simp only [PyData.eqv, PyData.eqvAll]
  rw [Bool.eq_iff_iff]
  simp
def spLaw (K : S.Frag) : Sp := Sp1 fun x H Q _ => ∃ (a : Addr) (ns : List Int), x = .ref a ∧ SqL K H a (ns.map V.int) ∧ ns.length ≤ 63 ∧ ∀ H', Q (.bl true) H'
end
end W

namespace W
open PySem PySem.Spec PyProof.Rows L2
section
variable {P : Program} {w : World} {K : S.Frag} {mg : Str → Option Value} {base : Heap}
open S
theorem sq_dw {H J : Hp} {a : Addr} {ns : List Int} (h : SqL K H a (ns.map V.int)) (d : Dw H J) : ∃ ns' : List Int, SqL K J a (ns'.map V.int) := by
  rcases h with (h | ⟨o, h⟩) | h
  · by_cases c : ∃ n : Int, ns = [n]
    · obtain ⟨n, rfl⟩ := c
      obtain ⟨m, e⟩ := d.dr a n h
      exact ⟨[m], .inl (.inl e)⟩
    · refine ⟨ns, .inl (.inl (d.kp _ _ (fun n z => c ⟨n, ?_⟩) h))⟩
      injection z with z
      cases ns with
      | nil => cases z
      | cons x xs =>
        cases xs with
        | nil => injection z with z1 _; injection z1 with z1; rw [z1]
        | cons y ys => cases z
  · exact ⟨ns, .inl (.inr ⟨o, d.kp _ _ (fun n z => by cases z) h⟩)⟩
  · exact ⟨ns, .inr h⟩
theorem nat_of {t : Int} {n : Nat} (h0 : 0 ≤ t) (h1 : t < (n : Int)) : ∃ k : Nat, t = (k : Int) ∧ k < n := ⟨t.toNat, by omega, by omega⟩
theorem notFirst_self {C : Addr} : PySem.W.notFirst K C (.ref C) = true := by simp [PySem.W.notFirst]
theorem nm_mem {rows : List Rw} {i : Nat} {r : Rw} (h : rows[i]? = some r) : r.d.n ∈ rNames rows := List.mem_map.mpr ⟨r, List.mem_of_getElem? h, rfl⟩
theorem abc_lt : ∀ c ∈ abc.cps.toList, c < 0x110000 := by decide +kernel
theorem nm_strOk {z : Str} (h : isNm z = true) : PyData.strOk z = true := by
  have h2 := h
  simp only [isNm, Bool.and_eq_true] at h2
  have h3 := List.all_eq_true.mp h2.2.2
  unfold PyData.strOk
  rw [← Array.all_toList, List.all_eq_true]
  intro c hc
  exact decide_eq_true (abc_lt c (of_decide_eq_true (h3 c hc)))
theorem sca_pl {d : Pl} (h : isNm d.n = true) : [V.str d.n, .int d.l, .int d.m, .bl d.t].all sca = true := by simp [sca, nm_strOk h]
/-- the row of the program at the place of the law's own -/
theorem vw_at {rows rows' : List Rw} (e : vw rows' = vw rows) {i : Nat} {r : Rw} (h : rows[i]? = some r) : ∃ r', rows'[i]? = some r' ∧ r'.d = r.d := by
  have := congrArg (fun l => l[i]?) e
  unfold vw at this
  simp only [List.getElem?_map, h, Option.map_some] at this
  obtain ⟨r', e', e2⟩ := Option.map_eq_some_iff.mp this
  simp only [Prod.mk.injEq] at e2
  exact ⟨r', e', e2.1⟩
theorem cut4 (r : Rw) : cutV (rowL r) none (some 4) = [.str r.d.n, .int r.d.l, .int r.d.m, .bl r.d.t] := rfl
theorem ok_law (T : Txt K mg) : FnOk P w K mg base (L2.CX P w) 6 (He.fAd K ("law", none)) (S.fdA K ("law", none)) ["_law_script"] (spLaw K) := by
  have G__law_cell := ok__law_cell (P := P) (w := w) (base := base) T
  have G__law_rows := ok__law_rows (P := P) (w := w) (base := base) T
  have G__law_take := ok__law_take (P := P) (w := w) (base := base) T
  have G__law_changed := ok__law_changed (P := P) (w := w) (base := base) T
  have G__law_program := ok__law_program (P := P) (w := w) (base := base) T
  have G_Program___eq__ := ok_Program___eq__ (P := P) (w := w) (base := base) T
  have G__law_copy := ok__law_copy (P := P) (w := w) (base := base) T
  have G_Program___getitem__ := ok_Program___getitem__ (P := P) (w := w) (base := base) T
  have G_Place___eq__ := ok_Place___eq__ (P := P) (w := w) (base := base) T
  refine FunD.ok T.F_law sc_law (fun vs H Q E h => S.splen1 h) (fun cdv A outer s H vs Q E hr h => ?_)
  have hu := hu_of hr
  refine ⟨_, (pss_cons (ps_set (i := 1) sc_law.nd rfl (by first | exact Or.inl rfl | exact Or.inr rfl) (pe_lst (pa_cons (S.pe_fnS G__law_cell (hr.mono (by decide)) rfl T.g__law_cell T.F__law_cell.kp (kb__law_cell_2 T) S.pas0 (pa_cons (pv 0) (pa_cons pe_int pa_nil)) pk_nil rfl rfl) pa_nil)))
      (pss_cons (ps_set (i := 2) sc_law.nd rfl (by first | exact Or.inl rfl | exact Or.inr rfl) (S.pe_fnS G__law_rows (hr.mono (by decide)) rfl T.g__law_rows T.F__law_rows.kp (kb__law_rows_4 T) S.pas0 (pa_cons (pv 1) (pa_cons (pe_lst (pa_cons (S.pe_fnS G__law_cell (hr.mono (by decide)) rfl T.g__law_cell T.F__law_cell.kp (kb__law_cell_2 T) S.pas0 (pa_cons (pv 0) (pa_cons pe_int pa_nil)) pk_nil rfl rfl) pa_nil)) (pa_cons pe_int (pa_cons pe_int pa_nil)))) pk_nil rfl rfl))
      (pss_cons (ps_set (i := 3) sc_law.nd rfl (by first | exact Or.inl rfl | exact Or.inr rfl) (pe_lst (pa_cons (S.pe_fnS G__law_cell (hr.mono (by decide)) rfl T.g__law_cell T.F__law_cell.kp (kb__law_cell_2 T) S.pas0 (pa_cons (pv 0) (pa_cons pe_int pa_nil)) pk_nil rfl rfl) pa_nil)))
      (pss_cons (ps_set (i := 4) sc_law.nd rfl (by first | exact Or.inl rfl | exact Or.inr rfl) (S.pe_fnS G__law_take (hr.mono (by decide)) rfl T.g__law_take T.F__law_take.kp (kb__law_take_2 T) S.pas0 (pa_cons (pv 3) (pa_cons (pe_callB (S.lenK (K := K) rfl) rfl T.n_len S.boot_len (pa_cons (pv 2) pa_nil)) pa_nil)) pk_nil rfl rfl))
      (pss_cons (ps_set (i := 5) sc_law.nd rfl (by first | exact Or.inl rfl | exact Or.inr rfl) (S.pe_fnS G__law_take (hr.mono (by decide)) rfl T.g__law_take T.F__law_take.kp (kb__law_take_2 T) S.pas0 (pa_cons (pv 3) (pa_cons (pe_callB (S.lenK (K := K) rfl) rfl T.n_len S.boot_len (pa_cons (pv 2) pa_nil)) pa_nil)) pk_nil rfl rfl))
      (pss_cons (ps_set (i := 6) sc_law.nd rfl (by first | exact Or.inl rfl | exact Or.inr rfl) (pv 5))
      (S.pss_cut (ps_if (pt_cmpR op_eq (S.pe_fnS G__law_take (hr.mono (by decide)) rfl T.g__law_take T.F__law_take.kp (kb__law_take_2 T) S.pas0 (pa_cons (pv 3) (pa_cons pe_int pa_nil)) pk_nil rfl rfl) pe_int (nomark _)) (pss_one (ps_set (i := 6) sc_law.nd rfl (by first | exact Or.inl rfl | exact Or.inr rfl) (S.pe_fnS G__law_take (hr.mono (by decide)) rfl T.g__law_take T.F__law_take.kp (kb__law_take_2 T) S.pas0 (pa_cons (pv 3) (pa_cons (pe_callB (S.lenK (K := K) rfl) rfl T.n_len S.boot_len (pa_cons (pv 2) pa_nil)) pa_nil)) pk_nil rfl rfl))) pss_nil)
      (pss_cons (ps_set (i := 7) sc_law.nd rfl (by first | exact Or.inl rfl | exact Or.inr rfl) (S.pe_fnS G__law_changed (hr.mono (by decide)) rfl T.g__law_changed T.F__law_changed.kp (kb__law_changed_3 T) S.pas0 (pa_cons (pv 3) (pa_cons (pv 2) (pa_cons (pv 4) pa_nil))) pk_nil rfl rfl))
      (pss_cons (ps_set (i := 8) sc_law.nd rfl (by first | exact Or.inl rfl | exact Or.inr rfl) (S.pe_fnS G__law_program (hr.mono (by decide)) rfl T.g__law_program T.F__law_program.kp (kb__law_program_2 T) S.pas0 (pa_cons (pv 2) (pa_cons (pe_ix (S.ixK (K := K) rfl) (pe_ix (S.ixK (K := K) rfl) (pv 2) (pv 5) (fun _ _ => rfl)) pe_int (fun _ _ => rfl)) pa_nil)) pk_nil rfl rfl))
      (pss_cons (ps_set (i := 9) sc_law.nd rfl (by first | exact Or.inl rfl | exact Or.inr rfl) (S.pe_fnS G__law_program (hr.mono (by decide)) rfl T.g__law_program T.F__law_program.kp (kb__law_program_2 T) S.pas0 (pa_cons (pv 7) (pa_cons (pe_ix (S.ixK (K := K) rfl) (pe_ix (S.ixK (K := K) rfl) (pv 7) (pv 6) (fun _ _ => rfl)) pe_int (fun _ _ => rfl)) pa_nil)) pk_nil rfl rfl))
      (S.pss_cut (ps_set (i := 10) sc_law.nd rfl (by first | exact Or.inl rfl | exact Or.inr rfl) (pe_and (pe_cmpR (S.eqGK (K := K) rfl (S.hu64 hr)) (pv 2) (pv 7) (nomark _)) (pe_one (pe_cmpR op_eq (pe_ix (S.ixK (K := K) rfl) (pe_ix (S.ixK (K := K) rfl) (pv 2) (pv 5) (fun _ _ => rfl)) pe_int (fun _ _ => rfl)) (pe_ix (S.ixK (K := K) rfl) (pe_ix (S.ixK (K := K) rfl) (pv 7) (pv 6) (fun _ _ => rfl)) pe_int (fun _ _ => rfl)) (nomark _)))))
      (pss_cons (ps_if (PW.pt (pw_or (pt_cmpR op_ne (pe_cmpR (S.op_ownI (C := He.ga K "Program") S.hop_eq T.me_Program___eq__.1 T.me_Program___eq__.2 (S.raw_of G_Program___eq__ (kb_Program___eq___2 T)) (hr.mono (by decide))) (pv 8) (pv 9) (nomark _)) (pv 10) (nomark _)) (pw_or (pt_cmpR op_ne (pe_cmpR (S.op_ownI (C := He.ga K "Program") S.hop_eq T.me_Program___eq__.1 T.me_Program___eq__.2 (S.raw_of G_Program___eq__ (kb_Program___eq___2 T)) (hr.mono (by decide))) (pv 9) (pv 8) (nomark _)) (pv 10) (nomark _)) (pw_or1 (pt_cmpR op_eq (pe_cmpR (S.op_neI (C := He.ga K "Program") T.ne_Program T.is_Program.hm T.me_Program___eq__.1 T.me_Program___eq__.2 (S.raw_of G_Program___eq__ (kb_Program___eq___2 T)) (hr.mono (by decide))) (pv 8) (pv 9) (nomark _)) (pv 10) (nomark _)))))) (pss_one (ps_ret pe_bl)) pss_nil)
      (pss_cons (ps_if (pt_not (pt_cmpR (S.op_ownI (C := He.ga K "Program") S.hop_eq T.me_Program___eq__.1 T.me_Program___eq__.2 (S.raw_of G_Program___eq__ (kb_Program___eq___2 T)) (hr.mono (by decide))) (pv 8) (S.pe_fnS G__law_program (hr.mono (by decide)) rfl T.g__law_program T.F__law_program.kp (kb__law_program_2 T) S.pas0 (pa_cons (S.pe_fnS G__law_copy (hr.mono (by decide)) rfl T.g__law_copy T.F__law_copy.kp (kb__law_copy_1 T) S.pas0 (pa_cons (pv 2) pa_nil) pk_nil rfl rfl) (pa_cons (pe_ix (S.ixK (K := K) rfl) (pe_ix (S.ixK (K := K) rfl) (pv 2) (pv 5) (fun _ _ => rfl)) pe_int (fun _ _ => rfl)) pa_nil)) pk_nil rfl rfl) (nomark _))) (pss_one (ps_ret pe_bl)) pss_nil)
      (pss_cons (ps_for (S.own_of rfl) rfl (pi_range1 rfl T.n_range (pa_cons (pe_callB (S.lenK (K := K) rfl) rfl T.n_len S.boot_len (pa_cons (pv 2) pa_nil)) pa_nil)) (pg_name (i := 11) sc_law.nd rfl (by first | exact Or.inl rfl | exact Or.inr rfl))
        (pss_cons (ps_set (i := 12) sc_law.nd rfl (by first | exact Or.inl rfl | exact Or.inr rfl) (S.pe_ixO (C := He.ga K "Program") T.me_Program___getitem__.1 T.fn_Program___getitem__ T.me_Program___getitem__.2 (S.raw_of G_Program___getitem__ (kb_Program___getitem___2 T)) (hr.mono (by decide)) (S.pasE (takes_of rfl rfl rfl rfl)) (pv 8) (pe_ix (S.ixK (K := K) rfl) (pe_ix (S.ixK (K := K) rfl) (pv 2) (pv 11) (fun _ _ => rfl)) pe_int (fun _ _ => rfl))))
      (pss_cons (ps_set (i := 13) sc_law.nd rfl (by first | exact Or.inl rfl | exact Or.inr rfl) (S.pe_ixO (C := He.ga K "Program") T.me_Program___getitem__.1 T.fn_Program___getitem__ T.me_Program___getitem__.2 (S.raw_of G_Program___getitem__ (kb_Program___getitem___2 T)) (hr.mono (by decide)) (S.pasE (takes_of rfl rfl rfl rfl)) (pv 9) (pe_ix (S.ixK (K := K) rfl) (pe_ix (S.ixK (K := K) rfl) (pv 7) (pv 11) (fun _ _ => rfl)) pe_int (fun _ _ => rfl))))
      (pss_one (ps_if (PW.pt (pw_or (pt_cmpR op_ne (pe_cmpR (S.op_ownI (C := He.ga K "Place") S.hop_eq T.me_Place___eq__.1 T.me_Place___eq__.2 (S.raw_of G_Place___eq__ (kb_Place___eq___2 T)) (hr.mono (by decide))) (pv 12) (pv 13) (nomark _)) (pe_cmpR (S.eqGK (K := K) rfl (S.hu64 hr)) (pe_slice (S.slLK (K := K) rfl) (pe_ix (S.ixK (K := K) rfl) (pv 2) (pv 11) (fun _ _ => rfl)) po_none (po_some pe_int)) (pe_slice (S.slLK (K := K) rfl) (pe_ix (S.ixK (K := K) rfl) (pv 7) (pv 11) (fun _ _ => rfl)) po_none (po_some pe_int)) (nomark _)) (nomark _)) (pw_or1 (pt_cmpR op_eq (pe_cmpR (S.op_neI (C := He.ga K "Place") T.ne_Place T.is_Place.hm T.me_Place___eq__.1 T.me_Place___eq__.2 (S.raw_of G_Place___eq__ (kb_Place___eq___2 T)) (hr.mono (by decide))) (pv 12) (pv 13) (nomark _)) (pe_cmpR (S.op_ownI (C := He.ga K "Place") S.hop_eq T.me_Place___eq__.1 T.me_Place___eq__.2 (S.raw_of G_Place___eq__ (kb_Place___eq___2 T)) (hr.mono (by decide))) (pv 12) (pv 13) (nomark _)) (nomark _))))) (pss_one (ps_ret pe_bl)) pss_nil)))))
      (pss_one (ps_ret pe_bl)))))))))))))))), ?_⟩
  obtain ⟨_, rfl, a, ns, rfl, hS, hl, q⟩ := h
  refine ⟨_, rfl, rfl, rfl, _, _, rfl, a, ns, 0, rfl, rfl, by decide, hS, fun n0 _ => ⟨by show 1 ≤ sizeLine; decide, fun dr hdr => ?_⟩⟩
  have s1 := Same.new (o := .lst [.int n0]) hdr
  refine ⟨_, rfl, _, rfl, rfl, rfl, _, _, rfl, a, ns, 1, rfl, rfl, by decide, sqL_same hS s1, fun n1 _ => ⟨by show 1 ≤ sizeLine; decide, fun wd hwd => ⟨rfl, rfl, _, _, _, _, rfl, dr, wd, n0, n1, 6, 6, rfl, rfl, Same.new hwd _ _ upd_same, upd_same, rfl, by decide, by decide, rfl, by decide, by decide, fun R rows J1 d1 fR fr h1 od => ?_⟩⟩⟩
  have ok := od.ok
  have l1 := ok.l1
  have l6 := ok.l6
  have lm : (rows.map fun r => V.ref r.a).length = rows.length := List.length_map _
  obtain ⟨ns', hS1⟩ := sq_dw (sqL_same (sqL_same hS s1) (Same.new (o := .lst [.int n1]) hwd)) d1
  refine ⟨_, rfl, rfl, rfl, _, _, rfl, a, ns', 2, rfl, rfl, by decide, hS1, fun n2 _ => ⟨by show 1 ≤ sizeLine; decide, fun sp hsp => ?_⟩⟩
  have h2 := h1.same (Same.new (o := .lst [.int n2]) hsp)
  refine ⟨_, rfl, _, rfl, _, _, rfl, lenVX (.inl (.inl (.inl h2.at_))), rfl, rfl, _, _, rfl, sp, n2, _, rfl, upd_same, rfl, by omega, by omega, fun t n3 t0 t1 => ?_⟩
  rw [lm] at t1
  obtain ⟨ia, rfl, hia⟩ := nat_of t0 t1
  have h3 := h2.dw (Dw.take (m := n3) upd_same)
  refine ⟨_, rfl, _, rfl, _, _, rfl, lenVX (.inl (.inl (.inl h3.at_))), rfl, rfl, _, _, rfl, sp, n3, _, rfl, upd_same, rfl, by omega, by omega, fun t n4 t0 t1 => ?_⟩
  rw [lm] at t1
  obtain ⟨ib, rfl, hib⟩ := nat_of t0 t1
  have h4 := h3.dw (Dw.take (m := n4) upd_same)
  refine ⟨_, rfl, ?_⟩
  refine ⟨fun τ J => ∃ io : Nat, io < rows.length ∧ (∃ m : Int, J sp = some (.lst [.int m])) ∧ RowsAt J R rows ∧ τ = [some (.ref a), some (.ref dr), some (.ref R), some (.ref sp), some (.int (ia : Int)), some (.int (ib : Int)), some (.int (io : Int)), none, none, none, none, none, none, none], ?_, ?_⟩
  · refine ⟨_, rfl, rfl, rfl, _, _, rfl, sp, n4, 5, rfl, upd_same, rfl, by decide, by decide, fun t n5 t0 t1 => ⟨rfl, _, rfl, ?_⟩⟩
    have h5 := h4.dw (Dw.take (m := n5) upd_same)
    by_cases c : t = 0
    · refine iteY (by simp [c]) ⟨_, rfl, _, rfl, _, _, rfl, lenVX (.inl (.inl (.inl h5.at_))), rfl, rfl, _, _, rfl, sp, n5, _, rfl, upd_same, rfl, by omega, by omega, fun t n6 t0 t1 => ?_⟩
      rw [lm] at t1
      obtain ⟨io, rfl, hio⟩ := nat_of t0 t1
      exact ⟨io, hio, ⟨_, upd_same⟩, h5.dw (Dw.take (m := n6) upd_same), rfl⟩
    · exact iteN (by simp [c]) ⟨ib, hib, ⟨_, upd_same⟩, h5, rfl⟩
  rintro τ J ⟨io, hio, ⟨m, esp⟩, hR, rfl⟩
  refine ⟨_, rfl, _, rfl, _, rfl, rfl, rfl, _, _, _, rfl, sp, R, m, rows, ia, rfl, esp, rfl, rfl, hR, ok, hia, fun R2 rows2 J2 d2 o2 l2 => ?_⟩
  have hR2 := hR.dw d2
  have eb := List.getElem?_eq_getElem hib
  have eo := List.getElem?_eq_getElem (show io < rows2.length by omega)
  refine ⟨_, rfl, _, rfl, _, rfl, ixX (.inl (.inl (.inl hR2.at_))) (atI_nat (by rw [List.getElem?_map, eb]; rfl)) (ix3 (hR2.row _ (List.mem_of_getElem? eb)).1 rfl ⟨rfl, rfl, _, _, rfl, R, rows, _, rfl, rfl, hR2, ok, nm_mem eb, fun p1 pr1 J3 np1 s3 pg1 v1 ok1 => ?_⟩)⟩
  have o3 := o2.dw (.of s3)
  refine ⟨_, rfl, _, rfl, _, rfl, ixX (.inl (.inl (.inl o3.at_.at_))) (atI_nat (by rw [List.getElem?_map, eo]; rfl)) (ix3 (o3.at_.row _ (List.mem_of_getElem? eo)).1 rfl ⟨rfl, rfl, _, _, rfl, R2, rows2, _, rfl, rfl, o3.at_, o2.ok, nm_mem eo, fun p2 pr2 J4 np2 s4 pg2 v2 ok2 => ?_⟩)⟩
  have hR4 := hR2.same (s3.trans s4)
  have o4 := o3.dw (.of s4)
  have pg1' := pg1.same s4
  refine ⟨fun τ J => Same J4 J ∧ τ = [some (.ref a), some (.ref dr), some (.ref R), some (.ref sp), some (.int (ia : Int)), some (.int (ib : Int)), some (.int (io : Int)), some (.ref R2), some (.ref p1), some (.ref p2), some (.bl (decide (vw rows = vw rows2 ∧ (rows[ib]).d.n = (rows2[io]'(by omega)).d.n))), none, none, none], ?_, ?_⟩
  · refine ⟨_, rfl, _, rfl, 3, _, by decide, (eg_rows hR4 o4.at_ fun e => ?_).eq, _, rfl, ?_⟩
    · exfalso
      have e1 := o4.at_.at_
      rw [← e] at e1
      have e2 := hR4.at_.symm.trans e1
      injection e2 with e2
      injection e2 with e2
      have m0 : V.ref (rows[ib]).a ∈ rows2.map fun r => V.ref r.a := by
        rw [← e2]
        exact List.mem_map.mpr ⟨_, List.mem_of_getElem? eb, rfl⟩
      obtain ⟨r2, hr2, e3⟩ := List.mem_map.mp m0
      have f := o2.fr r2 hr2
      have e4 : r2.a = (rows[ib]).a := by injection e3
      rw [e4, (hR.row _ (List.mem_of_getElem? eb)).1] at f
      cases f
    · by_cases c1 : vw rows = vw rows2
      · have e9 : decide (V.str (rows[ib]).d.n = V.str (rows2[io]'(by omega)).d.n) = decide (vw rows = vw rows2 ∧ (rows[ib]).d.n = (rows2[io]'(by omega)).d.n) := by simp [c1]
        refine iteY (decide_eq_true c1) ⟨_, rfl, _, rfl, ixX (.inl (.inl (.inl hR4.at_))) (atI_nat (by rw [List.getElem?_map, eb]; rfl)) (ix3 (hR4.row _ (List.mem_of_getElem? eb)).1 rfl ⟨_, rfl, _, rfl, ixX (.inl (.inl (.inl o4.at_.at_))) (atI_nat (by rw [List.getElem?_map, eo]; rfl)) (ix3 (o4.at_.row _ (List.mem_of_getElem? eo)).1 rfl ⟨rfl, fun _ _ z => z, ?_⟩)⟩)⟩
        rw [← e9]
        rfl
      · refine iteN (by simpa using c1) ⟨fun _ _ z => z, ?_⟩
        rw [decide_eq_false fun z => c1 z.1]
        rfl
  rintro τ J ⟨sJ, rfl⟩
  have q1 := pg1'.same sJ
  have q2 := pg2.same sJ
  obtain ⟨x1, x2, x3, x4, F1⟩ := id q1
  obtain ⟨y1, y2, y3, y4, F2⟩ := id q2
  have e12 : decide (vw pr1 = vw pr2 ∧ (rows[ib]).d.n = (rows2[io]'(by omega)).d.n) = decide (vw rows = vw rows2 ∧ (rows[ib]).d.n = (rows2[io]'(by omega)).d.n) := by rw [v1, v2]
  have e21 : decide (vw pr2 = vw pr1 ∧ (rows2[io]'(by omega)).d.n = (rows[ib]).d.n) = decide (vw rows = vw rows2 ∧ (rows[ib]).d.n = (rows2[io]'(by omega)).d.n) := by
    rw [v1, v2]
    exact decide_eq_decide.mpr ⟨fun z => ⟨z.1.symm, z.2.symm⟩, fun z => ⟨z.1.symm, z.2.symm⟩⟩
  refine ⟨_, rfl, _, rfl, p1, _, _, p2, _, _, _, rfl, rfl, F1.at_, F2.at_, notFirst_self, _, _, rfl, p1, p2, pr1, pr2, _, _, rfl, rfl, q1, q2, ok1, ok2, fun J5 s5 => ⟨_, rfl, rfl, _, rfl, iteN (by rw [e12]; simp) ?_⟩⟩
  refine ⟨_, rfl, _, rfl, p2, _, _, p1, _, _, _, rfl, rfl, s5 _ _ F2.at_, s5 _ _ F1.at_, notFirst_self, _, _, rfl, p2, p1, pr2, pr1, _, _, rfl, rfl, q2.same s5, q1.same s5, ok2, ok1, fun J6 s6 => ⟨_, rfl, rfl, _, rfl, iteN (by rw [e21]; simp) ?_⟩⟩
  have s56 := s5.trans s6
  refine ⟨_, rfl, _, rfl, p1, _, _, p2, _, _, _, rfl, rfl, s56 _ _ F1.at_, s56 _ _ F2.at_, notFirst_self, _, _, rfl, p1, p2, pr1, pr2, _, _, rfl, rfl, q1.same s56, q2.same s56, ok1, ok2, fun J7 s7 => ⟨_, rfl, _, rfl, rfl, _, rfl, iteN (by rw [e12]; cases decide (vw rows = vw rows2 ∧ (rows[ib]).d.n = (rows2[io]'(by omega)).d.n) <;> decide) ?_⟩⟩
  have s47 := (sJ.trans s56).trans s7
  have hR7 := hR4.same s47
  -- the same parts once more
  refine ⟨_, rfl, _, rfl, rfl, rfl, _, rfl, R, rows, rfl, hR7, ok, fun R3 rows3 J8 s8 o8 v8 => ?_⟩
  have hR8 := hR7.same s8
  have nm3 : rNames rows3 = rNames rows := by rw [vw_rNames, vw_rNames, v8]
  have s48 := s47.trans s8
  refine ⟨_, rfl, _, rfl, ixX (.inl (.inl (.inl hR8.at_))) (atI_nat (by rw [List.getElem?_map, eb]; rfl)) (ix3 (hR8.row _ (List.mem_of_getElem? eb)).1 rfl ⟨rfl, rfl, _, _, rfl, R3, rows3, _, rfl, rfl, o8.at_, o8.ok, by rw [nm3]; exact nm_mem eb, fun p3 pr3 J9 np3 s9 pg3 v3 ok3 => ?_⟩)⟩
  have s49 := s48.trans s9
  have w1 := pg1'.same s49
  obtain ⟨z1, z2, z3, z4, F3⟩ := id pg3
  obtain ⟨x1', x2', x3', x4', F1'⟩ := id w1
  refine ⟨p1, _, _, p3, _, _, _, rfl, rfl, F1'.at_, F3.at_, notFirst_self, _, _, rfl, p1, p3, pr1, pr3, _, _, rfl, rfl, w1, pg3, ok1, ok3, fun J10 s10 => ⟨_, rfl, iteN (by simp [v1, v3, v8]) ?_⟩⟩
  have sA := s49.trans s10
  have hRA := hR4.same sA
  refine ⟨_, rfl, _, _, rfl, lenVX (.inl (.inl (.inl hRA.at_))), _, rfl, by omega, by rw [lm]; omega, ?_⟩
  refine for_range (n := (rows.map fun r => V.ref r.a).length) (fun k σ J => Same J4 J ∧ ∃ vk vl vr, σ = [some (.ref a), some (.ref dr), some (.ref R), some (.ref sp), some (.int (ia : Int)), some (.int (ib : Int)), some (.int (io : Int)), some (.ref R2), some (.ref p1), some (.ref p2), some (.bl (decide (vw rows = vw rows2 ∧ (rows[ib]).d.n = (rows2[io]'(by omega)).d.n))), vk, vl, vr]) ⟨sA, _, _, _, rfl⟩ ?_ ?_
  · rintro k σ J hk ⟨sJ, vk, vl, vr, rfl⟩
    rw [lm] at hk
    have e0 : ((0 : Int) + (k : Int)) = (k : Int) := by omega
    rw [e0]
    have ek := List.getElem?_eq_getElem hk
    have ek2 := List.getElem?_eq_getElem (show k < rows2.length by omega)
    obtain ⟨r1, er1, ed1⟩ := vw_at v1 ek
    obtain ⟨r2, er2, ed2⟩ := vw_at v2 ek2
    have hRk := hR4.same sJ
    have ok4 := o4.at_.same sJ
    have u1 := pg1'.same sJ
    have u2 := pg2.same sJ
    obtain ⟨a1, a2, a3, a4, U1⟩ := id u1
    obtain ⟨b1, b2, b3, b4, U2⟩ := id u2
    refine ⟨_, rfl, _, rfl, _, rfl, ixX (.inl (.inl (.inl hRk.at_))) (atI_nat (by rw [List.getElem?_map, ek]; rfl)) (ix3 (hRk.row _ (List.mem_of_getElem? ek)).1 rfl ⟨p1, _, _, rfl, U1.at_, _, _, rfl, p1, pr1, _, r1, rfl, u1, by rw [ed1], List.mem_of_getElem? er1, ok1.nd, ?_⟩)⟩
    refine ⟨_, rfl, _, rfl, _, rfl, ixX (.inl (.inl (.inl ok4.at_))) (atI_nat (by rw [List.getElem?_map, ek2]; rfl)) (ix3 (ok4.row _ (List.mem_of_getElem? ek2)).1 rfl ⟨p2, _, _, rfl, U2.at_, _, _, rfl, p2, pr2, _, r2, rfl, u2, by rw [ed2], List.mem_of_getElem? er2, ok2.nd, ?_⟩)⟩
    have g1 := (U1.rw_ r1 (List.mem_of_getElem? er1)).1
    have g2 := (U2.rw_ r2 (List.mem_of_getElem? er2)).1
    obtain ⟨c1, G1⟩ := id g1
    obtain ⟨c2, G2⟩ := id g2
    have sc1 := sca_pl (ok1.pl r1 (List.mem_of_getElem? er1)).1
    have sc2 := sca_pl (ok2.pl r2 (List.mem_of_getElem? er2)).1
    refine ⟨_, rfl, _, rfl, r1.a, _, _, r2.a, _, _, _, rfl, rfl, G1, G2, notFirst_self, _, _, rfl, r1.a, _, _, _, _, r2.a, _, _, _, _, rfl, rfl, g1, g2, sc1, sc2, fun K1 t1 => ?_⟩
    have hK1 := hRk.same t1
    refine ⟨_, rfl, _, rfl, ixX (.inl (.inl (.inl hK1.at_))) (atI_nat (by rw [List.getElem?_map, ek]; rfl)) ⟨_, rfl, (rows[k]).a, _, rfl, .inl (.inl (hK1.row _ (List.mem_of_getElem? ek)).1), fun f1 hf1 => ?_⟩⟩
    have t2 := Same.new (o := .lst (cutV (rowL rows[k]) none (some 4))) hf1
    have oK2 := (ok4.same t1).same t2
    refine ⟨_, rfl, _, rfl, ixX (.inl (.inl (.inl oK2.at_))) (atI_nat (by rw [List.getElem?_map, ek2]; rfl)) ⟨_, rfl, _, _, rfl, .inl (.inl (oK2.row _ (List.mem_of_getElem? ek2)).1), fun f2 hf2 => ?_⟩⟩
    have t3 := Same.new (o := .lst (cutV (rowL (rows2[k]'(by omega))) none (some 4))) hf2
    have q4 := eg_four (K := K) (t3 _ _ upd_same) upd_same
    refine ⟨5, _, by decide, q4.eq, rfl, _, rfl, ?_⟩
    rw [key_eqv, ed1, ed2]
    refine iteN (by simp) ?_
    have t13 := (t1.trans t2).trans t3
    refine ⟨_, rfl, _, rfl, r1.a, _, _, r2.a, _, _, _, rfl, rfl, t13 _ _ G1, t13 _ _ G2, notFirst_self, _, _, rfl, r1.a, _, _, _, _, r2.a, _, _, _, _, rfl, rfl, g1.same t13, g2.same t13, sc1, sc2, fun K4 t4 => ⟨_, rfl, ?_⟩⟩
    have t14 := t13.trans t4
    refine ⟨_, rfl, _, rfl, r1.a, _, _, r2.a, _, _, _, rfl, rfl, t14 _ _ G1, t14 _ _ G2, notFirst_self, _, _, rfl, r1.a, _, _, _, _, r2.a, _, _, _, _, rfl, rfl, g1.same t14, g2.same t14, sc1, sc2, fun K5 t5 => ⟨rfl, _, rfl, ?_⟩⟩
    rw [key_eqv]
    refine iteN (by cases decide (r1.d = r2.d) <;> decide) ⟨(sJ.trans t14).trans t5, _, _, _, rfl⟩
  · rintro σ J ⟨sJ, vk, vl, vr, rfl⟩
    exact q J
end
end W

namespace W
open PySem PySem.Spec PyProof.Rows L2
abbrev R : PySem.W.OpenRow := PySem.W.OpenLaw.row PySem.Challenge.rw_seenshares_k09_program_equality
abbrev hk : PySem.W.Hook := S.hookX 6 cks fns
def ob (s : PySem.W.SharedT) : He.AlD := S.obsXG 6 cks fns (HandSHeadRun.getT s)
theorem ob_eq (s : PySem.W.SharedT) : ob s = hk.obs s.abs := S.obsXG_eq (HandSHeadRun.getT_eq s)
def lo0 : List PySem.Str := ["_wall", "LETTERS", "KEPT_WORDS", "is_integer", "is_within", "is_name", "has_equal_items", "SeenError", "BadPlace", "BadProgram", "NoPlace", "MOST_TICKS", "MOST_PLACES", "Place", "places_fit", "nexts_fit", "Program", "_law_cell", "_law_take", "_law_name", "_law_rows", "_law_row", "_law_nexts", "_law_program", "_law_copy", "_law_renamed", "_law_changed"]
def lo : List PySem.Str := lo0
set_option maxHeartbeats 0 in
theorem run (w : World) : HandSHeadRun.RunEq R (PySem.W.view R.prog [31]) hk ob 3000 lo w := by
  intro os
  kernel_rfl
theorem facts {P : Program} {w : World} {K : S.Frag} {h : Heap} {mg : Str → Option Value} {f : Addr} (X : K.In h) (G : h.Ns mainGlobals mg) (hfa : mg ("law" : Str) = some (.ref f)) (c : S.SaysX cks fns K) :
    ∃ fd : FuncData, (∀ (s : Shared) (v : Value), BindsTo s fd ⟨[v], []⟩ [("_law_script", v)]) ∧ ∀ base : Heap, FnOk P w K mg base (L2.CX P w) 6 f fd ["_law_script"] (spLaw K) := by
  have T : Txt K mg := txt_of X G c
  have e := hfa.symm.trans T.g_law
  cases e
  have b := FunD.bindsA (ps := ["_law_script"]) T.F_law fun _ _ _ _ _ _ us hl => match us, hl with | [_], _ => rfl
  exact ⟨_, fun s v => b s [v] rfl, fun base => ok_law T⟩
end W
open PySem PySem.W PySem.Calls PyProof.Rows
set_option maxRecDepth 100000 in
set_option maxHeartbeats 0 in
theorem PySem.Challenge.cw_seenshares_k09_program_equality_holds : PySem.Challenge.rw_seenshares_k09_program_equality.Holds := by
  w_on; o_law
  refine HandSHeadRun.head_any (r := OpenLaw.row PySem.Challenge.rw_seenshares_k09_program_equality) (q := view (OpenLaw.row PySem.Challenge.rw_seenshares_k09_program_equality).prog [31]) (H := _root_.W.hk) (ob := _root_.W.ob) (M := 3000)
    (loose := _root_.W.lo) (d := HandSHeadRun.topDef (OpenLaw.row PySem.Challenge.rw_seenshares_k09_program_equality).prog 31) (kwd := []) _root_.W.ob_eq (by kernel_rfl) (fun s => by kernel_rfl) _root_.W.run
    (by kernel_rfl) (by kernel_rfl) (by kernel_rfl) (by rfl) (by first | assumption | decide +kernel) (by decide +kernel) ⟨rfl, rfl, rfl, rfl, rfl, by decide +kernel⟩ ?hw ?hc
  case hw => w_witness2
  case hc =>
    refine _root_.S.walk_X (l := PySem.Challenge.rw_seenshares_k09_program_equality) (n := 63) (k := 6) (x := "_law_script") rfl (by decide) (by kernel_rfl) ⟨rfl, by decide, by decide⟩ ?F
    intro w mg fa h Y G hmg0
    obtain ⟨K, KX, c⟩ := Y
    have hmg : mg ("law" : PySem.Str) = some (.ref fa) := by
      have e : (HandSHeadRun.topDef (OpenLaw.row PySem.Challenge.rw_seenshares_k09_program_equality).prog 31).name = ("law" : PySem.Str) := by kernel_rfl
      rw [← e]; exact hmg0
    obtain ⟨fd, hb, hF⟩ := _root_.W.facts (P := (PySem.Challenge.rw_seenshares_k09_program_equality).prog) (w := w) KX G hmg c
    exact ⟨K, fd, _root_.W.spLaw K, KX, hb, fun H a ns hl hbits _ hS => ⟨_, rfl, a, ns, rfl, hS, hl, fun _ => rfl⟩, fun base _ _ => hF base⟩

