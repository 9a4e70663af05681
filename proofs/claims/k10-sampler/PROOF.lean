import PyProof.Rows.All
import Wide.All
import OpenK.AllK
import Wide.FinOn
import KE.KStateDown
import Lean
import HandS.Base
import HandS.Call
import HandS.List
import HandS.Comp
import HandS.Ends
import HandS.Dict
import HandS.Iter
import HandS.Text
import HandS.More
import HandS.Exc
import HandS.Words
import HandS.WordsList
import HandS.WordsDict
import HandS.WordsExc
import HandS.Defaults
import HandS.MakeKw
import HandS.IsInst
import HandS.Wide
import HandS.ExcInit
import HandS.ExcField
import HandS.ExcIs
import HandS.SlotsOwn
import HandS.NamedTupSort
import HandS.EndBits
import HandS.Head0
import HandS.Head1
import HandS.Head2
import HandS.HeadEnd
import HandS.HeadHook1
import HandS.HeadHook2
import PySem.Challenge.RW_seenshares_k10_sampler
set_option Elab.async false
set_option linter.all false
set_option maxRecDepth 100000
set_option maxHeartbeats 4000000
namespace S
open PySem PySem.Spec PyProof.Rows L2
/-! the head's facts as plain Bools over the written part -/
abbrev Frag := PySem.W.Frag
abbrev Ck := Frag → Bool
def obsX (ck : List Ck) (fn : List He.DefD) (K : Frag) : He.AlD :=
  (ck.all (fun c => c K) && fn.all (fun d => d.ok K), fn.map (fun d => He.fnW K d.at_))
def obsXG (n : Nat) (ck : List Ck) (fn : List He.DefD) (g : Addr → Option Obj) : He.AlD :=
  obsX ck fn (He.frG g (He.asD g n))
def SaysX (ck : List Ck) (fn : List He.DefD) (K : Frag) : Prop := obsX ck fn K = He.valD fn
def hookX (n : Nat) (ck : List Ck) (fn : List He.DefD) : PySem.W.Hook where
  α := He.AlD
  obs := fun s => obsXG n ck fn s.heap.get?
  val := fun _ => He.valD fn
  says := fun _ h => ∃ K : Frag, K.In h ∧ SaysX ck fn K
  of := fun _ _ e => ⟨_, He.frG_in, e⟩
  keeps := fun _ _ _ ⟨K, hK, c⟩ k => ⟨K, PySem.W.Frag.In.keeps hK k, c⟩
theorem obsXG_eq {n : Nat} {ck : List Ck} {fn : List He.DefD} {g : Addr → Option Obj} {s : Shared}
    (h : ∀ a, g a = s.heap.get? a) : obsXG n ck fn g = (hookX n ck fn).obs s := by
  have e : g = s.heap.get? := funext h
  subst e
  exact rfl
theorem SaysX.bools {ck : List Ck} {fn : List He.DefD} {K : Frag} (c : SaysX ck fn K) :
    (ck.all (fun c => c K) && fn.all (fun d => d.ok K)) = true := congrArg Prod.fst c
theorem SaysX.fact {ck : List Ck} {fn : List He.DefD} {K : Frag} (c : SaysX ck fn K) (i : Nat) {f : Ck}
    (h : ck[i]? = some f := by rfl) : f K = true :=
  List.all_eq_true.mp (He.ba c.bools).1 f (List.mem_of_getElem? h)
/-- the function object that stands there -/
def fdA (K : Frag) (p : Str × Option Str) : FuncData := match K.lookup (He.fAd K p) with
  | some ⟨_, _, .func fd, _⟩ => fd
  | _ => PySem.W.fnOf "" "" ⟨[], [], none, [], [], none, []⟩ [] ⟨.function, [], false, false, []⟩ .none .none .none .none none .none .none
abbrev FunA (K : Frag) (d : He.DefD) : Prop :=
  FunD K d.name d.qual d.params d.body d.scope (d.dvs K) (d.kws K) (He.fAd K d.at_) (fdA K d.at_)
theorem SaysX.def_ {ck : List Ck} {fn : List He.DefD} {K : Frag} (c : SaysX ck fn K) (i : Nat) {d : He.DefD}
    (h : fn[i]? = some d := by rfl) : FunA K d := by
  have e : fn.map (fun d => He.fnW K d.at_) = fn.map He.DefD.val := congrArg Prod.snd c
  have e2 := congrArg (fun l => l[i]?) e
  simp only [List.getElem?_map, h, Option.map_some, Option.some.injEq] at e2
  obtain ⟨fd, F⟩ := He.DefD.funD e2 (List.all_eq_true.mp (He.ba c.bools).2 d (List.mem_of_getElem? h))
  have q : fdA K d.at_ = fd := by
    obtain ⟨oc, od, dV, kV, doc, pm, an, cdv, ct, osl, r, lk, _⟩ := F.ex
    unfold fdA
    rw [lk]
  unfold FunA
  rw [q]
  exact F
/-! own exception classes, over ValueError at any depth -/
def oexO (K : Frag) (C : Addr) : Bool := (match K.lookup C with
  | some ⟨.type "type", _, .cls cd, sl⟩ => (match cd.mro, sl.toList with
    | .ref C' :: bm, [_, _, _, _, some (.builtin n), _] =>
      C' == C && (n == "ValueError.__new__" && (!cd.hasDel && (cd.hasDict && PySem.HandSPX.refsVE bm)))
    | _, _ => false)
  | _ => false)
theorem oexO_ok {K : Frag} {C : Addr} (q : oexO K C = true) :
    ∃ nm qn N bs bm sn sub ab col dd k0 k1 k2 k3 k5, K.lookup C = some (excClassObj nm qn C N bs bm true sn sub ab col dd k0 k1 k2 k3 k5 "ValueError.__new__") ∧ PySem.HandSPX.refsVE bm = true := by
  unfold oexO at q
  split at q
  · rename_i dd cd sl ho
    split at q
    · rename_i c1 bm k0 k1 k2 k3 n k5 hm hs
      simp only [Bool.and_eq_true, beq_iff_eq, Bool.not_eq_true'] at q
      obtain ⟨e1, e2, e3, e4, e5⟩ := q
      subst e1 e2
      obtain ⟨nm, bs, mro, ns, qn, hd, sn, sub, ab, col, dl⟩ := cd
      simp only at hm e3 e4
      subst hm e3 e4
      obtain ⟨l⟩ := sl
      simp only at hs
      subst hs
      exact ⟨nm, qn, ns, bs, bm, sn, sub, ab, col, dd, k0, k1, k2, k3, k5, ho, e5⟩
    · cases q
  · cases q
def oexB (K : Frag) (C : Addr) : Bool := oexO K C && (He.eqO (PySem.W.findIn K (.ref C) "__setattr__") (some (some (.builtin "object.__setattr__"))) &&
  (decide (PySem.W.subIn K (.ref C) (.type "BaseException") = some true) && (decide (PySem.W.typeIn K (.ref C) = some (.type "type")) && PySem.W.keepIn K (.ref C))))
theorem oexB_ok {K : Frag} {C : Addr} (q : oexB K C = true) : OexC K C := by
  obtain ⟨a, q⟩ := He.ba q
  obtain ⟨b, q⟩ := He.ba q
  obtain ⟨c, q⟩ := He.ba q
  obtain ⟨d, e⟩ := He.ba q
  exact ⟨oexO_ok a, He.eqO_ok b, of_decide_eq_true c, of_decide_eq_true d, e⟩
def excB (K : Frag) (D : Addr) : Bool := xfB K D && (He.eqO (PySem.W.findIn K (.ref D) "__class__") (some (some (.builtin "object.__class__"))) &&
  (He.eqO (PySem.W.specialIn K (.builtin "object.__class__") "__get__") (some (some (.builtin "getset_descriptor.__get__"))) &&
  (decide (PySem.W.takesIn K (.builtin "object.__class__") = some true) && decide (PySem.W.mroIn K D (.type "object") = some true))))
theorem excB_ok {K : Frag} {D : Addr} (q : excB K D = true) : ExcC K D := by
  obtain ⟨a, q⟩ := He.ba q
  obtain ⟨b, q⟩ := He.ba q
  obtain ⟨c, q⟩ := He.ba q
  obtain ⟨d, e⟩ := He.ba q
  have x := xfB_ok a
  exact ⟨x.ga, x.gg, x.exC, x.hdC, He.eqO_ok b, He.eqO_ok c, of_decide_eq_true d, of_decide_eq_true e⟩
end S
namespace S
open PySem PySem.Spec PyProof.Rows L2
/-! promises by their number of arguments -/
def Sp1 (f : V → Hp → VK → XK → Prop) : Sp := fun vs H Q E => ∃ x, vs = [x] ∧ f x H Q E
def Sp2 (f : V → V → Hp → VK → XK → Prop) : Sp := fun vs H Q E => ∃ x y, vs = [x, y] ∧ f x y H Q E
def Sp3 (f : V → V → V → Hp → VK → XK → Prop) : Sp := fun vs H Q E => ∃ x y z, vs = [x, y, z] ∧ f x y z H Q E
def Sp4 (f : V → V → V → V → Hp → VK → XK → Prop) : Sp := fun vs H Q E => ∃ x y z u, vs = [x, y, z, u] ∧ f x y z u H Q E
def Sp5 (f : V → V → V → V → V → Hp → VK → XK → Prop) : Sp := fun vs H Q E => ∃ x y z u v, vs = [x, y, z, u, v] ∧ f x y z u v H Q E
section
variable {vs : List V} {H : Hp} {Q : VK} {E : XK}
theorem splen1 {f} (h : Sp1 f vs H Q E) : vs.length = 1 := by obtain ⟨_, rfl, _⟩ := h; rfl
theorem splen2 {f} (h : Sp2 f vs H Q E) : vs.length = 2 := by obtain ⟨_, _, rfl, _⟩ := h; rfl
theorem splen3 {f} (h : Sp3 f vs H Q E) : vs.length = 3 := by obtain ⟨_, _, _, rfl, _⟩ := h; rfl
theorem splen4 {f} (h : Sp4 f vs H Q E) : vs.length = 4 := by obtain ⟨_, _, _, _, rfl, _⟩ := h; rfl
theorem splen5 {f} (h : Sp5 f vs H Q E) : vs.length = 5 := by obtain ⟨_, _, _, _, _, rfl, _⟩ := h; rfl
end
/-! built-ins by name -/
theorem boot_int : bootBuiltins "int" = some (.type "int") := by decide +kernel
theorem boot_bool : bootBuiltins "bool" = some (.type "bool") := by decide +kernel
theorem boot_str : bootBuiltins "str" = some (.type "str") := by decide +kernel
theorem boot_list : bootBuiltins "list" = some (.type "list") := by decide +kernel
theorem boot_tuple : bootBuiltins "tuple" = some (.type "tuple") := by decide +kernel
theorem boot_dict : bootBuiltins "dict" = some (.type "dict") := by decide +kernel
theorem boot_len : bootBuiltins "len" = some (.builtin "len") := by decide +kernel
theorem boot_abs : bootBuiltins "abs" = some (.builtin "abs") := by decide +kernel
theorem boot_isinstance : bootBuiltins "isinstance" = some (.builtin "isinstance") := by decide +kernel
section
variable {X : Cx} {CX : CXT} {k n : Nat} {f C : Addr} {fd : FuncData} {ps ks : List Str} {sp : Sp} {E : L2.St → XK} {x m : Str} {p pos apos : Pos} {o e : Expr} {es : List Expr} {kws : List Keyword} {ta : TE} {t tk : TA} {g : List Value → List Value → List Value} {gV : List V → List V → List V}
theorem pe_globI {i : Int} (hg : Gl X x) (h : ∃ t, X.mg x = some (.int i t)) (hd : (x == ("__debug__" : Str)) = false := by decide) : PE X (.Name x pos) (tC (.int i)) := by
  obtain ⟨t, h⟩ := h
  exact pe_glob hg h ⟨t, rfl⟩ hd
theorem pe_globS {z : Str} (hg : Gl X x) (h : ∃ t, X.mg x = some (.str z t)) (hd : (x == ("__debug__" : Str)) = false := by decide) : PE X (.Name x pos) (tC (.str z)) := by
  obtain ⟨t, h⟩ := h
  exact pe_glob hg h ⟨t, rfl⟩ hd
/-! what is raised, wished for at the slots -/
theorem pas0 {X : Cx} : ∀ σ : L2.St, PassesAt (L2.CX X.prog X.w) X σ E0 := fun σ pins H s e s' I c => passL pins σ H s e s' I c
theorem pasE {X : Cx} {W : WX} (tk : Takes X W) : ∀ σ : L2.St, PassesAt (L2.CX X.prog X.w) X σ (fun cls d H => W cls d σ H) := fun σ => passAt tk σ
theorem own_of {K : Value → Shared → Prop} {E1 : Value → Shared → Prop} (hx : X.xe = fun e s' => wpAny (model X.prog X.w) X.A (leaving X.env e) (fun _ s2 => K e s2) E1 s') : PassesOwn (model X.prog X.w) X.A X.env X.xe := passes_of hx
theorem kb_of_binds {K : Frag} {ds : List Value} {dvs : List V} (hb : Binds K fd ps ds) (hd : Vals dvs ds) (hl : n + dvs.length = ps.length) : KBn K fd ps n [] (fun us _ => us ++ ds) (fun vs _ => vs ++ dvs) where
  to := fun s us ws k l1 l2 => by
    have e : ([] : List Str).zip ws = [] := rfl
    rw [e]
    exact hb s us k (by rw [List.length_append, l1, ← hd.length]; exact hl)
  rel := fun r _ => r.append hd
/-! f(e, .., k = v, ..); C(e, .., k = v, ..); o.m(e, .., k = v, ..) -/
def tFnS (n m : Nat) (sp : Sp) (gV : List V → List V → List V) (E : L2.St → XK) (t tk : TA) : TE := fun σ H Q =>
  t σ H fun vs H1 => tk σ H1 fun zs H2 => vs.length = n ∧ zs.length = m ∧ sp (gV vs zs) H2 Q (E σ)
def tMkS (C : Addr) (n m : Nat) (sp : Sp) (gV : List V → List V → List V) (E : L2.St → XK) (t tk : TA) : TE := fun σ H Q =>
  t σ H fun vs H1 => tk σ H1 fun zs H2 => vs.length = n ∧ zs.length = m ∧ ∀ x dx, H2 x = none → H2 dx = none → dx ≠ x →
    sp (gV (.ref x :: vs) zs) (upd (upd H2 dx (.own x)) x (.ins C dx [])) (fun v H3 => v = .non ∧ Q (.ref x) H3) (E σ)
def tMtS (C : Addr) (m : Str) (n l : Nat) (sp : Sp) (gV : List V → List V → List V) (E : L2.St → XK) (ta : TE) (t tk : TA) : TE := fun σ H Q =>
  ta σ H fun x H1 => ∃ a dx fs, x = .ref a ∧ H1 a = some (.ins C dx fs) ∧ fs.lookup m = none ∧
    t σ H1 fun vs H2 => tk σ H2 fun zs H3 => vs.length = n ∧ zs.length = l ∧ sp (gV (x :: vs) zs) H3 Q (E σ)
section
variable {pins : List (Addr × Obj)} {σ : L2.St} {H : Hp} {s : Shared} {Q : VK} {us ws : List Value} {vs zs : List V}
theorem run_S (F : FnOk X.prog X.w X.K X.mg X.base CX k f fd ps sp) (hr : Room k X.A) (hb : KBn X.K fd ps n ks g gV) (hx : PassesAt CX X σ (E σ)) (I : Inv X pins σ H s) (r : Vals vs us) (rz : Vals zs ws)
    (l1 : vs.length = n) (l2 : zs.length = ks.length) (h : sp (gV vs zs) H Q (E σ)) : wpAny (model X.prog X.w) X.A (call (.ref f) us (ks.zip ws)) (EP X pins σ Q) X.xe s := by
  have a1 : us.length = n := r.length.symm.trans l1
  have a2 : ws.length = ks.length := rz.length.symm.trans l2
  refine wpAny_call (codeAny_mono (F.run X.A X.stack s H ⟨us, ks.zip ws⟩ (g us ws) (gV vs zs) Q (E σ) hr I.env0 (hb.to s us ws I.kIn a1 a2) (hb.rel r rz) h) fun r s' hq => ?_)
  match r, hq with
  | .error e, hq => exact hx pins H s e s' I hq
  | .ok (.ret u), hq => exact I.after hq
  | .ok .next, hq => exact hq.elim
  | .ok .brk, hq => exact hq.elim
  | .ok .cont, hq => exact hq.elim
theorem run_mkS (M : Mk X.K C f) (F : FnOk X.prog X.w X.K X.mg X.base CX k f fd ps sp) (hr : Room (k + 1) X.A) (hb : KBn X.K fd ps (n + 1) ks g gV) (hx : PassesAt CX X σ (E σ)) (I : Inv X pins σ H s) (r : Vals vs us) (rz : Vals zs ws)
    (l1 : vs.length = n) (l2 : zs.length = ks.length) (h : ∀ x dx, H x = none → H dx = none → dx ≠ x → sp (gV (.ref x :: vs) zs) (upd (upd H dx (.own x)) x (.ins C dx [])) (fun v H2 => v = .non ∧ Q (.ref x) H2) (E σ)) :
    wpAny (model X.prog X.w) X.A (call (.ref C) us (ks.zip ws)) (EP X pins σ Q) X.xe s := by
  have hq := h (s.heap.objs.size + 1) s.heap.objs.size (I.hok.fresh (Nat.le_succ _)) (I.hok.fresh (Nat.le_refl _)) (Nat.ne_of_lt (Nat.lt_succ_self _))
  have J := Inv.made (C := C) I
  have r1 : Vals (V.ref (s.heap.objs.size + 1) :: vs) (Value.ref (s.heap.objs.size + 1) :: us) := .cons rfl r
  have a1 : (Value.ref (s.heap.objs.size + 1) :: us).length = n + 1 := by rw [← r1.length]; exact congrArg Nat.succ l1
  have a2 : ws.length = ks.length := rz.length.symm.trans l2
  have run := F.run _ X.stack _ _ ⟨Value.ref (s.heap.objs.size + 1) :: us, ks.zip ws⟩ (g (Value.ref (s.heap.objs.size + 1) :: us) ws) _ _ (E σ) (hr.make C us (ks.zip ws)) (J.env0.make C us (ks.zip ws)) (hb.to _ _ ws J.kIn a1 a2) (hb.rel r1 rz) hq
  refine wpAny_call (make_map (f := f) I.kIn M.makes M.init (beq_iff_eq.mp M.fn) (codeAny_mono run fun r s' hq2 => ?_))
  match r, hq2 with
  | .error e, hq2 => exact hx pins _ _ e s' J hq2
  | .ok (.ret u), hq2 =>
    obtain ⟨v, H2, J2, rv, ev, q3⟩ := J.after hq2
    subst ev
    exact ⟨rv, ⟨V.ref (s.heap.objs.size + 1), H2, J2, rfl, q3⟩⟩
  | .ok .next, hq2 => exact hq2.elim
  | .ok .brk, hq2 => exact hq2.elim
  | .ok .cont, hq2 => exact hq2.elim
end
theorem pe_fnS (F : FnOk X.prog X.w X.K X.mg X.base CX k f fd ps sp) (hr : Room k X.A) (hg : Gl X x) (hm : X.mg x = some (.ref f)) (hk : PySem.W.keepIn X.K (.ref f) = true) (hb : KBn X.K fd ps n ks g gV) (hx : ∀ σ, PassesAt CX X σ (E σ))
    (ha : PA X (e :: es) t) (hkw : PK X kws tk) (hall : (backToKw pos (keywordEach kws X.env)).all (·.1.isSome) = true) (hks : (backToKw pos (keywordEach kws X.env)).filterMap (·.1) = ks)
    (hdb : (x == ("__debug__" : Str)) = false := by decide) (he : starEach (e :: es) X.env = (false, eval e X.env) :: starEach es X.env := by rfl)
    (hpl : ((backTo pos (starEach (e :: es) X.env)).any (·.1) || (backToKw pos (keywordEach kws X.env)).any (·.1.isNone)) = false := by rfl) :
    PE X (.Call (.Name x p) (e :: es) kws pos) (tFnS n ks.length sp gV E t tk) := ⟨fun pins s σ H Q I h =>
  wpAny_Call_Name_kw (ld_glob I hg hm (PySem.W.callWith_KW (h₀ := X.base) I.ok.mod.kin hk hall (thn (ha.run pos pins s σ H _ I h) fun us s1 ⟨vs, H1, I1, r, q⟩ =>
    thn (hkw.run pos pins s1 σ H1 _ I1 q) fun ws s2 ⟨zs, H2, I2, rz, l1, l2, q2⟩ => ⟨I2.kIn, by rw [hks]; exact run_S F hr hb (hx σ) I2 r rz l1 l2 q2⟩) hpl he) hdb)⟩
theorem pe_mkS (M : Mk X.K C f) (F : FnOk X.prog X.w X.K X.mg X.base CX k f fd ps sp) (hr : Room (k + 1) X.A) (hg : Gl X x) (hm : X.mg x = some (.ref C)) (hb : KBn X.K fd ps (n + 1) ks g gV) (hx : ∀ σ, PassesAt CX X σ (E σ))
    (ha : PA X (e :: es) t) (hkw : PK X kws tk) (hall : (backToKw pos (keywordEach kws X.env)).all (·.1.isSome) = true) (hks : (backToKw pos (keywordEach kws X.env)).filterMap (·.1) = ks)
    (hdb : (x == ("__debug__" : Str)) = false := by decide) (he : starEach (e :: es) X.env = (false, eval e X.env) :: starEach es X.env := by rfl)
    (hpl : ((backTo pos (starEach (e :: es) X.env)).any (·.1) || (backToKw pos (keywordEach kws X.env)).any (·.1.isNone)) = false := by rfl) :
    PE X (.Call (.Name x p) (e :: es) kws pos) (tMkS C n ks.length sp gV E t tk) := ⟨fun pins s σ H Q I h =>
  wpAny_Call_Name_kw (ld_glob I hg hm (PySem.W.callWith_KW (h₀ := X.base) I.ok.mod.kin M.kp hall (thn (ha.run pos pins s σ H _ I h) fun us s1 ⟨vs, H1, I1, r, q⟩ =>
    thn (hkw.run pos pins s1 σ H1 _ I1 q) fun ws s2 ⟨zs, H2, I2, rz, l1, l2, q2⟩ => ⟨I2.kIn, by rw [hks]; exact run_mkS M F hr hb (hx σ) I2 r rz l1 l2 q2⟩) hpl he) hdb)⟩
theorem pe_mtS {pl : Sem Bool} (he : PE X o ta) (c : Cls X.K C) (hm : Meth X.K C m f) (F : FnOk X.prog X.w X.K X.mg X.base CX k f fd ps sp) (hr : Room k X.A) (hb : KBn X.K fd ps (n + 1) ks g gV) (hx : ∀ σ, PassesAt CX X σ (E σ))
    (ha : PA X (e :: es) t) (hkw : PK X kws tk) (hall : (backToKw pos (keywordEach kws X.env)).all (·.1.isSome) = true) (hks : (backToKw pos (keywordEach kws X.env)).filterMap (·.1) = ks)
    (hst : starEach (e :: es) X.env = (false, eval e X.env) :: starEach es X.env := by rfl)
    (hpl : ((backTo pos (starEach (e :: es) X.env)).any (·.1) || (backToKw pos (keywordEach kws X.env)).any (·.1.isNone)) = false := by rfl)
    (ht : eval (.Call (.Attribute o m apos) (e :: es) kws pos) X.env = (do
      let ov ← eval o X.env
      standAt apos.atName
      let (f, first) ← holding [ov] (getMethod ov m pl)
      callWith pos f first (backTo pos (starEach (e :: es) X.env)) (backToKw pos (keywordEach kws X.env))) := by rfl) :
    PE X (.Call (.Attribute o m apos) (e :: es) kws pos) (tMtS C m n ks.length sp gV E ta t tk) := by
  refine ⟨fun pins s σ H Q I h => PySem.W.methodCall_KW (pl := pl) (thn (he.run pins s σ H _ I h) fun u s1 ⟨x, H1, I1, rx, a, dx, fs, ex, ea, l, q⟩ => ?_) ht⟩
  subst ex
  cases (show u = Value.ref a from rx)
  refine getmeth_ok I1 ea c hm l (PySem.W.callWith_KW (first := [.ref a]) (h₀ := X.base) I.ok.mod.kin hm.kp hall (thn (ha.run pos pins s1 σ H1 _ I1 q) fun us s2 ⟨vs, H2, I2, r, q2⟩ =>
    thn (hkw.run pos pins s2 σ H2 _ I2 q2) fun ws s3 ⟨zs, H3, I3, rz, l1, l2, q3⟩ => ⟨I3.kIn, ?_⟩) hpl hst)
  rw [hks]
  exact run_S (us := .ref a :: us) (vs := .ref a :: vs) F hr hb (hx σ) I3 (.cons rfl r) rz (congrArg Nat.succ l1) l2 q3
theorem pe_mtS0 {pl : Sem Bool} (he : PE X o ta) (c : Cls X.K C) (hm : Meth X.K C m f) (F : FnOk X.prog X.w X.K X.mg X.base CX k f fd ps sp) (hr : Room k X.A) (hb : KBn X.K fd ps (0 + 1) ks g gV) (hx : ∀ σ, PassesAt CX X σ (E σ))
    (hkw : PK X kws tk) (hall : (backToKw pos (keywordEach kws X.env)).all (·.1.isSome) = true) (hks : (backToKw pos (keywordEach kws X.env)).filterMap (·.1) = ks)
    (hpl : ((backTo pos (starEach [] X.env)).any (·.1) || (backToKw pos (keywordEach kws X.env)).any (·.1.isNone)) = false := by rfl)
    (ht : eval (.Call (.Attribute o m apos) [] kws pos) X.env = (do
      let ov ← eval o X.env
      standAt apos.atName
      let (f, first) ← holding [ov] (getMethod ov m pl)
      callWith pos f first (backTo pos (starEach [] X.env)) (backToKw pos (keywordEach kws X.env))) := by rfl) :
    PE X (.Call (.Attribute o m apos) [] kws pos) (tMtS C m 0 ks.length sp gV E ta tNil tk) := by
  refine ⟨fun pins s σ H Q I h => PySem.W.methodCall_KW (pl := pl) (thn (he.run pins s σ H _ I h) fun u s1 ⟨x, H1, I1, rx, a, dx, fs, ex, ea, l, q⟩ => ?_) ht⟩
  subst ex
  cases (show u = Value.ref a from rx)
  refine getmeth_ok I1 ea c hm l (PySem.W.callWith_KW0 (first := [.ref a]) (h₀ := X.base) I.ok.mod.kin hm.kp hall
    (thn (hkw.run pos pins s1 σ H1 _ I1 q) fun ws s3 ⟨zs, H3, I3, rz, l1, l2, q3⟩ => ⟨I3.kIn, ?_⟩) hpl)
  rw [hks]
  exact run_S (us := [.ref a]) (vs := [.ref a]) F hr hb (hx σ) I3 (.cons rfl .nil) rz rfl l2 q3
/-! raise C(e, ..), C with an own __init__ -/
theorem ps_raiseO {W : WX} {fI : Addr} {pos2 : Pos} (hc : X.calm = true) (tk : Takes X W) (T : OexC X.K C) (iC : PySem.W.findIn X.K (.ref C) "__init__" = some (some (.ref fI))) (tI : PySem.W.typeIn X.K (.ref fI) = some (.type "function"))
    (F : FnOk X.prog X.w X.K X.mg X.base (L2.CX X.prog X.w) k fI fd ps sp) (hr : Room (k + 1) X.A) (hb : KBn X.K fd ps n [] (fun us _ => us ++ []) (fun vs _ => vs ++ [])) (hg : Gl X x) (hm : X.mg x = some (.ref C)) (ha : PA X (e :: es) t)
    (hn : n = ps.length := by rfl)
    (hdb : (x == ("__debug__" : Str)) = false := by decide) (he : starEach (e :: es) X.env = (false, eval e X.env) :: starEach es X.env := by rfl) (hpl : (backTo pos (starEach es X.env)).any (·.1) = false := by rfl) :
    PS X (.Raise (some (.Call (.Name x p) (e :: es) [] pos)) none pos2) (fun _ σ H => tMkO C sp [] t σ H fun cls d H' => W cls d σ H') := by
  refine ps_raise hc tk (pmk_oex (ds := []) (dvs := []) T iC tI F hr (fun s us k hl => ?_) .nil passL hg hm ha hdb he hpl)
  exact hb.to s us [] k (by rw [List.append_nil] at hl; rw [hl, hn]) rfl
end
/-! isinstance of the caught error, with a dict of its own -/
section
open PySem.W PySem.Calls
variable {prog : Program} {w : World} {A : Around} {Ex : Value → Shared → Prop} {s : Shared} {K : Frag} {x D : Addr} {ox : Obj} {od : Option Obj}
theorem findObj_dataX {C : Addr} {name : Str} {a g : Value} {od : Option Obj} (hc : (clsIn K C).isSome = true) (ha : findIn K (.ref C) name = some (some a)) (hg : specialIn K a "__get__" = some (some g)) (ht : takesIn K a = some true) : findObj K C od name = some (.bind g a) := by
  obtain ⟨cd, hc⟩ := Option.isSome_iff_exists.mp hc
  unfold findObj
  simp [hc, ha, hg, ht]
theorem kin_classX (c : ExcC K D) {Q : Option Value → Shared → Prop} (X : K.In s.heap) (I : InstAt s.heap x ox D od) (h : Q (some (.ref D)) { s with toks := s.toks + 1 }) : wpAny (model prog w) A (getAttr? (.ref x) "__class__") Q Ex s := by
  have hf : findObj K D od "__class__" = some (.bind (.builtin "getset_descriptor.__get__") (.builtin "object.__class__")) :=
    findObj_dataX (by obtain ⟨cd, hc, _⟩ := any_some c.hd; rw [hc]; rfl) c.ha c.hn c.ht
  obtain ⟨hp, g, d, t, os⟩ := s
  have a0 := I.type (M := model prog w)
  have a1 := looks_findIn (M := model prog w) X c.hg
  have a2 := looks_findIn (M := model prog w) X c.hk
  have a3 := looks_find (M := model prog w) X I hf
  have sub : Looks (model prog w) hp (isInstance (.ref x) (.type "BaseException")) true := a0.andThen (looks_subIn X c.hs)
  have hx2 : (Value.builtin "BaseException.__getattribute__" == Value.builtin "object.__getattribute__") = false := by decide +kernel
  unfold getAttr? getAttrBy? getAttrBy
  refine wpAny_bind (wpAny_mkText (wpAny_bind (wpAny_attempt (wpAny_holding (wpAny_bind (a0.at (wpAny_bind (a1.at ?_))))))))
  have hx1 : (onTheHeap (Value.ref D) && Value.builtin "BaseException.__getattribute__" == Value.builtin "object.__getattribute__") = false := by
    rw [hx2]; rfl
  dsimp only
  rw [hx1, if_neg Bool.false_ne_true]
  unfold getAttrByItsOwn hookBefore
  refine wpAny_bind ?_
  rw [if_pos (show onTheHeap (Value.ref D) = true from rfl)]
  refine a2.at (wpAny_bind (wpAny_attempt (wpAny_holding ?_)))
  unfold callGetattribute
  have hx0 : ∀ z : Bool, (false && z) = false := fun _ => rfl
  rw [hx0, if_neg Bool.false_ne_true]
  unfold boundAndCalled
  rw [PySem.F.excAttr_ValueError.ga.bind (.ref x)]
  refine wpAny_bind (wpAny_pure ?_)
  refine wpAny_call (codeAny_call_builtin PySem.F.excAttr_ValueError.ga.plain PySem.F.entry_bexc_ga ?_)
  refine @check_slot (model prog w) _ _ ⟨hp, g, d, t + 1, os⟩ "BaseException.__getattribute__" "BaseException" "__getattribute__" (.ref x) [.str "__class__" t] [] _ (by decide +kernel) (by decide +kernel) sub (PySem.F.args_bexc_ga (.ref x) (.str "__class__" t)) ?_
  unfold Builtin.«object.__getattribute__»
  refine wpAny_bind (wpAny_of_eq (a := ((Value.ref x : Value), [Value.str "__class__" t])) (by first | rfl | (simp only [slotArgs]; rfl)) ?_)
  refine wpAny_bind (wpAny_pure (wpAny_bind (a0.at (wpAny_bind (a3.at ?_)))))
  refine wpAny_bind (wpAny_holding (wpAny_call (class_get (s := ⟨hp, g, d, t + 1, os⟩) (ox := ox) (od := od) X I c.hm ?_)))
  refine wpAny_pure ?_
  dsimp only
  rw [handedOut_of (v := .ref D) rfl]
  first
    | exact wpAny_pure (wpAny_pure h) | exact wpAny_pure h | exact wpAny_pure (wpAny_bind (wpAny_pure (wpAny_pure h)))
theorem kitx_excX (c : ExcC K D) : KitX K (.ref x) (.ref D) (fun h => InstAt h x ox D od) where
  ty := fun _ _ _ I => I.type
  it := fun _ _ X _ A' Q' E' s' k q => by
    obtain ⟨cd, hc, _⟩ := any_some c.hd
    unfold clsIn at hc
    split at hc
    · rename_i ho
      unfold isType loadHead
      exact wpAny_bind (wpAny_loadPart (k _ _ (X _ _ ho)) (wpAny_pure q))
    · cases hc
  ne := fun h tp dd its n sl X htp => (handS_kitx_exc (x := x) (ox := ox) c.hg c.hk c.hs c.hd c.ha c.hn c.ht c.hm).ne h tp dd its n sl X htp
  ca := fun X I k => kin_classX c X I k
end
/-- isinstance(e, c), e the error that the suite holds (class D, dict d) -/
def rIsX (K : Frag) (D a : Addr) (cls : Value) (d : Option Addr) : List V → Hp → VK → Prop := fun xs H Q => cls = .ref D ∧
  (d = none ∨ ∃ dd fs, d = some dd ∧ H dd = some (.xd fs)) ∧ ∃ (c : V) (cv : Value) (b : Bool), xs = [.ref a, c] ∧ ClsV c cv ∧ PySem.W.kitOne K (.ref D) cv = some b ∧ Q (.bl b) H
theorem call_isX {X : Cx} {a D : Addr} {oe : Obj} {cls : Value} {d : Option Addr} {pn : List (Addr × Obj)} (C : ExcC X.K D) (hz : Zc cls d oe) (hf : ∃ vs, oe.data = .fields vs) :
    CallR (X.suite a ((a, oe) :: pn)) (.builtin "isinstance") (rIsX X.K D a cls d) := by
  intro pins s σ H xs us Q I r h
  obtain ⟨ec, hd, c, cv, b, rfl, hcv, e, q⟩ := h
  obtain ⟨u1, u2, rfl, r1, r2⟩ := vals2 r
  cases (show u1 = Value.ref a from r1)
  cases hcv.eq r2
  obtain ⟨ha, _⟩ := I.pin (a, oe) (List.mem_append_left _ List.mem_cons_self)
  obtain ⟨vs, hv⟩ := hf
  have nc : PySem.W.notCls oe = true := by unfold PySem.W.notCls; rw [hv]
  obtain ⟨h1, h2⟩ := hz
  subst ec
  obtain ⟨od, J⟩ : ∃ od, PySem.W.InstAt s.heap a oe D od := by
    rcases hd with rfl | ⟨dd, fs, rfl, hx⟩
    · exact ⟨none, ha, h1, nc, by rw [h2]; trivial⟩
    · obtain ⟨mA, hns, _⟩ := (show ObjOk X.prog X.w H s.heap dd (.xd fs) from I.hok dd _ hx)
      obtain ⟨od, ho, _⟩ := lookIn_ns hns
      exact ⟨some od, ha, h1, nc, by rw [h2]; exact ho⟩
  exact PySem.W.kia_one (kitx_excX C) I.kIn J e (fun z => nomatch z) fun tk => ⟨.bl b, H, I.tok tk, rfl, q⟩
/-! an instance of an own class: what isinstance asks of its class -/
structure InsT (K : Frag) (C : Addr) : Prop where
  ha : PySem.W.findIn K (.ref C) "__class__" = some (some (.builtin "object.__class__"))
  hn : PySem.W.specialIn K (.builtin "object.__class__") "__get__" = some (some (.builtin "getset_descriptor.__get__"))
  ht : PySem.W.takesIn K (.builtin "object.__class__") = some true
  hm : PySem.W.mroIn K C (.type "object") = some true
def insB (K : Frag) (C : Addr) : Bool := He.eqO (PySem.W.findIn K (.ref C) "__class__") (some (some (.builtin "object.__class__"))) &&
  (He.eqO (PySem.W.specialIn K (.builtin "object.__class__") "__get__") (some (some (.builtin "getset_descriptor.__get__"))) &&
  (decide (PySem.W.takesIn K (.builtin "object.__class__") = some true) && decide (PySem.W.mroIn K C (.type "object") = some true)))
theorem insB_ok {K : Frag} {C : Addr} (q : insB K C = true) : InsT K C := by
  obtain ⟨b, q⟩ := He.ba q
  obtain ⟨c, q⟩ := He.ba q
  obtain ⟨d, e⟩ := He.ba q
  exact ⟨He.eqO_ok b, He.eqO_ok c, of_decide_eq_true d, of_decide_eq_true e⟩
theorem InsT.ty {K : Frag} {C a dx : Addr} {H : Hp} {fs : List (Str × V)} (i : InsT K C) (c : Cls K C) (h : H a = some (.ins C dx fs)) : TyX K H (.ref a) (.ref C) := .base (.ins h c i.ha i.hn i.ht i.hm)
/-! * where one factor is small, or both have less than a million bits together -/
def CMulA (i j : Int) : Prop := CMul i j ∨ CMulW i j
theorem op_mulA {X : Cx} : OpR X (binaryOp .Mult) (rI CMulA fun i j => .int (i * j)) := opI fun _ _ _ _ _ _ _ hc q =>
  hc.elim (fun h => mul_int q h.ok) (fun h => mul_int q h.ok)
/-- x is an int (no bool), or known to be none -/
inductive IsI (K : Frag) (H : Hp) : V → Bool → Prop where
  | int (i : Int) : IsI K H (.int i) true
  | bl (b : Bool) : IsI K H (.bl b) false
  | oth {x : V} {t : Value} (h : TyX K H x t) (e : PySem.W.kitOne K t (.type "int") = some false) : IsI K H x false
/-! the end of a law: a head by facts, the script's bits told -/
theorem walk_X {l : PySem.W.OpenLaw} {n k : Nat} {q : Program} {loose : List Str} {XP : (Str → Option Value) → Heap → Prop} {YP : World → Heap → Prop} {d : DefRec} {x : Str}
    (hn : l.most = some n) (hn2 : n ≤ sizeLine) (hdf : d.params.defaults = []) (hr : Room k callerA)
    (F : ∀ (w : World) (mg : Str → Option Value) (fa : Addr) (h : Heap), YP w h → h.Ns mainGlobals mg → mg d.name = some (.ref fa) →
      ∃ (K : Frag) (fd : FuncData) (sp : Sp), K.In h ∧ (∀ (s : Shared) (u : Value), BindsTo s fd ⟨[u], []⟩ [(x, u)]) ∧
        (∀ (H : Hp) (a : Addr) (ns : List Int), ns.length ≤ n → (∀ z ∈ ns, Builtin.Int.intBits z ≤ 1048576) → Only H → SqL K H a (ns.map V.int) → sp [.ref a] H (fun v _ => v = .bl true) E0) ∧
        ∀ base : Heap, K.In base → base.Ns mainGlobals mg → FnOk l.prog w K mg base (L2.CX l.prog w) k fa fd [x] sp) :
    PySem.W.WalkO q loose XP YP l.row.toRowW d [] (fun f vs => PySem.call f vs) := by
  refine Att.attach_callB hn hdf fun w s0 s1 mg mb fa o pm cd doc a vs ns G Y ho hd hcd hmg hobj hints hlen hbits hg => ?_
  obtain ⟨K, fd, sp, KX, hb, hsp, hF⟩ := F w mg fa _ Y G.T.g hmg
  refine law_call KX G.T.g G.T.b G.T.builtins G.T.nolimit hg hobj hints (Nat.le_trans hlen hn2) hr hF hb (fun H hO hS => hsp H a ns hlen hbits hO hS) fun H e s' c => ?_
  obtain ⟨_, _, _, _, _, _, _, _, _, _, _, _, z⟩ := c
  exact z
end S
namespace S
open PySem PySem.Spec PyProof.Rows L2
section
open PySem.W PySem.Calls
variable {prog : Program} {w : World} {A : Around} {Ex : Value → Shared → Prop} {s : Shared} {K : Frag} {x C f : Addr} {ox : Obj} {od : Option Obj} {b tb : Value}
/-- object.__ne__ over an own __eq__ that gives a bool -/
theorem objNe_K {Q : Fin → Shared → Prop} (hu : A.units < cLine) (X : K.In s.heap) (I : InstAt s.heap x ox C od) (hs : findIn K (.ref C) "__eq__" = some (some (.ref f))) (hf : isFn K (.ref f) = true)
    (h : wpAny (model prog w) A (call (.ref f) [.ref x, b]) (fun v s' => ∃ r, v = .bool r ∧ Q (.done (.ret (.bool (!r)))) s') Ex s) :
    wpAny (model prog w) A (Builtin.«object.__ne__» ⟨[.ref x, b], []⟩) Q Ex s := by
  unfold Builtin.«object.__ne__»
  refine wpAny_bind (wpAny_of_eq (a := ((Value.ref x : Value), [b])) (by first | rfl | (simp only [slotArgs]; rfl)) ?_)
  dsimp only
  refine wpAny_bind (wpAny_cRoomFor hu ?_)
  refine wpAny_bind (ifBound_K X I hs hf (wpAny_mono h (fun v s' hv => ?_) fun _ _ e => e))
  obtain ⟨r, rfl, q⟩ := hv
  dsimp only
  refine wpAny_bind (wpAny_truthy_bool ?_)
  first | exact wpAny_pure q | exact q
theorem ne_K {Q : Value → Shared → Prop} (hu : A.units + 1 < cLine) (X : K.In s.heap) (I : InstAt s.heap x ox C od) (hb : Looks (model prog w) s.heap (typeOf b) tb) (hn : notFirst K C tb = true)
    (hne : findIn K (.ref C) "__ne__" = some (some (.builtin "object.__ne__"))) (hm : mroIn K C (.type "object") = some true)
    (hs : findIn K (.ref C) "__eq__" = some (some (.ref f))) (hf : isFn K (.ref f) = true)
    (h : wpAny (model prog w) A.in1 (call (.ref f) [.ref x, b]) (fun v s' => ∃ r, v = .bool r ∧ Q (.bool (!r)) s') Ex s) : wpAny (model prog w) A (richCompare .NotEq (.ref x) b) Q Ex s := by
  have one : wpAny (model prog w) A (tryCompare (.ref x) "__ne__" b) (fun r s' => ∃ v, r = some v ∧ Q v s') Ex s := by
    unfold tryCompare
    refine wpAny_bind (NtL.csib (I.type.andThen (looks_findIn X hne)) (F.cmp_object.ne.bind _) ?_)
    refine wpAny_call (codeAny_call_builtin F.cmp_object.ne.plain F.cmpEntry_ne (check_slot F.cmpKind_ne F.cmpSplit_ne (I.type.andThen (looks_mroIn X hm)) (F.cmpArgs_ne _ _) ?_))
    refine objNe_K (A := A.in1) hu X I hs hf (wpAny_mono h (fun v s' hv => ?_) fun _ _ e => e)
    obtain ⟨r, rfl, q⟩ := hv
    exact ⟨r, rfl, wpAny_pure ⟨_, rfl, q⟩⟩
  unfold richCompare
  simp only [oneThing_ref]
  refine wpAny_holding (wpAny_bind (wpAny_cRoomFor (Nat.lt_of_succ_lt hu) ?_))
  rw [cmpInfo_NotEq]
  dsimp only
  refine wpAny_bind (I.type.here (wpAny_bind (hb.here ?_)))
  split
  · rename_i q
    have e : subIn K tb (.ref C) = some false := by
      rcases Bool.or_eq_true_iff.mp hn with e | e
      · rw [beq_iff_eq.mp e] at q
        simp at q
      · exact beq_iff_eq.mp e
    refine wpAny_bind ((looks_subIn X e).here ?_)
    simp only [Bool.false_eq_true, if_false]
    refine wpAny_bind (wpAny_mono one (fun r s' z => ?_) fun _ _ e => e)
    obtain ⟨v, rfl, hq⟩ := z
    exact wpAny_pure hq
  · refine wpAny_bind (wpAny_pure ?_)
    simp only [Bool.false_eq_true, if_false]
    refine wpAny_bind (wpAny_mono one (fun r s' z => ?_) fun _ _ e => e)
    obtain ⟨v, rfl, hq⟩ := z
    exact wpAny_pure hq
end
section
variable {X : Cx} {n : Nat} {C g : Addr} {sp : Sp}
/-- x op y by x's own method, both instances -/
def rOwnI (K : Frag) (C : Addr) (sp : Sp) : R2 := fun x y H Q => ∃ a dx fs b C' dy gs, x = .ref a ∧ y = .ref b ∧ H a = some (.ins C dx fs) ∧ H b = some (.ins C' dy gs) ∧ PySem.W.notFirst K C (.ref C') = true ∧ sp [x, y] H Q E0
theorem op_ownI {op : CmpOp} (hop : ∀ a b, compareOp op a b = richCompare op a b) (hs : PySem.W.findIn X.K (.ref C) (cmpInfo op).2.1 = some (some (.ref g))) (hf : PySem.W.isFn X.K (.ref g) = true)
    (F : FnR X.prog X.w X.K X.mg X.base (L2.CX X.prog X.w) n g sp) (hr : Room n X.A) : OpR X (compareOp op) (rOwnI X.K C sp) := by
  intro pins s σ H x y v u Q I rx ry h
  obtain ⟨a, dx, fs, b, C', dy, gs, rfl, rfl, ha, hb, hn, q⟩ := h
  cases (show v = Value.ref a from rx)
  cases (show u = Value.ref b from ry)
  obtain ⟨mA, O, _⟩ := ins_get I.hok ha
  obtain ⟨od, J, _⟩ := O.look
  obtain ⟨mB, O2, _⟩ := ins_get I.hok hb
  obtain ⟨od2, J2, _⟩ := O2.look
  obtain ⟨m, hF⟩ := I.fr
  rw [hop]
  refine PySem.W.cmp_K (op := op) (tb := .ref C') hr.units0 hF I.ok.mod.kin J J2.type hn hs hf ?_
  refine wpAny_mono (wpAny_call (run_fnR (us := [.ref a, .ref b]) (vs := [.ref a, .ref b]) F hr passL I (.cons rfl (.cons rfl .nil)) q)) (fun w s' z => ?_) fun _ _ x => x
  obtain ⟨z2, H2, I2, rz, qz⟩ := z
  exact SlX.cmpback rz ⟨z2, H2, I2, rz, qz⟩
/-- x != y by x's own == -/
def rNeI (K : Frag) (C : Addr) (sp : Sp) : R2 := fun x y H Q => ∃ a dx fs b C' dy gs, x = .ref a ∧ y = .ref b ∧ H a = some (.ins C dx fs) ∧ H b = some (.ins C' dy gs) ∧ PySem.W.notFirst K C (.ref C') = true ∧
  sp [x, y] H (fun z H2 => ∃ r, z = .bl r ∧ Q (.bl (!r)) H2) E0
theorem op_neI (hne : PySem.W.findIn X.K (.ref C) "__ne__" = some (some (.builtin "object.__ne__"))) (hm : PySem.W.mroIn X.K C (.type "object") = some true)
    (hs : PySem.W.findIn X.K (.ref C) "__eq__" = some (some (.ref g))) (hf : PySem.W.isFn X.K (.ref g) = true)
    (F : FnR X.prog X.w X.K X.mg X.base (L2.CX X.prog X.w) n g sp) (hr : Room (n + 1) X.A) : OpR X (compareOp .NotEq) (rNeI X.K C sp) := by
  intro pins s σ H x y v u Q I rx ry h
  obtain ⟨a, dx, fs, b, C', dy, gs, rfl, rfl, ha, hb, hn, q⟩ := h
  cases (show v = Value.ref a from rx)
  cases (show u = Value.ref b from ry)
  obtain ⟨mA, O, _⟩ := ins_get I.hok ha
  obtain ⟨od, J, _⟩ := O.look
  obtain ⟨mB, O2, _⟩ := ins_get I.hok hb
  obtain ⟨od2, J2, _⟩ := O2.look
  show wpAny _ _ (richCompare .NotEq (.ref a) (.ref b)) _ _ _
  refine ne_K (tb := .ref C') (hu_of hr) I.kIn J J2.type hn hne hm hs hf ?_
  refine wpAny_mono (wpAny_call (SlX.run_at (us := [.ref a, .ref b]) (ws := [.ref a, .ref b]) F hr.in1 I.env0.in1 passL I (.cons rfl (.cons rfl .nil)) q)) (fun w s' z => ?_) fun _ _ x => x
  obtain ⟨z2, H2, I2, rz, r, rfl, qz⟩ := z
  cases (show w = Value.bool r from rz)
  exact ⟨r, rfl, .bl (!r), H2, I2, rfl, qz⟩
theorem hop_eq : ∀ a b, compareOp .Eq a b = richCompare .Eq a b := fun _ _ => rfl
end
/-! keyword-only defaults and no others: f(e, .., k = v, ..) -/
theorem kbinds0 {K : Frag} {x qual : Str} {params : Arguments} {body : List Stmt} {scope : Scope} {kws : List (Str × V)} {f : Addr} {fd : FuncData} {ps : List Str} (F : FunD K x qual params body scope [] kws f fd) (n : Nat) (ks : List Str) (ms : List (Str × V))
    (g : {α : Type} → List α → List α → List α → List α) (hk : kws ≠ []) (hms : ∀ q ∈ ms, q ∈ kws)
    (hrel : ∀ {vs mz zs : List V} {us mv ws : List Value}, Vals vs us → Vals mz mv → Vals zs ws → Vals (g vs mz zs) (g us mv ws))
    (h : ∀ (D : Addr) (doc pm : Value) (an : Option Addr) (cdv ct : Value) (us mv ws : List Value), us.length = n → mv.length = ms.length → ws.length = ks.length →
      KwChain D ((ms.map (·.1)).zip mv) (bindArgs (PySem.W.fnOf x qual params body scope .none (.ref D) doc pm an cdv ct) ⟨us, ks.zip ws⟩) (ps.zip (g us mv ws))) :
    ∃ mv : List Value, KBn K fd ps n ks (fun us ws => g us mv ws) (fun vs zs => g vs (ms.map (·.2)) zs) := by
  obtain ⟨oc, od, dV, kV, doc, pm, an, cdv, ct, osl, rfl, lk, hcd, hD, hK⟩ := F.ex
  rcases hD with ⟨_, rfl⟩ | ⟨e, _⟩
  · rcases hK with e | ⟨D, rfl, hq⟩
    · exact absurd e hk
    · obtain ⟨mv, hl, rk, hks⟩ := kwd_vals (ms := ms) fun q hm => hq q (hms q hm)
      refine ⟨mv, ⟨fun s us ws X l1 l2 => BindsTo.of_looks fun M => KwChain.looks X hks (h D doc pm an cdv ct us mv ws l1 hl l2), fun r1 r2 => hrel r1 rk r2⟩⟩
  · exact absurd rfl e
/-! a block cut by a word: what follows is shown once -/
def tCut (t u : TS) : TS := fun D σ H => ∃ M : L2.St → Hp → Prop, t { D with nx := M } σ H ∧ ∀ τ J, M τ J → u D τ J
theorem pss_cut {X : Cx} {st : Stmt} {rest : List Stmt} {t u : TS} (h1 : PS X st t) (h2 : PSs X rest u) : PSs X (st :: rest) (tCut t u) :=
  ⟨fun pins s σ H D I ⟨M, hm, hu⟩ => wpAny_execs_cons (thn (h1.run pins s σ H { D with nx := M } I hm) fun f s1 q => by
    match f, q with
    | .next, ⟨τ, J, I2, q⟩ => exact h2.run pins s1 τ J D I2 (hu τ J q)
    | .ret v, q => exact q
    | .brk, q => exact q
    | .cont, q => exact q)⟩
/-! ways -/
theorem iteY {c A B : Prop} [Decidable c] (h : c) (a : A) : if c then A else B := by rw [if_pos h]; exact a
theorem iteN {c A B : Prop} [Decidable c] (h : ¬ c) (b : B) : if c then A else B := by rw [if_neg h]; exact b
theorem iteB {x : Bool} {A B : Prop} (h : if x then A else B) : if x = true then A else B := h
/-! small laws of heaps and fields -/
theorem putF_nil (f : Str) (v : V) : putF f v [] = [(f, v)] := rfl
theorem putF_cons_ne {f k : Str} {v u : V} {r : List (Str × V)} (h : ¬ k = f) : putF f v ((k, u) :: r) = (k, u) :: putF f v r := by
  show (if k = f then _ else _) = _
  rw [if_neg h]
theorem Same.new {H : Hp} {p : Addr} {o : HO} (h : H p = none) : Same H (upd H p o) := fun b u e => by
  rw [upd_ne (ne_of_none e h)]
  exact e
theorem Same.upd {H H' : Hp} {p : Addr} {o : HO} (e : Same H H') (h : H p = none) : Same H (L2.upd H' p o) := fun b u q => by
  rw [upd_ne (ne_of_none q h)]
  exact e b u q
/-! an own error with one field -/
/-- self.f = v in __init__ -/
def sp_err (C : Addr) (f : Str) : Sp := Sp2 fun x y H Q _ => ∃ a, x = .ref a ∧ H a = some (exo a C none) ∧ ∀ dx, H dx = none → dx ≠ a → Q .non (upd (upd H dx (exd dx [(f, y)])) a (exo a C (some dx)))
theorem raise_err {C : Addr} {f : Str} {t : TA} {σ : L2.St} {H : Hp} {Q : XK} (y : V)
    (k : ∀ d H', H d = none → Same H H' → H' d = some (.xd [(f, y)]) → Q (.ref C) (some d) H') (ht : ∀ R, R [y] H → t σ H R := by exact fun R r => r) : tMkO C (sp_err C f) [] t σ H Q := by
  refine ht _ ⟨by show 1 ≤ 1000; decide, fun a ha => ⟨_, _, rfl, a, rfl, upd_same, fun dx hdx hne => ⟨rfl, dx, [(f, y)], ?_, ?_, ?_, ?_⟩⟩⟩
  · exact upd_same
  · rw [upd_ne hne, upd_same]
  · rw [upd_ne hne] at hdx
    exact hdx
  · have h0 : H dx = none := by rw [upd_ne hne] at hdx; exact hdx
    refine k dx _ h0 (fun b o e => ?_) upd_same
    have n1 : b ≠ dx := ne_of_none e h0
    have n2 : b ≠ a := ne_of_none e ha
    rw [upd_ne n1, del_ne n2, upd_ne n2, upd_ne n1, upd_ne n2]
    exact e
/-! the law's own draws -/
/-- a cell is some integer of at least 0 -/
def spCellN (K : Frag) : Sp := Sp2 fun x y H Q _ => ∃ (a : Addr) (ns : List Int) (k : Int), x = .ref a ∧ y = .int k ∧ 0 ≤ k ∧ SqL K H a (ns.map V.int) ∧ ∀ n : Int, 0 ≤ n → Q (.int n) H
theorem int_at {ns : List Int} {k : Nat} (h : k < ns.length) : atI (ns.map V.int) ((k : Nat) : Int) = some (.int (ns.getD k 0)) := by
  refine atI_nat ?_
  rw [List.getElem?_map, List.getElem?_eq_getElem h, List.getD_eq_getElem?_getD, List.getElem?_eq_getElem h]
  rfl
theorem mul_small {i j : Int} (h : -(2 ^ 64) < j ∧ j < 2 ^ 64) : CMulA i j := .inl (.inr h)
theorem mul_smallL {i j : Int} (h : -(2 ^ 64) < i ∧ i < 2 ^ 64) : CMulA i j := .inl (.inl h)
theorem mod_small (x : Int) {m : Int} (h : 0 < m) (h2 : m < 2 ^ 64) : -(2 ^ 64) < x % m ∧ x % m < 2 ^ 64 := by
  have a := Int.emod_nonneg x (show m ≠ 0 by omega)
  have b := Int.emod_lt_of_pos x h
  omega
theorem mod_lo (x : Int) {m : Int} (h : 0 < m) : 0 ≤ x % m := Int.emod_nonneg x (by omega)
theorem mod_hi (x : Int) {m : Int} (h : 0 < m) : x % m < m := Int.emod_lt_of_pos x h
theorem div_small {i j : Int} (h : 0 < j) (h2 : j < 2 ^ 64) : CDivW i j := wide_div (b := 64) h (by omega) (by decide) (by decide)
end S
namespace S
open PySem PySem.Spec PyProof.Rows L2
/-! the rules that lean on the written part, with its own name -/
section
variable {X : Cx} {K : Frag}
theorem ixK (hK : X.K = K) : IxR X (rIx K) := hK ▸ ix_seq
theorem lenK (hK : X.K = K) : CallR X (.builtin "len") (rLen K) := hK ▸ call_len
theorem isiK (hK : X.K = K) : CallR X (.builtin "isinstance") (rIsi K) := hK ▸ call_isi
theorem isiTK (hK : X.K = K) : CallR X (.builtin "isinstance") (rIsiT K) := hK ▸ call_isiT
theorem inK (hK : X.K = K) : OpR X (compareOp .In) (rIn K false) := hK ▸ op_in_seq
theorem notInK (hK : X.K = K) : OpR X (compareOp .NotIn) (rIn K true) := hK ▸ op_notIn_seq
theorem eqDK (hK : X.K = K) (hu : X.A.units + 64 < cLine) : OpR X (compareOp .Eq) (rEqD K) := hK ▸ op_eqD hu
theorem neDK (hK : X.K = K) (hu : X.A.units + 64 < cLine) : OpR X (compareOp .NotEq) (rNeD K) := hK ▸ op_neD hu
theorem slLK (hK : X.K = K) : SlR X (rSlL K) := hK ▸ sl_list
theorem slTK (hK : X.K = K) : SlR X (rSlT K) := hK ▸ sl_tup
variable {e o l value tg a : Expr} {es : List Expr} {ta tv tl : TE} {f : Str} {pos pos' : Pos}
theorem pe_fldK (hK : X.K = K) (he : PE X e ta) (hb : attributeBase e f X.env (eval e X.env) = eval e X.env) : PE X (.Attribute e f pos) (tFld K ta f) := hK ▸ pe_fld he hb
theorem ps_fldK (hK : X.K = K) (ha : PE X o ta) (hv : PE X value tv) (hs : swapsWith value (some (.Attribute o f pos')) pos.line X.env = pure false) : PS X (.Assign [.Attribute o f pos'] value pos) (sFld K ta tv f) := hK ▸ ps_fld ha hv hs
theorem ps_ostK (hK : X.K = K) (ha : PE X o ta) (hv : PE X value tv) (hs : swapsWith value (some (.Attribute o f pos')) pos.line X.env = pure false) : PS X (.Assign [.Attribute o f pos'] value pos) (tOst K f ta tv) := hK ▸ ps_ost ha hv hs
theorem pe_slK (hK : X.K = K) (he : PE X e ta) (hb : attributeBase e f X.env (eval e X.env) = eval e X.env) : PE X (.Attribute e f pos) (SlX.tSl K ta f) := hK ▸ SlX.pe_sl he hb
theorem ps_slK (hK : X.K = K) (ha : PE X o ta) (hv : PE X value tv) (hs : swapsWith value (some (.Attribute o f pos')) pos.line X.env = pure false) : PS X (.Assign [.Attribute o f pos'] value pos) (SlX.sSl K ta tv f) := hK ▸ SlX.ps_sl ha hv hs
theorem pi_listK (hK : X.K = K) (hl : PE X l tl) : PI X tg l (iList K tl) := hK ▸ pi_list hl
theorem pi_tupK (hK : X.K = K) (hl : PE X l tl) : PI X tg l (iTup K tl) := hK ▸ pi_tup hl
def tTruK (K : Frag) (ta : TE) : TT := fun σ H Q => ta σ H fun x H' => ∃ k, TruV K x H' k ∧ Q k H'
theorem pt_truthK (hK : X.K = K) (ha : PE X a ta) (he : ∀ whole, isTrue a X.env whole = (do let v ← whole; standAt a.pos; holding [v] (truthy v))) : PT X a (tTruK K ta) := by
  subst hK
  exact pt_truth ha he
end
end S
namespace S
open PySem PySem.Spec PyProof.Rows L2
/-! flat data: None, bools, ints, texts -/
def sca : V → Bool
  | .non => true
  | .bl _ => true
  | .int _ => true
  | .str x => PyData.strOk x
  | _ => false
def dat : V → PyData
  | .bl b => .bool b
  | .int i => .int i
  | .str x => .str x
  | _ => .none
theorem dp_dat {K : Frag} {H : Hp} {v : V} (h : sca v = true) : Dp K H v (dat v) := by
  cases v with
  | non => exact .non
  | bl b => exact .bl b
  | int i => exact .int i
  | str x => exact .str x
  | _ => cases h
theorem dpAll_dat {K : Frag} {H : Hp} : ∀ {vs : List V}, vs.all sca = true → DpAll K H vs (vs.map dat)
  | [], _ => .nil
  | v :: vs, h => by
    rw [List.all_cons, Bool.and_eq_true] at h
    exact .cons (dp_dat h.1) (dpAll_dat h.2)
theorem lay_dat {v : V} (h : sca v = true) : (dat v).canLay0 = true := by
  cases v with
  | str x => simpa [dat, PyData.canLay0, sca] using h
  | _ => simp [dat, PyData.canLay0]
theorem layAll_dat : ∀ {vs : List V}, vs.all sca = true → PyData.canLayAll0 (vs.map dat) = true
  | [], _ => rfl
  | v :: vs, h => by
    rw [List.all_cons, Bool.and_eq_true] at h
    simp [PyData.canLayAll0, lay_dat h.1, layAll_dat h.2]
theorem depth_dat (v : V) : (dat v).depth = 0 := by cases v <;> simp [dat, PyData.depth]
theorem depthAll_dat : ∀ (vs : List V), PyData.depthAll (vs.map dat) = 0
  | [] => rfl
  | v :: vs => by simp [PyData.depthAll, depth_dat, depthAll_dat vs]
theorem shaped_list {vs : List V} (h : vs.all sca = true) : SeqAt.shaped (.list (vs.map dat)) = true := by
  simp [SeqAt.shaped, PyData.canLay0, layAll_dat h, PyData.depth, depthAll_dat]
theorem shaped_tup {vs : List V} (h : vs.all sca = true) : SeqAt.shaped (.tuple (vs.map dat)) = true := by
  simp [SeqAt.shaped, PyData.canLay0, layAll_dat h, PyData.depth, depthAll_dat]
theorem eqv_refl (v : V) : PyData.eqv (dat v) (dat v) = true := by cases v <;> simp [dat, PyData.eqv]
theorem eqvAll_refl : ∀ (vs : List V), PyData.eqvAll (vs.map dat) (vs.map dat) = true
  | [] => rfl
  | v :: vs => by simp [PyData.eqvAll, eqv_refl, eqvAll_refl vs]
theorem rEqL {K : Frag} {H : Hp} {a b : Addr} {xs ys : List V} {Q : VK} (ha : SqL K H a xs) (hb : SqL K H b ys) (hx : xs.all sca = true) (hy : ys.all sca = true) (q : Q (.bl (PyData.eqvAll (xs.map dat) (ys.map dat))) H) : rEqD K (.ref a) (.ref b) H Q :=
  ⟨_, _, .lst ha (dpAll_dat hx), .lst hb (dpAll_dat hy), shaped_list hx, shaped_list hy, by simpa only [PyData.eqv] using q⟩
theorem rEqT {K : Frag} {H : Hp} {a b : Addr} {xs ys : List V} {Q : VK} (ha : SqT K H a xs) (hb : SqT K H b ys) (hx : xs.all sca = true) (hy : ys.all sca = true) (q : Q (.bl (PyData.eqvAll (xs.map dat) (ys.map dat))) H) : rEqD K (.ref a) (.ref b) H Q :=
  ⟨_, _, .tup ha (dpAll_dat hx), .tup hb (dpAll_dat hy), shaped_tup hx, shaped_tup hy, by simpa only [PyData.eqv] using q⟩
theorem rEqL_true {K : Frag} {H : Hp} {a b : Addr} {xs : List V} {Q : VK} (ha : SqL K H a xs) (hb : SqL K H b xs) (hx : xs.all sca = true) (q : Q (.bl true) H) : rEqD K (.ref a) (.ref b) H Q := rEqL ha hb hx hx (by rw [eqvAll_refl]; exact q)
theorem rEqT_true {K : Frag} {H : Hp} {a b : Addr} {xs : List V} {Q : VK} (ha : SqT K H a xs) (hb : SqT K H b xs) (hx : xs.all sca = true) (q : Q (.bl true) H) : rEqD K (.ref a) (.ref b) H Q := rEqT ha hb hx hx (by rw [eqvAll_refl]; exact q)
/-- a def with all its parameters written, by positional values -/
theorem raw_of {P : Program} {w : World} {K : Frag} {mg : Str → Option Value} {base : Heap} {CX : CXT} {k n : Nat} {f : Addr} {fd : FuncData} {ps : List Str} {sp : Sp} (F : FnOk P w K mg base CX k f fd ps sp)
    (hb : KBn K fd ps n [] (fun us _ => us ++ []) (fun vs _ => vs ++ [])) (hn : n = ps.length := by rfl) : FnR P w K mg base CX k f sp := by
  refine (F.raw (ds := []) (dvs := []) (fun s us k hl => ?_) .nil).imp fun vs H Q E h => ?_
  · exact hb.to s us [] k (by rw [List.append_nil] at hl; rw [hl, hn]) rfl
  · rw [List.append_nil]
    exact h
theorem hu64 {A : Around} {k : Nat} (hr : Room k A) : A.units + 64 < cLine := by have := hr.un; omega
end S
namespace W
open PySem PySem.Spec PyProof.Rows L2
def top (i : Nat) : Stmt := PySem.Challenge.pw_seenshares_k10_sampler.main.body.getD i (.Pass ⟨0, 0, 0, 0⟩)
abbrev s_is_integer : Stmt := top 1
theorem sc_is_integer : FnScope ["value"] ["value"] (defScope s_is_integer) := by
  refine ⟨rfl, rfl, rfl, ?_, rfl, ?_, ?_⟩ <;> decide +kernel
abbrev d_is_integer : He.DefD := ⟨("is_integer", none), "is_integer", "is_integer", defArgs s_is_integer, defBody s_is_integer, defScope s_is_integer, [], []⟩
abbrev s_is_within : Stmt := top 2
theorem sc_is_within : FnScope ["value", "low", "high"] ["value", "low", "high"] (defScope s_is_within) := by
  refine ⟨rfl, rfl, rfl, ?_, rfl, ?_, ?_⟩ <;> decide +kernel
abbrev d_is_within : He.DefD := ⟨("is_within", none), "is_within", "is_within", defArgs s_is_within, defBody s_is_within, defScope s_is_within, [], []⟩
abbrev s_BadPlace___init__ : Stmt := inClass (top 5) 0
theorem sc_BadPlace___init__ : FnScope ["self", "why"] ["self", "why"] (defScope s_BadPlace___init__) := by
  refine ⟨rfl, rfl, rfl, ?_, rfl, ?_, ?_⟩ <;> decide +kernel
abbrev d_BadPlace___init__ : He.DefD := ⟨("BadPlace", some "__init__"), "__init__", "BadPlace.__init__", defArgs s_BadPlace___init__, defBody s_BadPlace___init__, defScope s_BadPlace___init__, [], []⟩
abbrev s_BadSampler___init__ : Stmt := inClass (top 6) 0
theorem sc_BadSampler___init__ : FnScope ["self", "why"] ["self", "why"] (defScope s_BadSampler___init__) := by
  refine ⟨rfl, rfl, rfl, ?_, rfl, ?_, ?_⟩ <;> decide +kernel
abbrev d_BadSampler___init__ : He.DefD := ⟨("BadSampler", some "__init__"), "__init__", "BadSampler.__init__", defArgs s_BadSampler___init__, defBody s_BadSampler___init__, defScope s_BadSampler___init__, [], []⟩
abbrev s_new_value : Stmt := top 9
theorem sc_new_value : FnScope ["value", "old"] ["value", "old"] (defScope s_new_value) := by
  refine ⟨rfl, rfl, rfl, ?_, rfl, ?_, ?_⟩ <;> decide +kernel
abbrev d_new_value : He.DefD := ⟨("new_value", none), "new_value", "new_value", defArgs s_new_value, defBody s_new_value, defScope s_new_value, [], []⟩
abbrev s_Sampler___init__ : Stmt := inClass (top 10) 0
theorem sc_Sampler___init__ : FnScope ["self", "period", "jitter", "phase"] ["self", "period", "jitter", "phase"] (defScope s_Sampler___init__) := by
  refine ⟨rfl, rfl, rfl, ?_, rfl, ?_, ?_⟩ <;> decide +kernel
abbrev d_Sampler___init__ : He.DefD := ⟨("Sampler", some "__init__"), "__init__", "Sampler.__init__", defArgs s_Sampler___init__, defBody s_Sampler___init__, defScope s_Sampler___init__, [.int 0], [("phase", .int 0)]⟩
abbrev s_Sampler_with_values : Stmt := inClass (top 10) 1
theorem sc_Sampler_with_values : FnScope ["self", "period", "jitter", "phase"] ["self", "period", "jitter", "phase"] (defScope s_Sampler_with_values) := by
  refine ⟨rfl, rfl, rfl, ?_, rfl, ?_, ?_⟩ <;> decide +kernel
abbrev d_Sampler_with_values : He.DefD := ⟨("Sampler", some "with_values"), "with_values", "Sampler.with_values", defArgs s_Sampler_with_values, defBody s_Sampler_with_values, defScope s_Sampler_with_values, [], [("period", .int (-1)), ("jitter", .int (-1)), ("phase", .int (-1))]⟩
abbrev s_Sampler___eq__ : Stmt := inClass (top 10) 2
theorem sc_Sampler___eq__ : FnScope ["self", "other"] ["self", "other"] (defScope s_Sampler___eq__) := by
  refine ⟨rfl, rfl, rfl, ?_, rfl, ?_, ?_⟩ <;> decide +kernel
abbrev d_Sampler___eq__ : He.DefD := ⟨("Sampler", some "__eq__"), "__eq__", "Sampler.__eq__", defArgs s_Sampler___eq__, defBody s_Sampler___eq__, defScope s_Sampler___eq__, [], []⟩
abbrev s__law_cell : Stmt := top 12
theorem sc__law_cell : FnScope ["_law_script", "_law_k", "_law_cell_here", "_law_number", "_law_total", "_law_step"] ["_law_script", "_law_k"] (defScope s__law_cell) := by
  refine ⟨rfl, rfl, rfl, ?_, rfl, ?_, ?_⟩ <;> decide +kernel
abbrev d__law_cell : He.DefD := ⟨("_law_cell", none), "_law_cell", "_law_cell", defArgs s__law_cell, defBody s__law_cell, defScope s__law_cell, [], []⟩
abbrev s__law_take : Stmt := top 13
theorem sc__law_take : FnScope ["_law_draw", "_law_size", "_law_taken"] ["_law_draw", "_law_size"] (defScope s__law_take) := by
  refine ⟨rfl, rfl, rfl, ?_, rfl, ?_, ?_⟩ <;> decide +kernel
abbrev d__law_take : He.DefD := ⟨("_law_take", none), "_law_take", "_law_take", defArgs s__law_take, defBody s__law_take, defScope s__law_take, [], []⟩
abbrev s__law_is_integer : Stmt := top 14
theorem sc__law_is_integer : FnScope ["_law_value_here"] ["_law_value_here"] (defScope s__law_is_integer) := by
  refine ⟨rfl, rfl, rfl, ?_, rfl, ?_, ?_⟩ <;> decide +kernel
abbrev d__law_is_integer : He.DefD := ⟨("_law_is_integer", none), "_law_is_integer", "_law_is_integer", defArgs s__law_is_integer, defBody s__law_is_integer, defScope s__law_is_integer, [], []⟩
abbrev s__law_odd : Stmt := top 15
theorem sc__law_odd : FnScope ["_law_draw"] ["_law_draw"] (defScope s__law_odd) := by
  refine ⟨rfl, rfl, rfl, ?_, rfl, ?_, ?_⟩ <;> decide +kernel
abbrev d__law_odd : He.DefD := ⟨("_law_odd", none), "_law_odd", "_law_odd", defArgs s__law_odd, defBody s__law_odd, defScope s__law_odd, [], []⟩
abbrev s__law_value : Stmt := top 16
theorem sc__law_value : FnScope ["_law_draw", "_law_most", "_law_kind"] ["_law_draw", "_law_most"] (defScope s__law_value) := by
  refine ⟨rfl, rfl, rfl, ?_, rfl, ?_, ?_⟩ <;> decide +kernel
abbrev d__law_value : He.DefD := ⟨("_law_value", none), "_law_value", "_law_value", defArgs s__law_value, defBody s__law_value, defScope s__law_value, [], []⟩
abbrev s__law_due : Stmt := top 17
theorem sc__law_due : FnScope ["_law_spec"] ["_law_spec"] (defScope s__law_due) := by
  refine ⟨rfl, rfl, rfl, ?_, rfl, ?_, ?_⟩ <;> decide +kernel
abbrev d__law_due : He.DefD := ⟨("_law_due", none), "_law_due", "_law_due", defArgs s__law_due, defBody s__law_due, defScope s__law_due, [], []⟩
abbrev s__law_made : Stmt := top 18
theorem sc__law_made : FnScope ["_law_spec", "_law_outcome", "e"] ["_law_spec"] (defScope s__law_made) := by
  refine ⟨rfl, rfl, rfl, ?_, rfl, ?_, ?_⟩ <;> decide +kernel
abbrev d__law_made : He.DefD := ⟨("_law_made", none), "_law_made", "_law_made", defArgs s__law_made, defBody s__law_made, defScope s__law_made, [], []⟩
abbrev s__law_turned : Stmt := top 19
theorem sc__law_turned : FnScope ["_law_sampler", "_law_parts", "_law_outcome", "e"] ["_law_sampler", "_law_parts"] (defScope s__law_turned) := by
  refine ⟨rfl, rfl, rfl, ?_, rfl, ?_, ?_⟩ <;> decide +kernel
abbrev d__law_turned : He.DefD := ⟨("_law_turned", none), "_law_turned", "_law_turned", defArgs s__law_turned, defBody s__law_turned, defScope s__law_turned, [], []⟩
abbrev s__law_fits : Stmt := top 20
theorem sc__law_fits : FnScope ["_law_outcome", "_law_spec", "_law_due_here"] ["_law_outcome", "_law_spec"] (defScope s__law_fits) := by
  refine ⟨rfl, rfl, rfl, ?_, rfl, ?_, ?_⟩ <;> decide +kernel
abbrev d__law_fits : He.DefD := ⟨("_law_fits", none), "_law_fits", "_law_fits", defArgs s__law_fits, defBody s__law_fits, defScope s__law_fits, [], []⟩
abbrev s__law_kept : Stmt := top 21
theorem sc__law_kept : FnScope ["_law_old", "_law_part"] ["_law_old", "_law_part"] (defScope s__law_kept) := by
  refine ⟨rfl, rfl, rfl, ?_, rfl, ?_, ?_⟩ <;> decide +kernel
abbrev d__law_kept : He.DefD := ⟨("_law_kept", none), "_law_kept", "_law_kept", defArgs s__law_kept, defBody s__law_kept, defScope s__law_kept, [], []⟩
abbrev s_law : Stmt := top 22
theorem sc_law : FnScope ["_law_script", "_law_draw", "_law_spec", "_law_outcome", "_law_sampler", "_law_k", "_law_parts", "_law_after", "_law_j"] ["_law_script"] (defScope s_law) := by
  refine ⟨rfl, rfl, rfl, ?_, rfl, ?_, ?_⟩ <;> decide +kernel
abbrev d_law : He.DefD := ⟨("law", none), "law", "law", defArgs s_law, defBody s_law, defScope s_law, [], []⟩
def fns : List He.DefD := [d_is_integer, d_is_within, d_BadPlace___init__, d_BadSampler___init__, d_new_value, d_Sampler___init__, d_Sampler_with_values, d_Sampler___eq__, d__law_cell, d__law_take, d__law_is_integer, d__law_odd, d__law_value, d__law_due, d__law_made, d__law_turned, d__law_fits, d__law_kept, d_law]
def cks : List S.Ck := [
  (He.Fa.glo "is_integer").ok,
  (He.Fa.glo "is_within").ok,
  (He.Fa.glo "new_value").ok,
  (He.Fa.glo "_law_cell").ok,
  (He.Fa.glo "_law_take").ok,
  (He.Fa.glo "_law_is_integer").ok,
  (He.Fa.glo "_law_odd").ok,
  (He.Fa.glo "_law_value").ok,
  (He.Fa.glo "_law_due").ok,
  (He.Fa.glo "_law_made").ok,
  (He.Fa.glo "_law_turned").ok,
  (He.Fa.glo "_law_fits").ok,
  (He.Fa.glo "_law_kept").ok,
  (He.Fa.glo "law").ok,
  (He.Fa.glo "SeenError").ok,
  (He.Fa.glo "BadPlace").ok,
  (He.Fa.glo "BadSampler").ok,
  (He.Fa.glo "Sampler").ok,
  (He.Fa.free "int").ok,
  (He.Fa.free "bool").ok,
  (He.Fa.free "isinstance").ok,
  (He.Fa.free "len").ok,
  (He.Fa.free "range").ok,
  (He.Fa.int "MOST_PERIOD" 8).ok,
  (fun K => S.oexB K (He.ga K "SeenError")),
  (fun K => S.excB K (He.ga K "SeenError")),
  (fun K => xfB K (He.ga K "SeenError")),
  (He.Fa.exm "SeenError" "SeenError" true).ok,
  (fun K => decide (PySem.W.kitOne K (.ref (He.ga K "SeenError")) (.ref (He.ga K "SeenError")) = some true)),
  (He.Fa.exm "SeenError" "BadPlace" false).ok,
  (fun K => decide (PySem.W.kitOne K (.ref (He.ga K "SeenError")) (.ref (He.ga K "BadPlace")) = some false)),
  (He.Fa.exm "SeenError" "BadSampler" false).ok,
  (fun K => decide (PySem.W.kitOne K (.ref (He.ga K "SeenError")) (.ref (He.ga K "BadSampler")) = some false)),
  (fun K => S.oexB K (He.ga K "BadPlace")),
  (fun K => S.excB K (He.ga K "BadPlace")),
  (fun K => xfB K (He.ga K "BadPlace")),
  (fun K => He.eqO (PySem.W.findIn K (.ref (He.ga K "BadPlace")) "__init__") (some (some (.ref (He.ma K (He.ga K "BadPlace") "__init__"))))),
  (fun K => decide (PySem.W.typeIn K (.ref (He.ma K (He.ga K "BadPlace") "__init__")) = some (.type "function"))),
  (fun K => He.eqO (PySem.W.findIn K (.ref (He.ga K "BadPlace")) "why") (some none)),
  (He.Fa.exm "BadPlace" "SeenError" true).ok,
  (fun K => decide (PySem.W.kitOne K (.ref (He.ga K "BadPlace")) (.ref (He.ga K "SeenError")) = some true)),
  (He.Fa.exm "BadPlace" "BadPlace" true).ok,
  (fun K => decide (PySem.W.kitOne K (.ref (He.ga K "BadPlace")) (.ref (He.ga K "BadPlace")) = some true)),
  (He.Fa.exm "BadPlace" "BadSampler" false).ok,
  (fun K => decide (PySem.W.kitOne K (.ref (He.ga K "BadPlace")) (.ref (He.ga K "BadSampler")) = some false)),
  (fun K => S.oexB K (He.ga K "BadSampler")),
  (fun K => S.excB K (He.ga K "BadSampler")),
  (fun K => xfB K (He.ga K "BadSampler")),
  (fun K => He.eqO (PySem.W.findIn K (.ref (He.ga K "BadSampler")) "__init__") (some (some (.ref (He.ma K (He.ga K "BadSampler") "__init__"))))),
  (fun K => decide (PySem.W.typeIn K (.ref (He.ma K (He.ga K "BadSampler") "__init__")) = some (.type "function"))),
  (fun K => He.eqO (PySem.W.findIn K (.ref (He.ga K "BadSampler")) "why") (some none)),
  (He.Fa.exm "BadSampler" "SeenError" true).ok,
  (fun K => decide (PySem.W.kitOne K (.ref (He.ga K "BadSampler")) (.ref (He.ga K "SeenError")) = some true)),
  (He.Fa.exm "BadSampler" "BadPlace" false).ok,
  (fun K => decide (PySem.W.kitOne K (.ref (He.ga K "BadSampler")) (.ref (He.ga K "BadPlace")) = some false)),
  (He.Fa.exm "BadSampler" "BadSampler" true).ok,
  (fun K => decide (PySem.W.kitOne K (.ref (He.ga K "BadSampler")) (.ref (He.ga K "BadSampler")) = some true)),
  (He.Fa.cls "Sampler").ok,
  (He.Fa.mkr "Sampler").ok,
  (He.Fa.noat "Sampler" "period").ok,
  (He.Fa.noat "Sampler" "jitter").ok,
  (He.Fa.noat "Sampler" "phase").ok,
  (He.Fa.meth "Sampler" "__init__").ok,
  (He.Fa.meth "Sampler" "with_values").ok,
  (He.Fa.meth "Sampler" "__eq__").ok,
  (fun K => S.insB K (He.ga K "Sampler")),
  (fun K => decide (PySem.W.kitOne K (.ref (He.ga K "Sampler")) (.type "int") = some false)),
  (fun K => decide (PySem.W.kitOne K (.ref (He.ga K "Sampler")) (.type "bool") = some false)),
  (fun K => decide (PySem.W.kitOne K (.ref (He.ga K "Sampler")) (.type "str") = some false)),
  (fun K => decide (PySem.W.kitOne K (.ref (He.ga K "Sampler")) (.type "list") = some false)),
  (fun K => decide (PySem.W.kitOne K (.ref (He.ga K "Sampler")) (.type "tuple") = some false)),
  (fun K => decide (PySem.W.kitOne K (.ref (He.ga K "Sampler")) (.type "dict") = some false)),
  (fun K => decide (PySem.W.kitOne K (.ref (He.ga K "Sampler")) (.ref (He.ga K "Sampler")) = some true)),
  (fun K => decide (PySem.W.kitOne K (.type "int") (.ref (He.ga K "Sampler")) = some false)),
  (fun K => decide (PySem.W.kitOne K (.type "bool") (.ref (He.ga K "Sampler")) = some false)),
  (fun K => decide (PySem.W.kitOne K (.type "str") (.ref (He.ga K "Sampler")) = some false)),
  (fun K => decide (PySem.W.kitOne K (.type "list") (.ref (He.ga K "Sampler")) = some false)),
  (fun K => decide (PySem.W.kitOne K (.type "tuple") (.ref (He.ga K "Sampler")) = some false)),
  (fun K => decide (PySem.W.kitOne K (.type "dict") (.ref (He.ga K "Sampler")) = some false)),
  (fun K => decide (PySem.W.kitOne K (.type "NoneType") (.ref (He.ga K "Sampler")) = some false)),
  (fun K => He.eqO (PySem.W.findIn K (.ref (He.ga K "Sampler")) "__ne__") (some (some (.builtin "object.__ne__"))))]
structure Txt (K : S.Frag) (mg : Str → Option Value) : Prop where
  F_is_integer : S.FunA K d_is_integer
  F_is_within : S.FunA K d_is_within
  F_BadPlace___init__ : S.FunA K d_BadPlace___init__
  F_BadSampler___init__ : S.FunA K d_BadSampler___init__
  F_new_value : S.FunA K d_new_value
  F_Sampler___init__ : S.FunA K d_Sampler___init__
  F_Sampler_with_values : S.FunA K d_Sampler_with_values
  F_Sampler___eq__ : S.FunA K d_Sampler___eq__
  F__law_cell : S.FunA K d__law_cell
  F__law_take : S.FunA K d__law_take
  F__law_is_integer : S.FunA K d__law_is_integer
  F__law_odd : S.FunA K d__law_odd
  F__law_value : S.FunA K d__law_value
  F__law_due : S.FunA K d__law_due
  F__law_made : S.FunA K d__law_made
  F__law_turned : S.FunA K d__law_turned
  F__law_fits : S.FunA K d__law_fits
  F__law_kept : S.FunA K d__law_kept
  F_law : S.FunA K d_law
  g_is_integer : mg "is_integer" = some (.ref (He.ga K "is_integer"))
  g_is_within : mg "is_within" = some (.ref (He.ga K "is_within"))
  g_new_value : mg "new_value" = some (.ref (He.ga K "new_value"))
  g__law_cell : mg "_law_cell" = some (.ref (He.ga K "_law_cell"))
  g__law_take : mg "_law_take" = some (.ref (He.ga K "_law_take"))
  g__law_is_integer : mg "_law_is_integer" = some (.ref (He.ga K "_law_is_integer"))
  g__law_odd : mg "_law_odd" = some (.ref (He.ga K "_law_odd"))
  g__law_value : mg "_law_value" = some (.ref (He.ga K "_law_value"))
  g__law_due : mg "_law_due" = some (.ref (He.ga K "_law_due"))
  g__law_made : mg "_law_made" = some (.ref (He.ga K "_law_made"))
  g__law_turned : mg "_law_turned" = some (.ref (He.ga K "_law_turned"))
  g__law_fits : mg "_law_fits" = some (.ref (He.ga K "_law_fits"))
  g__law_kept : mg "_law_kept" = some (.ref (He.ga K "_law_kept"))
  g_law : mg "law" = some (.ref (He.ga K "law"))
  g_SeenError : mg "SeenError" = some (.ref (He.ga K "SeenError"))
  g_BadPlace : mg "BadPlace" = some (.ref (He.ga K "BadPlace"))
  g_BadSampler : mg "BadSampler" = some (.ref (He.ga K "BadSampler"))
  g_Sampler : mg "Sampler" = some (.ref (He.ga K "Sampler"))
  n_int : mg "int" = none
  n_bool : mg "bool" = none
  n_isinstance : mg "isinstance" = none
  n_len : mg "len" = none
  n_range : mg "range" = none
  c_MOST_PERIOD : ∃ t, mg "MOST_PERIOD" = some (.int 8 t)
  ox_SeenError : OexC K (He.ga K "SeenError")
  xc_SeenError : ExcC K (He.ga K "SeenError")
  xf_SeenError : XfC K (He.ga K "SeenError")
  xm_SeenError_SeenError : PySem.W.exmOne K (.ref (He.ga K "SeenError")) (.ref (He.ga K "SeenError")) = some true
  xk_SeenError_SeenError : PySem.W.kitOne K (.ref (He.ga K "SeenError")) (.ref (He.ga K "SeenError")) = some true
  xm_SeenError_BadPlace : PySem.W.exmOne K (.ref (He.ga K "SeenError")) (.ref (He.ga K "BadPlace")) = some false
  xk_SeenError_BadPlace : PySem.W.kitOne K (.ref (He.ga K "SeenError")) (.ref (He.ga K "BadPlace")) = some false
  xm_SeenError_BadSampler : PySem.W.exmOne K (.ref (He.ga K "SeenError")) (.ref (He.ga K "BadSampler")) = some false
  xk_SeenError_BadSampler : PySem.W.kitOne K (.ref (He.ga K "SeenError")) (.ref (He.ga K "BadSampler")) = some false
  ox_BadPlace : OexC K (He.ga K "BadPlace")
  xc_BadPlace : ExcC K (He.ga K "BadPlace")
  xf_BadPlace : XfC K (He.ga K "BadPlace")
  xi_BadPlace : PySem.W.findIn K (.ref (He.ga K "BadPlace")) "__init__" = some (some (.ref (He.ma K (He.ga K "BadPlace") "__init__")))
  xt_BadPlace : PySem.W.typeIn K (.ref (He.ma K (He.ga K "BadPlace") "__init__")) = some (.type "function")
  xn_BadPlace_why : PySem.W.findIn K (.ref (He.ga K "BadPlace")) "why" = some none
  xm_BadPlace_SeenError : PySem.W.exmOne K (.ref (He.ga K "BadPlace")) (.ref (He.ga K "SeenError")) = some true
  xk_BadPlace_SeenError : PySem.W.kitOne K (.ref (He.ga K "BadPlace")) (.ref (He.ga K "SeenError")) = some true
  xm_BadPlace_BadPlace : PySem.W.exmOne K (.ref (He.ga K "BadPlace")) (.ref (He.ga K "BadPlace")) = some true
  xk_BadPlace_BadPlace : PySem.W.kitOne K (.ref (He.ga K "BadPlace")) (.ref (He.ga K "BadPlace")) = some true
  xm_BadPlace_BadSampler : PySem.W.exmOne K (.ref (He.ga K "BadPlace")) (.ref (He.ga K "BadSampler")) = some false
  xk_BadPlace_BadSampler : PySem.W.kitOne K (.ref (He.ga K "BadPlace")) (.ref (He.ga K "BadSampler")) = some false
  ox_BadSampler : OexC K (He.ga K "BadSampler")
  xc_BadSampler : ExcC K (He.ga K "BadSampler")
  xf_BadSampler : XfC K (He.ga K "BadSampler")
  xi_BadSampler : PySem.W.findIn K (.ref (He.ga K "BadSampler")) "__init__" = some (some (.ref (He.ma K (He.ga K "BadSampler") "__init__")))
  xt_BadSampler : PySem.W.typeIn K (.ref (He.ma K (He.ga K "BadSampler") "__init__")) = some (.type "function")
  xn_BadSampler_why : PySem.W.findIn K (.ref (He.ga K "BadSampler")) "why" = some none
  xm_BadSampler_SeenError : PySem.W.exmOne K (.ref (He.ga K "BadSampler")) (.ref (He.ga K "SeenError")) = some true
  xk_BadSampler_SeenError : PySem.W.kitOne K (.ref (He.ga K "BadSampler")) (.ref (He.ga K "SeenError")) = some true
  xm_BadSampler_BadPlace : PySem.W.exmOne K (.ref (He.ga K "BadSampler")) (.ref (He.ga K "BadPlace")) = some false
  xk_BadSampler_BadPlace : PySem.W.kitOne K (.ref (He.ga K "BadSampler")) (.ref (He.ga K "BadPlace")) = some false
  xm_BadSampler_BadSampler : PySem.W.exmOne K (.ref (He.ga K "BadSampler")) (.ref (He.ga K "BadSampler")) = some true
  xk_BadSampler_BadSampler : PySem.W.kitOne K (.ref (He.ga K "BadSampler")) (.ref (He.ga K "BadSampler")) = some true
  cl_Sampler : Cls K (He.ga K "Sampler")
  mk_Sampler : Mk K (He.ga K "Sampler") (He.ma K (He.ga K "Sampler") "__init__")
  na_Sampler_period : NoAttr K (He.ga K "Sampler") "period"
  na_Sampler_jitter : NoAttr K (He.ga K "Sampler") "jitter"
  na_Sampler_phase : NoAttr K (He.ga K "Sampler") "phase"
  me_Sampler___init__ : Meth K (He.ga K "Sampler") "__init__" (He.ma K (He.ga K "Sampler") "__init__")
  me_Sampler_with_values : Meth K (He.ga K "Sampler") "with_values" (He.ma K (He.ga K "Sampler") "with_values")
  me_Sampler___eq__ : Meth K (He.ga K "Sampler") "__eq__" (He.ma K (He.ga K "Sampler") "__eq__")
  is_Sampler : S.InsT K (He.ga K "Sampler")
  kt_Sampler_int : PySem.W.kitOne K (.ref (He.ga K "Sampler")) (.type "int") = some false
  kt_Sampler_bool : PySem.W.kitOne K (.ref (He.ga K "Sampler")) (.type "bool") = some false
  kt_Sampler_str : PySem.W.kitOne K (.ref (He.ga K "Sampler")) (.type "str") = some false
  kt_Sampler_list : PySem.W.kitOne K (.ref (He.ga K "Sampler")) (.type "list") = some false
  kt_Sampler_tuple : PySem.W.kitOne K (.ref (He.ga K "Sampler")) (.type "tuple") = some false
  kt_Sampler_dict : PySem.W.kitOne K (.ref (He.ga K "Sampler")) (.type "dict") = some false
  ko_Sampler_Sampler : PySem.W.kitOne K (.ref (He.ga K "Sampler")) (.ref (He.ga K "Sampler")) = some true
  kb_Sampler_int : PySem.W.kitOne K (.type "int") (.ref (He.ga K "Sampler")) = some false
  kb_Sampler_bool : PySem.W.kitOne K (.type "bool") (.ref (He.ga K "Sampler")) = some false
  kb_Sampler_str : PySem.W.kitOne K (.type "str") (.ref (He.ga K "Sampler")) = some false
  kb_Sampler_list : PySem.W.kitOne K (.type "list") (.ref (He.ga K "Sampler")) = some false
  kb_Sampler_tuple : PySem.W.kitOne K (.type "tuple") (.ref (He.ga K "Sampler")) = some false
  kb_Sampler_dict : PySem.W.kitOne K (.type "dict") (.ref (He.ga K "Sampler")) = some false
  kb_Sampler_NoneType : PySem.W.kitOne K (.type "NoneType") (.ref (He.ga K "Sampler")) = some false
  ne_Sampler : PySem.W.findIn K (.ref (He.ga K "Sampler")) "__ne__" = some (some (.builtin "object.__ne__"))
theorem txt_of {K : S.Frag} {h : Heap} {mg : Str → Option Value} (X : K.In h) (G : h.Ns mainGlobals mg) (c : S.SaysX cks fns K) : Txt K mg where
  F_is_integer := c.def_ 0
  F_is_within := c.def_ 1
  F_BadPlace___init__ := c.def_ 2
  F_BadSampler___init__ := c.def_ 3
  F_new_value := c.def_ 4
  F_Sampler___init__ := c.def_ 5
  F_Sampler_with_values := c.def_ 6
  F_Sampler___eq__ := c.def_ 7
  F__law_cell := c.def_ 8
  F__law_take := c.def_ 9
  F__law_is_integer := c.def_ 10
  F__law_odd := c.def_ 11
  F__law_value := c.def_ 12
  F__law_due := c.def_ 13
  F__law_made := c.def_ 14
  F__law_turned := c.def_ 15
  F__law_fits := c.def_ 16
  F__law_kept := c.def_ 17
  F_law := c.def_ 18
  g_is_integer := He.glo_ok X G (c.fact 0)
  g_is_within := He.glo_ok X G (c.fact 1)
  g_new_value := He.glo_ok X G (c.fact 2)
  g__law_cell := He.glo_ok X G (c.fact 3)
  g__law_take := He.glo_ok X G (c.fact 4)
  g__law_is_integer := He.glo_ok X G (c.fact 5)
  g__law_odd := He.glo_ok X G (c.fact 6)
  g__law_value := He.glo_ok X G (c.fact 7)
  g__law_due := He.glo_ok X G (c.fact 8)
  g__law_made := He.glo_ok X G (c.fact 9)
  g__law_turned := He.glo_ok X G (c.fact 10)
  g__law_fits := He.glo_ok X G (c.fact 11)
  g__law_kept := He.glo_ok X G (c.fact 12)
  g_law := He.glo_ok X G (c.fact 13)
  g_SeenError := He.glo_ok X G (c.fact 14)
  g_BadPlace := He.glo_ok X G (c.fact 15)
  g_BadSampler := He.glo_ok X G (c.fact 16)
  g_Sampler := He.glo_ok X G (c.fact 17)
  n_int := He.free_ok X G (c.fact 18)
  n_bool := He.free_ok X G (c.fact 19)
  n_isinstance := He.free_ok X G (c.fact 20)
  n_len := He.free_ok X G (c.fact 21)
  n_range := He.free_ok X G (c.fact 22)
  c_MOST_PERIOD := He.int_ok X G (c.fact 23)
  ox_SeenError := S.oexB_ok (c.fact 24)
  xc_SeenError := S.excB_ok (c.fact 25)
  xf_SeenError := xfB_ok (c.fact 26)
  xm_SeenError_SeenError := He.exm_ok (c.fact 27)
  xk_SeenError_SeenError := of_decide_eq_true (c.fact 28)
  xm_SeenError_BadPlace := He.exm_ok (c.fact 29)
  xk_SeenError_BadPlace := of_decide_eq_true (c.fact 30)
  xm_SeenError_BadSampler := He.exm_ok (c.fact 31)
  xk_SeenError_BadSampler := of_decide_eq_true (c.fact 32)
  ox_BadPlace := S.oexB_ok (c.fact 33)
  xc_BadPlace := S.excB_ok (c.fact 34)
  xf_BadPlace := xfB_ok (c.fact 35)
  xi_BadPlace := He.eqO_ok (c.fact 36)
  xt_BadPlace := of_decide_eq_true (c.fact 37)
  xn_BadPlace_why := He.eqO_ok (c.fact 38)
  xm_BadPlace_SeenError := He.exm_ok (c.fact 39)
  xk_BadPlace_SeenError := of_decide_eq_true (c.fact 40)
  xm_BadPlace_BadPlace := He.exm_ok (c.fact 41)
  xk_BadPlace_BadPlace := of_decide_eq_true (c.fact 42)
  xm_BadPlace_BadSampler := He.exm_ok (c.fact 43)
  xk_BadPlace_BadSampler := of_decide_eq_true (c.fact 44)
  ox_BadSampler := S.oexB_ok (c.fact 45)
  xc_BadSampler := S.excB_ok (c.fact 46)
  xf_BadSampler := xfB_ok (c.fact 47)
  xi_BadSampler := He.eqO_ok (c.fact 48)
  xt_BadSampler := of_decide_eq_true (c.fact 49)
  xn_BadSampler_why := He.eqO_ok (c.fact 50)
  xm_BadSampler_SeenError := He.exm_ok (c.fact 51)
  xk_BadSampler_SeenError := of_decide_eq_true (c.fact 52)
  xm_BadSampler_BadPlace := He.exm_ok (c.fact 53)
  xk_BadSampler_BadPlace := of_decide_eq_true (c.fact 54)
  xm_BadSampler_BadSampler := He.exm_ok (c.fact 55)
  xk_BadSampler_BadSampler := of_decide_eq_true (c.fact 56)
  cl_Sampler := He.cls_ok (c.fact 57)
  mk_Sampler := He.mkr_ok (c.fact 58)
  na_Sampler_period := He.noat_ok (c.fact 59)
  na_Sampler_jitter := He.noat_ok (c.fact 60)
  na_Sampler_phase := He.noat_ok (c.fact 61)
  me_Sampler___init__ := He.meth_ok (c.fact 62)
  me_Sampler_with_values := He.meth_ok (c.fact 63)
  me_Sampler___eq__ := He.meth_ok (c.fact 64)
  is_Sampler := S.insB_ok (c.fact 65)
  kt_Sampler_int := of_decide_eq_true (c.fact 66)
  kt_Sampler_bool := of_decide_eq_true (c.fact 67)
  kt_Sampler_str := of_decide_eq_true (c.fact 68)
  kt_Sampler_list := of_decide_eq_true (c.fact 69)
  kt_Sampler_tuple := of_decide_eq_true (c.fact 70)
  kt_Sampler_dict := of_decide_eq_true (c.fact 71)
  ko_Sampler_Sampler := of_decide_eq_true (c.fact 72)
  kb_Sampler_int := of_decide_eq_true (c.fact 73)
  kb_Sampler_bool := of_decide_eq_true (c.fact 74)
  kb_Sampler_str := of_decide_eq_true (c.fact 75)
  kb_Sampler_list := of_decide_eq_true (c.fact 76)
  kb_Sampler_tuple := of_decide_eq_true (c.fact 77)
  kb_Sampler_dict := of_decide_eq_true (c.fact 78)
  kb_Sampler_NoneType := of_decide_eq_true (c.fact 79)
  ne_Sampler := He.eqO_ok (c.fact 80)
theorem kb_is_integer_1 {K : S.Frag} {mg : Str → Option Value} (T : Txt K mg) : KBn K (S.fdA K ("is_integer", none)) ["value"] 1 [] (fun us _ => us ++ []) (fun vs _ => vs ++ []) :=
  S.kb_of_binds (T.F_is_integer.bindsN fun _ _ _ _ _ _ us hl => match us, hl with | [_], _ => rfl) .nil rfl
theorem kb_is_within_3 {K : S.Frag} {mg : Str → Option Value} (T : Txt K mg) : KBn K (S.fdA K ("is_within", none)) ["value", "low", "high"] 3 [] (fun us _ => us ++ []) (fun vs _ => vs ++ []) :=
  S.kb_of_binds (T.F_is_within.bindsN fun _ _ _ _ _ _ us hl => match us, hl with | [_, _, _], _ => rfl) .nil rfl
theorem kb_BadSampler___init___2 {K : S.Frag} {mg : Str → Option Value} (T : Txt K mg) : KBn K (S.fdA K ("BadSampler", some "__init__")) ["self", "why"] 2 [] (fun us _ => us ++ []) (fun vs _ => vs ++ []) :=
  S.kb_of_binds (T.F_BadSampler___init__.bindsN fun _ _ _ _ _ _ us hl => match us, hl with | [_, _], _ => rfl) .nil rfl
theorem kb_new_value_2 {K : S.Frag} {mg : Str → Option Value} (T : Txt K mg) : KBn K (S.fdA K ("new_value", none)) ["value", "old"] 2 [] (fun us _ => us ++ []) (fun vs _ => vs ++ []) :=
  S.kb_of_binds (T.F_new_value.bindsN fun _ _ _ _ _ _ us hl => match us, hl with | [_, _], _ => rfl) .nil rfl
theorem kb_Sampler___init___3_phase {K : S.Frag} {mg : Str → Option Value} (T : Txt K mg) : ∃ g, KBn K (S.fdA K ("Sampler", some "__init__")) ["self", "period", "jitter", "phase"] 3 ["phase"] g (fun vs zs => vs ++ ((zs.drop 0).take 1)) := by
  obtain ⟨_, _, h⟩ := T.F_Sampler___init__.kbinds (ps := ["self", "period", "jitter", "phase"]) 3 ["phase"] [] (fun us its mv ws => us ++ ((ws.drop 0).take 1)) (List.cons_ne_nil _ _) (List.cons_ne_nil _ _) (by simp [He.DefD.kws, He.Dv.v]) (fun a b c d => (a.append ((d.drop 0).take 1)))
    (fun _ _ _ _ _ _ _ us its mv ws l1 l2 l3 l4 => match us, its, mv, ws, l1, l2, l3, l4 with | [_, _, _], [_], [], [_], _, _, _, _ => ⟨_, rfl, rfl⟩)
  exact ⟨_, h⟩
theorem kb__law_take_2 {K : S.Frag} {mg : Str → Option Value} (T : Txt K mg) : KBn K (S.fdA K ("_law_take", none)) ["_law_draw", "_law_size"] 2 [] (fun us _ => us ++ []) (fun vs _ => vs ++ []) :=
  S.kb_of_binds (T.F__law_take.bindsN fun _ _ _ _ _ _ us hl => match us, hl with | [_, _], _ => rfl) .nil rfl
theorem kb__law_odd_1 {K : S.Frag} {mg : Str → Option Value} (T : Txt K mg) : KBn K (S.fdA K ("_law_odd", none)) ["_law_draw"] 1 [] (fun us _ => us ++ []) (fun vs _ => vs ++ []) :=
  S.kb_of_binds (T.F__law_odd.bindsN fun _ _ _ _ _ _ us hl => match us, hl with | [_], _ => rfl) .nil rfl
theorem kb__law_is_integer_1 {K : S.Frag} {mg : Str → Option Value} (T : Txt K mg) : KBn K (S.fdA K ("_law_is_integer", none)) ["_law_value_here"] 1 [] (fun us _ => us ++ []) (fun vs _ => vs ++ []) :=
  S.kb_of_binds (T.F__law_is_integer.bindsN fun _ _ _ _ _ _ us hl => match us, hl with | [_], _ => rfl) .nil rfl
theorem kb_Sampler_with_values_1_phase_period_jitter {K : S.Frag} {mg : Str → Option Value} (T : Txt K mg) : ∃ g, KBn K (S.fdA K ("Sampler", some "with_values")) ["self", "period", "jitter", "phase"] 1 ["phase", "period", "jitter"] g (fun vs zs => vs ++ ((zs.drop 1).take 1) ++ ((zs.drop 2).take 1) ++ ((zs.drop 0).take 1)) := by
  obtain ⟨_, h⟩ := S.kbinds0 (ps := ["self", "period", "jitter", "phase"]) T.F_Sampler_with_values 1 ["phase", "period", "jitter"] [] (fun us mv ws => us ++ ((ws.drop 1).take 1) ++ ((ws.drop 2).take 1) ++ ((ws.drop 0).take 1)) (List.cons_ne_nil _ _) (by simp [He.DefD.kws, He.Dv.v]) (fun a c d => (((a.append ((d.drop 1).take 1)).append ((d.drop 2).take 1)).append ((d.drop 0).take 1)))
    (fun _ _ _ _ _ _ us mv ws l1 l3 l4 => match us, mv, ws, l1, l3, l4 with | [_], [], [_, _, _], _, _, _ => rfl)
  exact ⟨_, h⟩
theorem kb__law_due_1 {K : S.Frag} {mg : Str → Option Value} (T : Txt K mg) : KBn K (S.fdA K ("_law_due", none)) ["_law_spec"] 1 [] (fun us _ => us ++ []) (fun vs _ => vs ++ []) :=
  S.kb_of_binds (T.F__law_due.bindsN fun _ _ _ _ _ _ us hl => match us, hl with | [_], _ => rfl) .nil rfl
theorem kb__law_cell_2 {K : S.Frag} {mg : Str → Option Value} (T : Txt K mg) : KBn K (S.fdA K ("_law_cell", none)) ["_law_script", "_law_k"] 2 [] (fun us _ => us ++ []) (fun vs _ => vs ++ []) :=
  S.kb_of_binds (T.F__law_cell.bindsN fun _ _ _ _ _ _ us hl => match us, hl with | [_, _], _ => rfl) .nil rfl
theorem kb__law_value_2 {K : S.Frag} {mg : Str → Option Value} (T : Txt K mg) : KBn K (S.fdA K ("_law_value", none)) ["_law_draw", "_law_most"] 2 [] (fun us _ => us ++ []) (fun vs _ => vs ++ []) :=
  S.kb_of_binds (T.F__law_value.bindsN fun _ _ _ _ _ _ us hl => match us, hl with | [_, _], _ => rfl) .nil rfl
theorem kb__law_made_1 {K : S.Frag} {mg : Str → Option Value} (T : Txt K mg) : KBn K (S.fdA K ("_law_made", none)) ["_law_spec"] 1 [] (fun us _ => us ++ []) (fun vs _ => vs ++ []) :=
  S.kb_of_binds (T.F__law_made.bindsN fun _ _ _ _ _ _ us hl => match us, hl with | [_], _ => rfl) .nil rfl
theorem kb__law_fits_2 {K : S.Frag} {mg : Str → Option Value} (T : Txt K mg) : KBn K (S.fdA K ("_law_fits", none)) ["_law_outcome", "_law_spec"] 2 [] (fun us _ => us ++ []) (fun vs _ => vs ++ []) :=
  S.kb_of_binds (T.F__law_fits.bindsN fun _ _ _ _ _ _ us hl => match us, hl with | [_, _], _ => rfl) .nil rfl
theorem kb_Sampler___init___2 {K : S.Frag} {mg : Str → Option Value} (T : Txt K mg) : ∃ g, KBn K (S.fdA K ("Sampler", some "__init__")) ["self", "period", "jitter", "phase"] 2 [] g (fun vs zs => vs ++ (([V.int 0] : List V).drop 0) ++ ((([V.int 0] : List V).drop 0).take 1)) := by
  obtain ⟨_, _, h⟩ := T.F_Sampler___init__.kbinds (ps := ["self", "period", "jitter", "phase"]) 2 [] [("phase", V.int 0)] (fun us its mv ws => us ++ (its.drop 0) ++ ((mv.drop 0).take 1)) (List.cons_ne_nil _ _) (List.cons_ne_nil _ _) (by simp [He.DefD.kws, He.Dv.v]) (fun a b c d => ((a.append (b.drop 0)).append ((c.drop 0).take 1)))
    (fun _ _ _ _ _ _ _ us its mv ws l1 l2 l3 l4 => match us, its, mv, ws, l1, l2, l3, l4 with | [_, _], [_], [_], [], _, _, _, _ => ⟨_, rfl, ⟨_, _, _, _, _, _, rfl, rfl, rfl⟩⟩)
  exact ⟨_, h⟩
theorem kb__law_kept_2 {K : S.Frag} {mg : Str → Option Value} (T : Txt K mg) : KBn K (S.fdA K ("_law_kept", none)) ["_law_old", "_law_part"] 2 [] (fun us _ => us ++ []) (fun vs _ => vs ++ []) :=
  S.kb_of_binds (T.F__law_kept.bindsN fun _ _ _ _ _ _ us hl => match us, hl with | [_, _], _ => rfl) .nil rfl
theorem kb__law_turned_2 {K : S.Frag} {mg : Str → Option Value} (T : Txt K mg) : KBn K (S.fdA K ("_law_turned", none)) ["_law_sampler", "_law_parts"] 2 [] (fun us _ => us ++ []) (fun vs _ => vs ++ []) :=
  S.kb_of_binds (T.F__law_turned.bindsN fun _ _ _ _ _ _ us hl => match us, hl with | [_, _], _ => rfl) .nil rfl
theorem kb_Sampler_with_values_1_jitter {K : S.Frag} {mg : Str → Option Value} (T : Txt K mg) : ∃ g, KBn K (S.fdA K ("Sampler", some "with_values")) ["self", "period", "jitter", "phase"] 1 ["jitter"] g (fun vs zs => vs ++ ((([V.int (-1), V.int (-1)] : List V).drop 0).take 1) ++ ((zs.drop 0).take 1) ++ ((([V.int (-1), V.int (-1)] : List V).drop 1).take 1)) := by
  obtain ⟨_, h⟩ := S.kbinds0 (ps := ["self", "period", "jitter", "phase"]) T.F_Sampler_with_values 1 ["jitter"] [("period", V.int (-1)), ("phase", V.int (-1))] (fun us mv ws => us ++ ((mv.drop 0).take 1) ++ ((ws.drop 0).take 1) ++ ((mv.drop 1).take 1)) (List.cons_ne_nil _ _) (by simp [He.DefD.kws, He.Dv.v]) (fun a c d => (((a.append ((c.drop 0).take 1)).append ((d.drop 0).take 1)).append ((c.drop 1).take 1)))
    (fun _ _ _ _ _ _ us mv ws l1 l3 l4 => match us, mv, ws, l1, l3, l4 with | [_], [_, _], [_], _, _, _ => ⟨_, _, _, _, _, _, rfl, rfl, ⟨_, _, _, _, _, _, rfl, rfl, rfl⟩⟩)
  exact ⟨_, h⟩
theorem kb_Sampler_with_values_1 {K : S.Frag} {mg : Str → Option Value} (T : Txt K mg) : ∃ g, KBn K (S.fdA K ("Sampler", some "with_values")) ["self", "period", "jitter", "phase"] 1 [] g (fun vs zs => vs ++ ((([V.int (-1), V.int (-1), V.int (-1)] : List V).drop 0).take 1) ++ ((([V.int (-1), V.int (-1), V.int (-1)] : List V).drop 1).take 1) ++ ((([V.int (-1), V.int (-1), V.int (-1)] : List V).drop 2).take 1)) := by
  obtain ⟨_, h⟩ := S.kbinds0 (ps := ["self", "period", "jitter", "phase"]) T.F_Sampler_with_values 1 [] [("period", V.int (-1)), ("jitter", V.int (-1)), ("phase", V.int (-1))] (fun us mv ws => us ++ ((mv.drop 0).take 1) ++ ((mv.drop 1).take 1) ++ ((mv.drop 2).take 1)) (List.cons_ne_nil _ _) (by simp [He.DefD.kws, He.Dv.v]) (fun a c d => (((a.append ((c.drop 0).take 1)).append ((c.drop 1).take 1)).append ((c.drop 2).take 1)))
    (fun _ _ _ _ _ _ us mv ws l1 l3 l4 => match us, mv, ws, l1, l3, l4 with | [_], [_, _, _], [], _, _, _ => ⟨_, _, _, _, _, _, rfl, rfl, ⟨_, _, _, _, _, _, rfl, rfl, ⟨_, _, _, _, _, _, rfl, rfl, rfl⟩⟩⟩)
  exact ⟨_, h⟩
theorem kb_Sampler___eq___2 {K : S.Frag} {mg : Str → Option Value} (T : Txt K mg) : KBn K (S.fdA K ("Sampler", some "__eq__")) ["self", "other"] 2 [] (fun us _ => us ++ []) (fun vs _ => vs ++ []) :=
  S.kb_of_binds (T.F_Sampler___eq__.bindsN fun _ _ _ _ _ _ us hl => match us, hl with | [_, _], _ => rfl) .nil rfl
section
variable {P : Program} {w : World} {K : S.Frag} {mg : Str → Option Value} {base : Heap}
open S
theorem isi_true {H : Hp} {i : Int} : TyX K H (.int i) (.type "int") := .base (.int i)
def sp_isint (K : S.Frag) : Sp := Sp1 fun x H Q _ => ∃ b, IsI K H x b ∧ Q (.bl b) H
theorem ok_is_integer (T : Txt K mg) : FnOk P w K mg base (L2.CX P w) 1 (He.fAd K ("is_integer", none)) (S.fdA K ("is_integer", none)) ["value"] (sp_isint K) := by
  refine FunD.ok T.F_is_integer sc_is_integer (fun vs H Q E h => S.splen1 h) (fun cdv A outer s H vs Q E hr h => ?_)
  have hu := hu_of hr
  refine ⟨_, (pss_one (ps_ret (pe_and (pe_callB (S.isiK (K := K) rfl) rfl T.n_isinstance S.boot_isinstance (pa_cons (pv 0) (pa_cons (pe_bltn (v := .ty "int") rfl T.n_int S.boot_int rfl) pa_nil))) (pe_one (pe_not (pe_callB (S.isiK (K := K) rfl) rfl T.n_isinstance S.boot_isinstance (pa_cons (pv 0) (pa_cons (pe_bltn (v := .ty "bool") rfl T.n_bool S.boot_bool rfl) pa_nil)))))))), ?_⟩
  obtain ⟨x, rfl, b, hb, q⟩ := h
  cases hb with
  | int i => exact ⟨_, rfl, _, _, _, _, true, rfl, .ty _, isi_true, kit_ty (by decide +kernel), _, rfl, _, rfl, _, _, _, _, false, rfl, .ty _, isi_true, kit_ty (by decide +kernel), _, rfl, q⟩
  | bl b => exact ⟨_, rfl, _, _, _, _, true, rfl, .ty _, .base (.bl b), kit_ty (by decide +kernel), _, rfl, _, rfl, _, _, _, _, true, rfl, .ty _, .base (.bl b), kit_ty (by decide +kernel), _, rfl, q⟩
  | oth h e => exact ⟨_, rfl, _, _, _, _, false, rfl, .ty _, h, e, _, rfl, q⟩
/-- x is an integer from a to c, or not, as b says -/
def Win (K : S.Frag) (H : Hp) (x : V) (a c : Int) (b : Bool) : Prop := (∃ i, x = .int i ∧ b = (decide (a ≤ i) && decide (i ≤ c))) ∨ (IsI K H x false ∧ b = false)
def sp_within (K : S.Frag) : Sp := Sp3 fun x lo hi H Q _ => ∃ a c b, lo = .int a ∧ hi = .int c ∧ Win K H x a c b ∧ Q (.bl b) H
theorem ok_is_within (T : Txt K mg) : FnOk P w K mg base (L2.CX P w) 2 (He.fAd K ("is_within", none)) (S.fdA K ("is_within", none)) ["value", "low", "high"] (sp_within K) := by
  have G_is_integer := ok_is_integer (P := P) (w := w) (base := base) T
  refine FunD.ok T.F_is_within sc_is_within (fun vs H Q E h => S.splen3 h) (fun cdv A outer s H vs Q E hr h => ?_)
  have hu := hu_of hr
  refine ⟨_, (pss_one (ps_ret (pe_and (S.pe_fnS G_is_integer (hr.mono (by decide)) rfl T.g_is_integer T.F_is_integer.kp (kb_is_integer_1 T) S.pas0 (pa_cons (pv 0) pa_nil) pk_nil rfl rfl) (pe_one (pe_chain op_le op_le (pv 1) (pv 0) (pv 2)))))), ?_⟩
  obtain ⟨x, _, _, rfl, a, c, b, rfl, rfl, h, q⟩ := h
  rcases h with ⟨i, rfl, rfl⟩ | ⟨hb, rfl⟩
  · refine ⟨_, rfl, rfl, rfl, _, rfl, true, .int i, _, rfl, _, rfl, _, rfl, _, _, rfl, rfl, _, rfl, ?_⟩
    by_cases e : a ≤ i
    · rw [if_pos (decide_eq_true e)]
      refine ⟨_, rfl, _, _, rfl, rfl, ?_⟩
      simpa [e] using q
    · rw [if_neg (by simpa using e)]
      simpa [e] using q
  · exact ⟨_, rfl, rfl, rfl, _, rfl, false, hb, _, rfl, q⟩
end
end W

namespace W
open PySem PySem.Spec PyProof.Rows L2
section
variable {P : Program} {w : World} {K : S.Frag} {mg : Str → Option Value} {base : Heap}
open S
theorem ok_BadSampler___init__ (T : Txt K mg) : FnOk P w K mg base (L2.CX P w) 1 (He.fAd K ("BadSampler", some "__init__")) (S.fdA K ("BadSampler", some "__init__")) ["self", "why"] (sp_err (He.ga K "BadSampler") "why") := by
  refine FunD.ok T.F_BadSampler___init__ sc_BadSampler___init__ (fun vs H Q E h => S.splen2 h) (fun cdv A outer s H vs Q E hr h => ?_)
  have hu := hu_of hr
  refine ⟨_, (pss_one (S.ps_ostK (K := K) rfl (pv 0) (pv 1) rfl)), ?_⟩
  obtain ⟨_, y, rfl, a, rfl, ha, k⟩ := h
  exact ⟨_, rfl, _, rfl, a, _, rfl, T.ox_BadSampler, T.xn_BadSampler_why, .inl ⟨ha, k⟩⟩
/-- the values that the law hands about -/
inductive Od (H : Hp) : V → Prop where
  | int (i : Int) : Od H (.int i)
  | non : Od H .non
  | bl (b : Bool) : Od H (.bl b)
  | str (z : Str) : Od H (.str z)
  | tup {a : Addr} {xs : List V} (h : H a = some (.tup xs)) : Od H (.ref a)
  | lst {a : Addr} {xs : List V} (h : H a = some (.lst xs)) : Od H (.ref a)
  | dK {a : Addr} {xs : List (Key × V)} (h : H a = some (.dK xs)) : Od H (.ref a)
theorem Od.mono {H H' : Hp} {x : V} (h : Od H x) (s : Same H H') : Od H' x := by
  cases h with
  | int i => exact .int i
  | non => exact .non
  | bl b => exact .bl b
  | str z => exact .str z
  | tup h => exact .tup (s _ _ h)
  | lst h => exact .lst (s _ _ h)
  | dK h => exact .dK (s _ _ h)
def isInt : V → Bool
  | .int _ => true
  | _ => false
theorem Od.isi {H : Hp} {x : V} (h : Od H x) : IsI K H x (isInt x) := by
  cases h with
  | int i => exact .int i
  | non => exact .oth (.base .non) (kit_ty (by decide +kernel))
  | bl b => exact .bl b
  | str z => exact .oth (.base (.str z)) (kit_ty (by decide +kernel))
  | tup h => exact .oth (.base (.tup h)) (kit_ty (by decide +kernel))
  | lst h => exact .oth (.base (.lst h)) (kit_ty (by decide +kernel))
  | dK h => exact .oth (.base (.dK h)) (kit_ty (by decide +kernel))
/-- an integer from a to b -/
def inR (a b : Int) : V → Bool
  | .int i => decide (a ≤ i) && decide (i ≤ b)
  | _ => false
theorem Od.within {H : Hp} {x : V} {a b : Int} (h : Od H x) : Win K H x a b (inR a b x) := by
  cases h with
  | int i => exact .inl ⟨i, rfl, rfl⟩
  | non => exact .inr ⟨Od.isi .non, rfl⟩
  | bl b => exact .inr ⟨Od.isi (.bl b), rfl⟩
  | str z => exact .inr ⟨Od.isi (.str z), rfl⟩
  | tup h => exact .inr ⟨Od.isi (.tup h), rfl⟩
  | lst h => exact .inr ⟨Od.isi (.lst h), rfl⟩
  | dK h => exact .inr ⟨Od.isi (.dK h), rfl⟩
/-- what is wrong with these three, or "" -/
def intOf : V → Int
  | .int i => i
  | _ => 0
def due (x y z : V) : Str := if !inR 1 8 x then "period" else if !inR 0 (intOf x - 1) y then "jitter" else if !decide (z = .non) && !inR 0 (intOf x - 1) z then "phase" else ""
def flds (x y z : V) : List (Str × V) := [("period", x), ("jitter", y), ("phase", z)]
def spSam (K : S.Frag) : Sp := Sp4 fun self x y z H Q E => ∃ p dx, self = .ref p ∧ H p = some (.ins (He.ga K "Sampler") dx []) ∧ Od H x ∧ Od H y ∧ Od H z ∧
  (due x y z = "" → ∀ H', (∀ b o, H b = some o → b ≠ p → H' b = some o) → H' p = some (.ins (He.ga K "Sampler") dx (flds x y z)) → Q .non H') ∧
  (due x y z ≠ "" → ∀ d H', H d = none → Same H H' → H' d = some (.xd [("why", .str (due x y z))]) → E (.ref (He.ga K "BadSampler")) (some d) H')
theorem inR_int {a b : Int} {x : V} (h : inR a b x = true) : ∃ i, x = .int i ∧ a ≤ i ∧ i ≤ b := by
  cases x with
  | int i => simp [inR] at h; exact ⟨i, rfl, h⟩
  | _ => cases h
theorem ok_Sampler___init__ (T : Txt K mg) : FnOk P w K mg base (L2.CX P w) 3 (He.fAd K ("Sampler", some "__init__")) (S.fdA K ("Sampler", some "__init__")) ["self", "period", "jitter", "phase"] (spSam K) := by
  have G_is_within := ok_is_within (P := P) (w := w) (base := base) T
  have G_BadSampler___init__ := ok_BadSampler___init__ (P := P) (w := w) (base := base) T
  refine FunD.ok T.F_Sampler___init__ sc_Sampler___init__ (fun vs H Q E h => S.splen4 h) (fun cdv A outer s H vs Q E hr h => ?_)
  have hu := hu_of hr
  refine ⟨_, (pss_cons (ps_if (pt_not (pt_val (S.pe_fnS G_is_within (hr.mono (by decide)) rfl T.g_is_within T.F_is_within.kp (kb_is_within_3 T) S.pas0 (pa_cons (pv 1) (pa_cons pe_int (pa_cons (S.pe_globI rfl T.c_MOST_PERIOD) pa_nil))) pk_nil rfl rfl))) (pss_one (S.ps_raiseO rfl (takes_of rfl rfl rfl rfl) T.ox_BadSampler T.xi_BadSampler T.xt_BadSampler G_BadSampler___init__ (hr.mono (by decide)) (kb_BadSampler___init___2 T) rfl T.g_BadSampler (pa_cons pe_str pa_nil))) pss_nil)
      (pss_cons (ps_if (pt_not (pt_val (S.pe_fnS G_is_within (hr.mono (by decide)) rfl T.g_is_within T.F_is_within.kp (kb_is_within_3 T) S.pas0 (pa_cons (pv 2) (pa_cons pe_int (pa_cons (pe_op op_sub (pv 1) pe_int) pa_nil))) pk_nil rfl rfl))) (pss_one (S.ps_raiseO rfl (takes_of rfl rfl rfl rfl) T.ox_BadSampler T.xi_BadSampler T.xt_BadSampler G_BadSampler___init__ (hr.mono (by decide)) (kb_BadSampler___init___2 T) rfl T.g_BadSampler (pa_cons pe_str pa_nil))) pss_nil)
      (pss_cons (ps_if (PW.pt (pw_and (pt_cmpR op_notN (pv 3) pe_non (nomark _)) (pw_and1 (pt_not (pt_val (S.pe_fnS G_is_within (hr.mono (by decide)) rfl T.g_is_within T.F_is_within.kp (kb_is_within_3 T) S.pas0 (pa_cons (pv 3) (pa_cons pe_int (pa_cons (pe_op op_sub (pv 1) pe_int) pa_nil))) pk_nil rfl rfl)))))) (pss_one (S.ps_raiseO rfl (takes_of rfl rfl rfl rfl) T.ox_BadSampler T.xi_BadSampler T.xt_BadSampler G_BadSampler___init__ (hr.mono (by decide)) (kb_BadSampler___init___2 T) rfl T.g_BadSampler (pa_cons pe_str pa_nil))) pss_nil)
      (pss_cons (S.ps_fldK (K := K) rfl (pv 0) (pv 1) rfl)
      (pss_cons (S.ps_fldK (K := K) rfl (pv 0) (pv 2) rfl)
      (pss_one (S.ps_fldK (K := K) rfl (pv 0) (pv 3) rfl))))))), ?_⟩
  obtain ⟨_, x, y, z, rfl, p, dx, rfl, hp, ox, oy, oz, k1, k2⟩ := h
  refine ⟨_, rfl, rfl, rfl, x, _, _, rfl, 1, 8, _, rfl, rfl, ox.within, _, rfl, ?_⟩
  cases c1 : inR 1 8 x with
  | false =>
    have e : due x y z = "period" := by simp [due, c1]
    rw [e] at k2
    exact iteT (raise_err (.str "period") (k2 (by decide +kernel)))
  | true =>
    obtain ⟨i, rfl, h1, h2⟩ := inR_int c1
    refine ⟨_, rfl, _, rfl, _, _, rfl, rfl, rfl, rfl, y, _, _, rfl, 0, i - 1, _, rfl, rfl, oy.within, _, rfl, ?_⟩
    cases c2 : inR 0 (i - 1) y with
    | false =>
      have e : due (.int i) y z = "jitter" := by simp [due, c1, c2, intOf]
      rw [e] at k2
      exact iteT (raise_err (.str "jitter") (k2 (by decide +kernel)))
    | true =>
      have fin : due (.int i) y z = "" → tSeq (sFld K (tVar 0) (tVar 1) "period") (tSeq (sFld K (tVar 0) (tVar 2) "jitter") (sFld K (tVar 0) (tVar 3) "phase")) { nx := fun _ H' => Q .non H', rt := Q } [some (.ref p), some (.int i), some y, some z] H := by
        intro e
        refine ⟨_, rfl, _, rfl, p, _, dx, _, rfl, hp, T.cl_Sampler, T.na_Sampler_period, (by show 0 < 1000; decide), ?_⟩
        refine ⟨_, rfl, _, rfl, p, _, dx, _, rfl, upd_same, T.cl_Sampler, T.na_Sampler_jitter, (by show 1 < 1000; decide), ?_⟩
        refine ⟨_, rfl, _, rfl, p, _, dx, _, rfl, upd_same, T.cl_Sampler, T.na_Sampler_phase, (by show 2 < 1000; decide), ?_⟩
        refine k1 e _ (fun b o q nb => by rw [upd_ne nb, upd_ne nb, upd_ne nb]; exact q) upd_same
      refine iteF ?_
      by_cases hz : z = .non
      · subst hz
        refine ⟨_, rfl, rfl, _, rfl, ?_⟩
        exact fin (by simp [due, c1, c2, intOf])
      · refine ⟨_, rfl, rfl, _, rfl, iteY (by simp [hz]) ⟨_, rfl, _, rfl, _, _, rfl, rfl, rfl, rfl, z, _, _, rfl, 0, i - 1, _, rfl, rfl, oz.within, _, rfl, ?_⟩⟩
        cases c3 : inR 0 (i - 1) z with
        | false =>
          have e : due (.int i) y z = "phase" := by simp [due, c1, c2, c3, intOf, hz]
          rw [e] at k2
          exact iteT (raise_err (.str "phase") (k2 (by decide +kernel)))
        | true =>
          refine iteF (fin (by simp [due, c1, c2, c3, intOf, hz]))
def spNew (K : S.Frag) : Sp := Sp2 fun x y H Q _ => Od H x ∧ Q (if x = .int (-1) then y else x) H
theorem ok_new_value (T : Txt K mg) : FnOk P w K mg base (L2.CX P w) 2 (He.fAd K ("new_value", none)) (S.fdA K ("new_value", none)) ["value", "old"] (spNew K) := by
  have G_is_integer := ok_is_integer (P := P) (w := w) (base := base) T
  refine FunD.ok T.F_new_value sc_new_value (fun vs H Q E h => S.splen2 h) (fun cdv A outer s H vs Q E hr h => ?_)
  have hu := hu_of hr
  refine ⟨_, (pss_cons (ps_if (PW.pt (pw_and (pt_val (S.pe_fnS G_is_integer (hr.mono (by decide)) rfl T.g_is_integer T.F_is_integer.kp (kb_is_integer_1 T) S.pas0 (pa_cons (pv 0) pa_nil) pk_nil rfl rfl)) (pw_and1 (pt_cmpR op_eq (pv 0) (pe_un un_neg pe_int) (nomark _))))) (pss_one (ps_ret (pv 1))) pss_nil)
      (pss_one (ps_ret (pv 0)))), ?_⟩
  obtain ⟨x, y, rfl, ox, q⟩ := h
  refine ⟨_, rfl, rfl, rfl, x, rfl, _, ox.isi, _, rfl, ?_⟩
  cases c : isInt x with
  | false =>
    have e : ¬ x = .int (-1) := fun z => by subst z; cases c
    rw [if_neg e] at q
    exact iteN (by decide) (iteN (by decide) ⟨_, rfl, q⟩)
  | true =>
    obtain ⟨i, rfl⟩ : ∃ i, x = .int i := by cases x <;> first | exact ⟨_, rfl⟩ | cases c
    refine iteY rfl ⟨_, rfl, _, rfl, rfl, _, rfl, ?_⟩
    by_cases e : i = -1
    · subst e
      rw [if_pos rfl] at q
      exact iteY (by decide) ⟨_, rfl, q⟩
    · rw [if_neg (by simpa using e)] at q
      exact iteN (by simpa using e) ⟨_, rfl, q⟩
end
end W

namespace W
open PySem PySem.Spec PyProof.Rows L2
section
variable {P : Program} {w : World} {K : S.Frag} {mg : Str → Option Value} {base : Heap}
open S
def kept (x old : V) : V := if x = .int (-1) then old else x
theorem lk_period (x y z : V) : (flds x y z).lookup ("period" : Str) = some x := by
  unfold flds
  rw [lookup_put, if_pos rfl]
theorem lk_jitter (x y z : V) : (flds x y z).lookup ("jitter" : Str) = some y := by
  unfold flds
  rw [lookup_put, if_neg (by decide +kernel), lookup_put, if_pos rfl]
theorem lk_phase (x y z : V) : (flds x y z).lookup ("phase" : Str) = some z := by
  unfold flds
  rw [lookup_put, if_neg (by decide +kernel), lookup_put, if_neg (by decide +kernel), lookup_put, if_pos rfl]
theorem lk_with (x y z : V) : (flds x y z).lookup ("with_values" : Str) = none := by
  unfold flds
  rw [lookup_put, if_neg (by decide +kernel), lookup_put, if_neg (by decide +kernel), lookup_put, if_neg (by decide +kernel)]
  rfl
theorem Od.kept {H : Hp} {x y : V} (h : Od H x) (k : Od H y) : Od H (kept x y) := by
  unfold W.kept
  split
  · exact k
  · exact h
def spWith (K : S.Frag) : Sp := Sp4 fun self x y z H Q E => ∃ p dx a b c, self = .ref p ∧ H p = some (.ins (He.ga K "Sampler") dx (flds a b c)) ∧ Od H x ∧ Od H y ∧ Od H z ∧ Od H a ∧ Od H b ∧ Od H c ∧
  (due (kept x a) (kept y b) (kept z c) = "" → ∀ H' p' dx', Same H H' → H p' = none → H' p' = some (.ins (He.ga K "Sampler") dx' (flds (kept x a) (kept y b) (kept z c))) → Q (.ref p') H') ∧
  (due (kept x a) (kept y b) (kept z c) ≠ "" → ∀ d H', H d = none → Same H H' → H' d = some (.xd [("why", .str (due (kept x a) (kept y b) (kept z c)))]) → E (.ref (He.ga K "BadSampler")) (some d) H')
theorem ok_Sampler_with_values (T : Txt K mg) : FnOk P w K mg base (L2.CX P w) 5 (He.fAd K ("Sampler", some "with_values")) (S.fdA K ("Sampler", some "with_values")) ["self", "period", "jitter", "phase"] (spWith K) := by
  have G_new_value := ok_new_value (P := P) (w := w) (base := base) T
  have G_Sampler___init__ := ok_Sampler___init__ (P := P) (w := w) (base := base) T
  refine FunD.ok T.F_Sampler_with_values sc_Sampler_with_values (fun vs H Q E h => S.splen4 h) (fun cdv A outer s H vs Q E hr h => ?_)
  have hu := hu_of hr
  refine ⟨_, (pss_cons (ps_set (i := 1) sc_Sampler_with_values.nd rfl (by first | exact Or.inl rfl | exact Or.inr rfl) (S.pe_fnS G_new_value (hr.mono (by decide)) rfl T.g_new_value T.F_new_value.kp (kb_new_value_2 T) S.pas0 (pa_cons (pv 1) (pa_cons (S.pe_fldK (K := K) rfl (pv 0) rfl) pa_nil)) pk_nil rfl rfl))
      (pss_cons (ps_set (i := 2) sc_Sampler_with_values.nd rfl (by first | exact Or.inl rfl | exact Or.inr rfl) (S.pe_fnS G_new_value (hr.mono (by decide)) rfl T.g_new_value T.F_new_value.kp (kb_new_value_2 T) S.pas0 (pa_cons (pv 2) (pa_cons (S.pe_fldK (K := K) rfl (pv 0) rfl) pa_nil)) pk_nil rfl rfl))
      (pss_one (ps_ret (S.pe_mkS T.mk_Sampler G_Sampler___init__ (hr.mono (by decide)) rfl T.g_Sampler (kb_Sampler___init___3_phase T).choose_spec (S.pasE (takes_of rfl rfl rfl rfl)) (pa_cons (pv 1) (pa_cons (pv 2) pa_nil)) (pk_cons (S.pe_fnS G_new_value (hr.mono (by decide)) rfl T.g_new_value T.F_new_value.kp (kb_new_value_2 T) S.pas0 (pa_cons (pv 3) (pa_cons (S.pe_fldK (K := K) rfl (pv 0) rfl) pa_nil)) pk_nil rfl rfl) pk_nil) rfl rfl))))), ?_⟩
  obtain ⟨_, x, y, z, rfl, p, dx, a, b, c, rfl, hp, ox, oy, oz, oa, ob, oc, k1, k2⟩ := h
  refine ⟨_, rfl, _, rfl, p, _, dx, _, _, rfl, hp, T.cl_Sampler, T.na_Sampler_period, lk_period _ _ _, rfl, rfl, _, _, rfl, ox, ?_⟩
  refine ⟨_, rfl, _, rfl, p, _, dx, _, _, rfl, hp, T.cl_Sampler, T.na_Sampler_jitter, lk_jitter _ _ _, rfl, rfl, _, _, rfl, oy, ?_⟩
  refine ⟨_, rfl, _, rfl, _, rfl, _, rfl, p, _, dx, _, _, rfl, hp, T.cl_Sampler, T.na_Sampler_phase, lk_phase _ _ _, rfl, rfl, _, _, rfl, oz, rfl, rfl, fun q dq nq ndq ne => ?_⟩
  have s0 : Same H (upd (upd H dq (.own q)) q (.ins (He.ga K "Sampler") dq [])) := Same.upd (Same.new ndq) nq
  refine ⟨_, _, _, _, rfl, q, dq, rfl, upd_same, (ox.kept oa).mono s0, (oy.kept ob).mono s0, (oz.kept oc).mono s0, fun e H' kp hq => ⟨rfl, ?_⟩, fun e d H' nd sm hd => ?_⟩
  · exact k1 e H' q dq (fun b o hb => kp b o (s0 b o hb) (ne_of_none hb nq)) nq hq
  · exact k2 e d H' (s0.free nd) (s0.trans sm) hd
/-- two samplers: their values are the same ones -/
def spEq (K : S.Frag) : Sp := Sp2 fun x y H Q _ => ∃ p dx a b c q dy a' b' c', x = .ref p ∧ y = .ref q ∧ H p = some (.ins (He.ga K "Sampler") dx (flds a b c)) ∧ H q = some (.ins (He.ga K "Sampler") dy (flds a' b' c')) ∧
  scal a a' = true ∧ scal b b' = true ∧ scal c c' = true ∧ Q (.bl (decide (a = a') && (decide (b = b') && decide (c = c')))) H
theorem ok_Sampler___eq__ (T : Txt K mg) : FnOk P w K mg base (L2.CX P w) 1 (He.fAd K ("Sampler", some "__eq__")) (S.fdA K ("Sampler", some "__eq__")) ["self", "other"] (spEq K) := by
  refine FunD.ok T.F_Sampler___eq__ sc_Sampler___eq__ (fun vs H Q E h => S.splen2 h) (fun cdv A outer s H vs Q E hr h => ?_)
  have hu := hu_of hr
  refine ⟨_, (pss_cons (ps_if (pt_not (pt_val (pe_callB (S.isiK (K := K) rfl) rfl T.n_isinstance S.boot_isinstance (pa_cons (pv 1) (pa_cons (pe_glob (v := .ref _) rfl T.g_Sampler rfl) pa_nil))))) (pss_one (ps_ret pe_bl)) pss_nil)
      (pss_one (ps_ret (pe_and (pe_cmpR op_eq (S.pe_fldK (K := K) rfl (pv 0) rfl) (S.pe_fldK (K := K) rfl (pv 1) rfl) (nomark _)) (pe_and (pe_cmpR op_eq (S.pe_fldK (K := K) rfl (pv 0) rfl) (S.pe_fldK (K := K) rfl (pv 1) rfl) (nomark _)) (pe_one (pe_cmpR op_eq (S.pe_fldK (K := K) rfl (pv 0) rfl) (S.pe_fldK (K := K) rfl (pv 1) rfl) (nomark _)))))))), ?_⟩
  obtain ⟨_, _, rfl, p, dx, a, b, c, q, dy, a', b', c', rfl, rfl, hp, hq, h1, h2, h3, k⟩ := h
  refine ⟨_, rfl, _, _, _, _, true, rfl, .own _, T.is_Sampler.ty T.cl_Sampler hq, T.ko_Sampler_Sampler, _, rfl, iteF ?_⟩
  refine ⟨_, rfl, p, _, dx, _, _, rfl, hp, T.cl_Sampler, T.na_Sampler_period, lk_period _ _ _, _, rfl, q, _, dy, _, _, rfl, hq, T.cl_Sampler, T.na_Sampler_period, lk_period _ _ _, h1, _, rfl, ?_⟩
  by_cases e1 : a = a'
  · refine iteY (by simpa using e1) ⟨_, rfl, p, _, dx, _, _, rfl, hp, T.cl_Sampler, T.na_Sampler_jitter, lk_jitter _ _ _, _, rfl, q, _, dy, _, _, rfl, hq, T.cl_Sampler, T.na_Sampler_jitter, lk_jitter _ _ _, h2, _, rfl, ?_⟩
    by_cases e2 : b = b'
    · refine iteY (by simpa using e2) ⟨_, rfl, p, _, dx, _, _, rfl, hp, T.cl_Sampler, T.na_Sampler_phase, lk_phase _ _ _, _, rfl, q, _, dy, _, _, rfl, hq, T.cl_Sampler, T.na_Sampler_phase, lk_phase _ _ _, h3, ?_⟩
      simpa [e1, e2] using k
    · refine iteN (by simpa using e2) ?_
      simpa [e1, e2] using k
  · refine iteN (by simpa using e1) ?_
    simpa [e1] using k
end
end W

namespace W
open PySem PySem.Spec PyProof.Rows L2
section
variable {P : Program} {w : World} {K : S.Frag} {mg : Str → Option Value} {base : Heap}
open S
theorem ok__law_cell (T : Txt K mg) : FnOk P w K mg base (L2.CX P w) 1 (He.fAd K ("_law_cell", none)) (S.fdA K ("_law_cell", none)) ["_law_script", "_law_k"] (spCellN K) := by
  refine FunD.ok T.F__law_cell sc__law_cell (fun vs H Q E h => S.splen2 h) (fun cdv A outer s H vs Q E hr h => ?_)
  have hu := hu_of hr
  refine ⟨_, (pss_cons (ps_set (i := 2) sc__law_cell.nd rfl (by first | exact Or.inl rfl | exact Or.inr rfl) pe_int)
      (S.pss_cut (ps_if (pt_cmpR op_lt (pv 1) (pe_callB (S.lenK (K := K) rfl) rfl T.n_len S.boot_len (pa_cons (pv 0) pa_nil)) (nomark _)) (pss_one (ps_set (i := 2) sc__law_cell.nd rfl (by first | exact Or.inl rfl | exact Or.inr rfl) (pe_ix (S.ixK (K := K) rfl) (pv 0) (pv 1) (fun _ _ => rfl)))) pss_nil)
      (pss_cons (ps_if (pt_cmpR op_ge (pv 2) (pe_op op_pow pe_int pe_int) (nomark _)) (pss_one (ps_ret (pv 2))) pss_nil)
      (pss_cons (ps_set (i := 3) sc__law_cell.nd rfl (by first | exact Or.inl rfl | exact Or.inr rfl) (pe_op op_mod (pe_callTy call_int1 rfl T.n_int S.boot_int (pa_cons (pe_op op_add (pe_op op_add (pe_op S.op_mulA (pv 2) pe_int) (pe_op S.op_mulA (pv 1) pe_int)) pe_int) pa_nil)) pe_int))
      (pss_cons (ps_set (i := 4) sc__law_cell.nd rfl (by first | exact Or.inl rfl | exact Or.inr rfl) pe_int)
      (pss_cons (ps_for (S.own_of rfl) rfl (pi_range1 rfl T.n_range (pa_cons pe_int pa_nil)) (pg_name (i := 5) sc__law_cell.nd rfl (by first | exact Or.inl rfl | exact Or.inr rfl))
        (pss_cons (ps_set (i := 3) sc__law_cell.nd rfl (by first | exact Or.inl rfl | exact Or.inr rfl) (pe_op op_mod (pe_callTy call_int1 rfl T.n_int S.boot_int (pa_cons (pe_op op_add (pe_op op_add (pe_op S.op_mulA (pv 3) pe_int) (pe_op S.op_mulA (pv 5) pe_int)) pe_int) pa_nil)) pe_int))
      (pss_cons (ps_set (i := 3) sc__law_cell.nd rfl (by first | exact Or.inl rfl | exact Or.inr rfl) (pe_op op_mod (pe_callTy call_int1 rfl T.n_int S.boot_int (pa_cons (pe_op S.op_mulA (pv 3) (pe_op op_add (pe_op op_fdivW (pv 3) pe_int) pe_int)) pa_nil)) pe_int))
      (pss_one (ps_set (i := 4) sc__law_cell.nd rfl (by first | exact Or.inl rfl | exact Or.inr rfl) (pe_op op_add (pe_op S.op_mulA (pv 4) pe_int) (pv 3)))))))
      (pss_one (ps_ret (pv 4))))))))), ?_⟩
  obtain ⟨_, _, rfl, a, ns, k, rfl, rfl, hk, hS, q⟩ := h
  refine ⟨fun τ J => J = H ∧ ∃ c : Int, τ = [some (.ref a), some (.int k), some (.int c), none, none, none], ?_, ?_⟩
  · refine ⟨_, rfl, _, rfl, _, (ns.map V.int).length, rfl, .inl ⟨_, hS, rfl⟩, _, _, rfl, rfl, _, rfl, ?_⟩
    by_cases c : k < ((ns.map V.int).length : Int)
    · obtain ⟨m, rfl⟩ : ∃ m : Nat, k = (m : Int) := ⟨k.toNat, by omega⟩
      rw [List.length_map] at c
      exact iteY (by simpa using c) ⟨_, rfl, _, rfl, .inl ⟨a, _, _, _, rfl, rfl, hS, int_at (by omega), rfl, _, rfl⟩⟩
    · exact iteN (by simpa using c) ⟨rfl, _, rfl⟩
  · rintro τ J ⟨rfl, c, rfl⟩
    refine ⟨_, rfl, _, _, rfl, rfl, ⟨by decide, by decide, by decide⟩, _, _, rfl, rfl, _, rfl, ?_⟩
    refine ite2 (fun h => ⟨_, rfl, q _ ?_⟩) (fun _ => ?_)
    · have h2 : (10 : Int) ^ 18 ≤ c := by simpa using h
      omega
    refine ⟨_, rfl, _, _, rfl, rfl, mul_small (by decide), _, rfl, _, _, rfl, rfl, mul_small (by decide), _, _, rfl, rfl, _, _, rfl, rfl, .inl ⟨_, rfl, _, _, rfl, rfl, (by show (0 : Int) < 2147483647; decide), ?_⟩⟩
    refine ⟨8, rfl, by decide, by decide, for_range (n := 8) (fun i σ J2 => J2 = J ∧ ∃ (x y : Int) (st : Option V), 0 ≤ x ∧ x < 2147483647 ∧ 0 ≤ y ∧ σ = [some (.ref a), some (.int k), some (.int c), some (.int x), some (.int y), st]) ⟨rfl, _, _, none, Int.emod_nonneg _ (by decide), Int.emod_lt_of_pos _ (by decide), Int.le_refl 0, rfl⟩ ?_ ?_⟩
    · rintro i σ J2 hi ⟨rfl, x, y, st, h0, h1, hy, rfl⟩
      refine ⟨_, rfl, _, _, rfl, rfl, mul_small (by decide), _, rfl, _, _, rfl, rfl, mul_small (by decide), _, _, rfl, rfl, _, _, rfl, rfl, .inl ⟨_, rfl, _, _, rfl, rfl, (by show (0 : Int) < 2147483647; decide), ?_⟩⟩
      refine ⟨_, rfl, _, rfl, _, _, rfl, rfl, div_small (by decide) (by decide), _, _, rfl, rfl, _, _, rfl, rfl, mul_smallL (mod_small _ (by decide) (by decide)), .inl ⟨_, rfl, _, _, rfl, rfl, (by show (0 : Int) < 2147483629; decide), ?_⟩⟩
      refine ⟨_, rfl, _, _, rfl, rfl, mul_small (by decide), _, rfl, _, _, rfl, rfl, rfl, _, _, some (.int (0 + (i : Int))), mod_lo _ (by decide), Int.lt_trans (mod_hi _ (by decide)) (by decide), ?_, rfl⟩
      exact Int.add_nonneg (Int.mul_nonneg hy (by decide)) (mod_lo _ (by decide))
    · rintro σ J2 ⟨rfl, x, y, st, _, _, hy, rfl⟩
      exact ⟨_, rfl, q y hy⟩
def spTake : Sp := Sp2 fun x y H Q _ => ∃ (a : Addr) (n m : Int), x = .ref a ∧ H a = some (.lst [.int n]) ∧ y = .int m ∧ 0 < m ∧ m < 2 ^ 64 ∧ ∀ t n', 0 ≤ t → t < m → Q (.int t) (upd H a (.lst [.int n']))
theorem ok__law_take (T : Txt K mg) : FnOk P w K mg base (L2.CX P w) 1 (He.fAd K ("_law_take", none)) (S.fdA K ("_law_take", none)) ["_law_draw", "_law_size"] (spTake) := by
  refine FunD.ok T.F__law_take sc__law_take (fun vs H Q E h => S.splen2 h) (fun cdv A outer s H vs Q E hr h => ?_)
  have hu := hu_of hr
  refine ⟨_, (pss_cons (ps_set (i := 2) sc__law_take.nd rfl (by first | exact Or.inl rfl | exact Or.inr rfl) (pe_op op_mod (pe_callTy call_int1 rfl T.n_int S.boot_int (pa_cons (pe_ix (S.ixK (K := K) rfl) (pv 0) pe_int (fun _ _ => rfl)) pa_nil)) (pv 1)))
      (pss_cons (ps_asg (pe_op op_fdivW (pe_ix (S.ixK (K := K) rfl) (pv 0) pe_int (fun _ _ => rfl)) (pv 1)) (pg_sub (pv 0) pe_int set_list))
      (pss_one (ps_ret (pv 2))))), ?_⟩
  obtain ⟨_, _, rfl, a, n, m, rfl, ha, rfl, h0, h1, q⟩ := h
  refine ⟨_, rfl, .inl ⟨a, _, 0, _, rfl, rfl, .inl (.inl ha), rfl, .inl ⟨_, rfl, _, rfl, _, _, rfl, rfl, h0, ?_⟩⟩⟩
  refine ⟨_, rfl, .inl ⟨a, _, 0, _, rfl, rfl, .inl (.inl ha), rfl, _, rfl, _, _, rfl, rfl, div_small h0 h1, ?_⟩⟩
  exact ⟨_, rfl, a, _, 0, 0, rfl, rfl, ha, rfl, _, rfl, q _ _ (mod_lo _ h0) (mod_hi _ h0)⟩
end
end W

namespace W
open PySem PySem.Spec PyProof.Rows L2
section
variable {P : Program} {w : World} {K : S.Frag} {mg : Str → Option Value} {base : Heap}
open S
theorem ok__law_is_integer (T : Txt K mg) : FnOk P w K mg base (L2.CX P w) 1 (He.fAd K ("_law_is_integer", none)) (S.fdA K ("_law_is_integer", none)) ["_law_value_here"] (sp_isint K) := by
  refine FunD.ok T.F__law_is_integer sc__law_is_integer (fun vs H Q E h => S.splen1 h) (fun cdv A outer s H vs Q E hr h => ?_)
  have hu := hu_of hr
  refine ⟨_, (pss_one (ps_ret (pe_and (pe_callB (S.isiK (K := K) rfl) rfl T.n_isinstance S.boot_isinstance (pa_cons (pv 0) (pa_cons (pe_bltn (v := .ty "int") rfl T.n_int S.boot_int rfl) pa_nil))) (pe_one (pe_not (pe_callB (S.isiK (K := K) rfl) rfl T.n_isinstance S.boot_isinstance (pa_cons (pv 0) (pa_cons (pe_bltn (v := .ty "bool") rfl T.n_bool S.boot_bool rfl) pa_nil)))))))), ?_⟩
  obtain ⟨x, rfl, b, hb, q⟩ := h
  cases hb with
  | int i => exact ⟨_, rfl, _, _, _, _, true, rfl, .ty _, isi_true, kit_ty (by decide +kernel), _, rfl, _, rfl, _, _, _, _, false, rfl, .ty _, isi_true, kit_ty (by decide +kernel), _, rfl, q⟩
  | bl b => exact ⟨_, rfl, _, _, _, _, true, rfl, .ty _, .base (.bl b), kit_ty (by decide +kernel), _, rfl, _, rfl, _, _, _, _, true, rfl, .ty _, .base (.bl b), kit_ty (by decide +kernel), _, rfl, q⟩
  | oth h e => exact ⟨_, rfl, _, _, _, _, false, rfl, .ty _, h, e, _, rfl, q⟩
/-- the draws at a went on, all else stands -/
structure Dr (a : Addr) (H H' : Hp) : Prop where
  at_ : ∃ m : Int, H' a = some (.lst [.int m])
  kp : ∀ b o, b ≠ a → H b = some o → H' b = some o
theorem Dr.trans {a : Addr} {H H1 H2 : Hp} (x : Dr a H H1) (y : Dr a H1 H2) : Dr a H H2 := ⟨y.at_, fun b o n h => y.kp b o n (x.kp b o n h)⟩
theorem Dr.upd {a : Addr} {H : Hp} {n : Int} : Dr a H (upd H a (.lst [.int n])) := ⟨⟨n, upd_same⟩, fun b o nb h => by rw [upd_ne nb]; exact h⟩
theorem Dr.same {a : Addr} {H H' : Hp} {n : Int} (h : H a = some (.lst [.int n])) (s : Same H H') : Dr a H H' := ⟨⟨n, s _ _ h⟩, fun b o _ h => s b o h⟩
/-- values that do not lean on the draws -/
inductive Oa (a : Addr) (H : Hp) : V → Prop where
  | int (i : Int) : Oa a H (.int i)
  | non : Oa a H .non
  | bl (b : Bool) : Oa a H (.bl b)
  | str (z : Str) : Oa a H (.str z)
  | tup {c : Addr} {xs : List V} (n : c ≠ a) (h : H c = some (.tup xs)) : Oa a H (.ref c)
  | lst {c : Addr} {xs : List V} (n : c ≠ a) (h : H c = some (.lst xs)) : Oa a H (.ref c)
  | dK {c : Addr} {xs : List (Key × V)} (n : c ≠ a) (h : H c = some (.dK xs)) : Oa a H (.ref c)
theorem Oa.od {a : Addr} {H : Hp} {x : V} (h : Oa a H x) : Od H x := by
  cases h with
  | int i => exact .int i
  | non => exact .non
  | bl b => exact .bl b
  | str z => exact .str z
  | tup n h => exact .tup h
  | lst n h => exact .lst h
  | dK n h => exact .dK h
theorem Oa.dr {a : Addr} {H H' : Hp} {x : V} (h : Oa a H x) (d : Dr a H H') : Oa a H' x := by
  cases h with
  | int i => exact .int i
  | non => exact .non
  | bl b => exact .bl b
  | str z => exact .str z
  | tup n h => exact .tup n (d.kp _ _ n h)
  | lst n h => exact .lst n (d.kp _ _ n h)
  | dK n h => exact .dK n (d.kp _ _ n h)
def spOdd : Sp := Sp1 fun x H Q _ => ∃ (a : Addr) (n : Int), x = .ref a ∧ H a = some (.lst [.int n]) ∧ ∀ v H', Oa a H' v → Dr a H H' → Q v H'
theorem ok__law_odd (T : Txt K mg) : FnOk P w K mg base (L2.CX P w) 2 (He.fAd K ("_law_odd", none)) (S.fdA K ("_law_odd", none)) ["_law_draw"] (spOdd) := by
  have G__law_take := ok__law_take (P := P) (w := w) (base := base) T
  refine FunD.ok T.F__law_odd sc__law_odd (fun vs H Q E h => S.splen1 h) (fun cdv A outer s H vs Q E hr h => ?_)
  have hu := hu_of hr
  refine ⟨_, (pss_one (ps_ret (pe_ix (S.ixK (K := K) rfl) (pe_lst (pa_cons pe_str (pa_cons pe_bl (pa_cons pe_bl (pa_cons (pe_tup (pa_cons pe_int pa_nil)) (pa_cons (pe_lst (pa_cons pe_int pa_nil)) (pa_cons pe_dnewK (pa_cons pe_str pa_nil)))))))) (S.pe_fnS G__law_take (hr.mono (by decide)) rfl T.g__law_take T.F__law_take.kp (kb__law_take_2 T) S.pas0 (pa_cons (pv 0) (pa_cons pe_int pa_nil)) pk_nil rfl rfl) (fun _ _ => rfl)))), ?_⟩
  obtain ⟨_, rfl, a, n, rfl, ha, q⟩ := h
  refine ⟨by show 1 ≤ sizeLine; decide, fun t ht => ⟨by show 1 ≤ sizeLine; decide, fun l hl d hd => ⟨by show 7 ≤ sizeLine; decide, fun r hr2 => ?_⟩⟩⟩
  have s0 : Same H (upd (upd (upd (upd H t (.tup [.int 1])) l (.lst [.int 1])) d (.dK [])) r (.lst [.str "2", .bl true, .bl false, .ref t, .ref l, .ref d, .str "any"])) := Same.upd (Same.upd (Same.upd (Same.new ht) ((Same.new ht).free hl)) ((Same.upd (Same.new ht) ((Same.new ht).free hl)).free hd)) ((Same.upd (Same.upd (Same.new ht) ((Same.new ht).free hl)) ((Same.upd (Same.new ht) ((Same.new ht).free hl)).free hd)).free hr2)
  have nat_ : a ≠ t := ne_of_none ha ht
  have nal : a ≠ l := ne_of_none ((Same.new ht) _ _ ha) hl
  have htl : (upd H t (.tup [.int 1])) t = some (.tup [.int 1]) := upd_same
  have ntl : t ≠ l := ne_of_none htl hl
  have ntd : t ≠ d := ne_of_none (Same.new hl _ _ htl) hd
  have ntr : t ≠ r := ne_of_none (Same.new hd _ _ (Same.new hl _ _ htl)) hr2
  have nld : l ≠ d := ne_of_none (upd_same (H := upd H t (.tup [.int 1]))) hd
  have nlr : l ≠ r := ne_of_none (Same.new hd _ _ (upd_same (H := upd H t (.tup [.int 1])))) hr2
  have ndr : d ≠ r := ne_of_none upd_same hr2
  have nad : a ≠ d := ne_of_none (Same.new hl _ _ (Same.new ht _ _ ha)) hd
  have nar : a ≠ r := ne_of_none (Same.new hd _ _ (Same.new hl _ _ (Same.new ht _ _ ha))) hr2
  refine ⟨_, rfl, rfl, rfl, _, _, rfl, a, n, 7, rfl, s0 _ _ ha, rfl, by decide, by decide, fun i n' h0 h1 => ?_⟩
  generalize hH : upd (upd (upd (upd (upd H t (.tup [.int 1])) l (.lst [.int 1])) d (.dK [])) r (.lst [.str "2", .bl true, .bl false, .ref t, .ref l, .ref d, .str "any"])) a (.lst [.int n']) = H5
  have er : H5 r = some (.lst [.str "2", .bl true, .bl false, .ref t, .ref l, .ref d, .str "any"]) := by rw [← hH, upd_ne nar.symm, upd_same]
  have et : H5 t = some (.tup [.int 1]) := by rw [← hH, upd_ne nat_.symm, upd_ne ntr, upd_ne ntd, upd_ne ntl, upd_same]
  have el : H5 l = some (.lst [.int 1]) := by rw [← hH, upd_ne nal.symm, upd_ne nlr, upd_ne nld, upd_same]
  have ed : H5 d = some (.dK []) := by rw [← hH, upd_ne nad.symm, upd_ne ndr, upd_same]
  have dr : Dr a H H5 := ⟨⟨n', by rw [← hH, upd_same]⟩, fun b o nb h => by rw [← hH, upd_ne nb]; exact s0 b o h⟩
  have go : ∀ (j : Nat) (v : V), i = (j : Int) → [V.str "2", .bl true, .bl false, .ref t, .ref l, .ref d, .str "any"][j]? = some v → Oa a H5 v → Q v H5 := fun _ v _ _ o => q v H5 o dr
  have put : ∀ (j : Nat) (v : V), i = (j : Int) → ([V.str "2", .bl true, .bl false, .ref t, .ref l, .ref d, .str "any"] : List V)[j]? = some v → Oa a H5 v → rIx K (.ref r) (.int i) H5 Q := fun j v e1 e2 o => .inl ⟨r, _, _, _, rfl, rfl, .inl (.inl er), at_of e1 e2, q v H5 o dr⟩
  have : i = 0 ∨ i = 1 ∨ i = 2 ∨ i = 3 ∨ i = 4 ∨ i = 5 ∨ i = 6 := by omega
  rcases this with e | e | e | e | e | e | e
  · exact put 0 _ e rfl (.str _)
  · exact put 1 _ e rfl (.bl _)
  · exact put 2 _ e rfl (.bl _)
  · exact put 3 _ e rfl (.tup nat_.symm et)
  · exact put 4 _ e rfl (.lst nal.symm el)
  · exact put 5 _ e rfl (.dK nad.symm ed)
  · exact put 6 _ e rfl (.str _)
end
end W

namespace W
open PySem PySem.Spec PyProof.Rows L2
section
variable {P : Program} {w : World} {K : S.Frag} {mg : Str → Option Value} {base : Heap}
open S
def spVal : Sp := Sp2 fun x y H Q _ => ∃ (a : Addr) (n m : Int), x = .ref a ∧ H a = some (.lst [.int n]) ∧ y = .int m ∧ 0 ≤ m ∧ m ≤ 1000 ∧ ∀ v H', Oa a H' v → Dr a H H' → Q v H'
theorem ok__law_value (T : Txt K mg) : FnOk P w K mg base (L2.CX P w) 3 (He.fAd K ("_law_value", none)) (S.fdA K ("_law_value", none)) ["_law_draw", "_law_most"] (spVal) := by
  have G__law_take := ok__law_take (P := P) (w := w) (base := base) T
  have G__law_odd := ok__law_odd (P := P) (w := w) (base := base) T
  refine FunD.ok T.F__law_value sc__law_value (fun vs H Q E h => S.splen2 h) (fun cdv A outer s H vs Q E hr h => ?_)
  have hu := hu_of hr
  refine ⟨_, (pss_cons (ps_set (i := 2) sc__law_value.nd rfl (by first | exact Or.inl rfl | exact Or.inr rfl) (S.pe_fnS G__law_take (hr.mono (by decide)) rfl T.g__law_take T.F__law_take.kp (kb__law_take_2 T) S.pas0 (pa_cons (pv 0) (pa_cons pe_int pa_nil)) pk_nil rfl rfl))
      (pss_cons (ps_if (pt_cmpR op_eq (pv 2) pe_int (nomark _)) (pss_one (ps_ret (S.pe_fnS G__law_odd (hr.mono (by decide)) rfl T.g__law_odd T.F__law_odd.kp (kb__law_odd_1 T) S.pas0 (pa_cons (pv 0) pa_nil) pk_nil rfl rfl))) pss_nil)
      (pss_cons (ps_if (pt_cmpR op_eq (pv 2) pe_int (nomark _)) (pss_one (ps_ret pe_non)) pss_nil)
      (pss_cons (ps_if (pt_cmpR op_eq (pv 2) pe_int (nomark _)) (pss_one (ps_ret (pe_un un_neg pe_int))) pss_nil)
      (pss_one (ps_ret (S.pe_fnS G__law_take (hr.mono (by decide)) rfl T.g__law_take T.F__law_take.kp (kb__law_take_2 T) S.pas0 (pa_cons (pv 0) (pa_cons (pe_op op_add (pv 1) pe_int) pa_nil)) pk_nil rfl rfl))))))), ?_⟩
  obtain ⟨_, _, rfl, a, n, m, rfl, ha, rfl, m0, m1, q⟩ := h
  refine ⟨_, rfl, rfl, rfl, _, _, rfl, a, n, 10, rfl, ha, rfl, by decide, by decide, fun t n' h0 h1 => ?_⟩
  refine ⟨_, rfl, rfl, _, rfl, ?_⟩
  refine ite2 (fun c => ?_) (fun c => ?_)
  · exact ⟨_, rfl, rfl, rfl, _, rfl, a, n', rfl, upd_same, fun v H' o d => q v H' o (Dr.upd.trans d)⟩
  refine ⟨_, rfl, rfl, _, rfl, ite2 (fun c2 => ?_) (fun c2 => ?_)⟩
  · exact q _ _ .non Dr.upd
  refine ⟨_, rfl, rfl, _, rfl, ite2 (fun c3 => ?_) (fun c3 => ?_)⟩
  · exact ⟨1, rfl, q _ _ (.int _) Dr.upd⟩
  refine ⟨_, rfl, _, rfl, _, _, rfl, rfl, rfl, rfl, _, _, rfl, a, n', m + 2, rfl, upd_same, rfl, by omega, by omega, fun t2 n2 h2 h3 => ?_⟩
  exact q _ _ (.int _) (Dr.upd.trans Dr.upd)
def spDue (K : S.Frag) : Sp := Sp1 fun s H Q _ => ∃ (a : Addr) (x y z : V), s = .ref a ∧ H a = some (.lst [x, y, z]) ∧ Od H x ∧ Od H y ∧ Od H z ∧ Q (.str (due x y z)) H
theorem ix3 {H : Hp} {a : Addr} {xs : List V} {v : V} {i : Int} {Q : VK} (ha : H a = some (.lst xs)) (e : atI xs i = some v) (q : Q v H) : rIx K (.ref a) (.int i) H Q := .inl ⟨a, _, _, _, rfl, rfl, .inl (.inl ha), e, q⟩
theorem ixT {H : Hp} {a : Addr} {xs : List V} {v : V} {i : Int} {Q : VK} (ha : H a = some (.tup xs)) (e : atI xs i = some v) (q : Q v H) : rIx K (.ref a) (.int i) H Q := .inr (.inl ⟨a, _, _, _, rfl, rfl, .inl (.inl ha), e, q⟩)
theorem isInt_int {x : V} (h : isInt x = true) : ∃ i, x = .int i := by cases x <;> first | exact ⟨_, rfl⟩ | cases h
theorem inR_not {x : V} {a b : Int} (h : isInt x = false) : inR a b x = false := by cases x <;> first | rfl | cases h
theorem ok__law_due (T : Txt K mg) : FnOk P w K mg base (L2.CX P w) 2 (He.fAd K ("_law_due", none)) (S.fdA K ("_law_due", none)) ["_law_spec"] (spDue K) := by
  have G__law_is_integer := ok__law_is_integer (P := P) (w := w) (base := base) T
  refine FunD.ok T.F__law_due sc__law_due (fun vs H Q E h => S.splen1 h) (fun cdv A outer s H vs Q E hr h => ?_)
  have hu := hu_of hr
  refine ⟨_, (pss_cons (ps_if (PW.pt (pw_or (pt_not (pt_val (S.pe_fnS G__law_is_integer (hr.mono (by decide)) rfl T.g__law_is_integer T.F__law_is_integer.kp (kb__law_is_integer_1 T) S.pas0 (pa_cons (pe_ix (S.ixK (K := K) rfl) (pv 0) pe_int (fun _ _ => rfl)) pa_nil) pk_nil rfl rfl))) (pw_or1 (pt_not (pt_chain op_le op_le pe_int (pe_ix (S.ixK (K := K) rfl) (pv 0) pe_int (fun _ _ => rfl)) pe_int))))) (pss_one (ps_ret pe_str)) pss_nil)
      (pss_cons (ps_if (PW.pt (pw_or (pt_not (pt_val (S.pe_fnS G__law_is_integer (hr.mono (by decide)) rfl T.g__law_is_integer T.F__law_is_integer.kp (kb__law_is_integer_1 T) S.pas0 (pa_cons (pe_ix (S.ixK (K := K) rfl) (pv 0) pe_int (fun _ _ => rfl)) pa_nil) pk_nil rfl rfl))) (pw_or1 (pt_not (pt_chain op_le op_lt pe_int (pe_ix (S.ixK (K := K) rfl) (pv 0) pe_int (fun _ _ => rfl)) (pe_ix (S.ixK (K := K) rfl) (pv 0) pe_int (fun _ _ => rfl))))))) (pss_one (ps_ret pe_str)) pss_nil)
      (pss_cons (ps_if (PW.pt (pw_and (pt_cmpR op_notN (pe_ix (S.ixK (K := K) rfl) (pv 0) pe_int (fun _ _ => rfl)) pe_non (nomark _)) (pw_and1 (PW.pt (pw_or (pt_not (pt_val (S.pe_fnS G__law_is_integer (hr.mono (by decide)) rfl T.g__law_is_integer T.F__law_is_integer.kp (kb__law_is_integer_1 T) S.pas0 (pa_cons (pe_ix (S.ixK (K := K) rfl) (pv 0) pe_int (fun _ _ => rfl)) pa_nil) pk_nil rfl rfl))) (pw_or1 (pt_not (pt_chain op_le op_lt pe_int (pe_ix (S.ixK (K := K) rfl) (pv 0) pe_int (fun _ _ => rfl)) (pe_ix (S.ixK (K := K) rfl) (pv 0) pe_int (fun _ _ => rfl)))))))))) (pss_one (ps_ret pe_str)) pss_nil)
      (pss_one (ps_ret pe_str))))), ?_⟩
  obtain ⟨_, rfl, a, x, y, z, rfl, ha, ox, oy, oz, q⟩ := h
  refine ⟨_, rfl, ix3 ha rfl ⟨rfl, rfl, _, rfl, _, ox.isi, _, rfl, ?_⟩⟩
  cases c1 : isInt x with
  | false =>
    refine iteT (iteT ?_)
    rw [show due x y z = "period" by simp [due, inR_not c1]] at q
    exact q
  | true =>
    obtain ⟨i, rfl⟩ := isInt_int c1
    refine iteF ⟨_, rfl, ix3 ha rfl ⟨_, _, rfl, rfl, _, rfl, ?_⟩⟩
    have bad : inR 1 8 (.int i) = false → Q (.str "period") H := fun e => by
      rw [show due (.int i) y z = "period" by simp [due, e]] at q
      exact q
    by_cases d1 : 1 ≤ i
    · refine iteY (by simpa using d1) ⟨_, _, rfl, rfl, _, rfl, ?_⟩
      by_cases d2 : i ≤ 8
      · have e1 : inR 1 8 (.int i) = true := by simp [inR, d1, d2]
        refine iteN (by simpa using d2) ?_
        have bad2 : inR 0 (i - 1) y = false → Q (.str "jitter") H := fun e => by
          rw [show due (.int i) y z = "jitter" by simp [due, e, e1, intOf]] at q
          exact q
        refine ⟨_, rfl, ix3 ha rfl ⟨rfl, rfl, _, rfl, _, oy.isi, _, rfl, ?_⟩⟩
        cases c2 : isInt y with
        | false => exact iteT (iteT (bad2 (inR_not c2)))
        | true =>
          obtain ⟨l, rfl⟩ := isInt_int c2
          refine iteF ⟨_, rfl, ix3 ha rfl ⟨_, _, rfl, rfl, _, rfl, ?_⟩⟩
          by_cases d3 : 0 ≤ l
          · refine iteY (by simpa using d3) ⟨_, rfl, ix3 ha rfl ⟨_, _, rfl, rfl, _, rfl, ?_⟩⟩
            by_cases d4 : l < i
            · have e2 : inR 0 (i - 1) (.int l) = true := by simp [inR, d3]; omega
              refine iteN (by simpa using d4) ?_
              have bad3 : z ≠ .non → inR 0 (i - 1) z = false → Q (.str "phase") H := fun n e => by
                rw [show due (.int i) (.int l) z = "phase" by simp [due, e, e1, e2, intOf, n]] at q
                exact q
              have good : (z = .non ∨ inR 0 (i - 1) z = true) → Q (.str "") H := fun n => by
                rw [show due (.int i) (.int l) z = "" by rcases n with n | n <;> simp [due, e1, e2, intOf, n]] at q
                exact q
              refine ⟨_, rfl, ix3 ha rfl ⟨rfl, _, rfl, ?_⟩⟩
              by_cases d5 : z = .non
              · exact iteN (by simp [d5]) (iteF (good (.inl d5)))
              · refine iteY (by simp [d5]) ⟨_, rfl, ix3 ha rfl ⟨rfl, rfl, _, rfl, _, oz.isi, _, rfl, ?_⟩⟩
                cases c3 : isInt z with
                | false => exact iteT (iteT (bad3 d5 (inR_not c3)))
                | true =>
                  obtain ⟨t, rfl⟩ := isInt_int c3
                  refine iteF ⟨_, rfl, ix3 ha rfl ⟨_, _, rfl, rfl, _, rfl, ?_⟩⟩
                  by_cases d6 : 0 ≤ t
                  · refine iteY (by simpa using d6) ⟨_, rfl, ix3 ha rfl ⟨_, _, rfl, rfl, _, rfl, ?_⟩⟩
                    by_cases d7 : t < i
                    · exact iteN (by simpa using d7) (good (.inr (by simp [inR, d6]; omega)))
                    · exact iteY (by simpa using d7) (bad3 d5 (by simp [inR]; omega))
                  · exact iteN (by simpa using d6) ⟨_, rfl, iteT (bad3 d5 (by simp [inR, d6]))⟩
            · exact iteY (by simpa using d4) (bad2 (by simp [inR]; omega))
          · exact iteN (by simpa using d3) ⟨_, rfl, iteT (bad2 (by simp [inR, d3]))⟩
      · exact iteY (by simpa using d2) (bad (by simp [inR, d2]))
    · exact iteN (by simpa using d1) ⟨_, rfl, iteT (bad (by simp [inR, d1]))⟩
end
end W

namespace W
open PySem PySem.Spec PyProof.Rows L2
section
variable {P : Program} {w : World} {K : S.Frag} {mg : Str → Option Value} {base : Heap}
open S
/-- what comes of three values: a sampler, or a refusal -/
def Out (K : S.Frag) (H : Hp) (o : Addr) (x y z : V) : Prop :=
  (due x y z = "" ∧ ∃ p dx, H o = some (.tup [.str "made", .ref p]) ∧ H p = some (.ins (He.ga K "Sampler") dx (flds x y z))) ∨
  (due x y z ≠ "" ∧ H o = some (.tup [.str "refused", .str (due x y z), .bl true, .bl false]))
def spMade (K : S.Frag) : Sp := Sp1 fun s H Q _ => ∃ (a : Addr) (x y z : V), s = .ref a ∧ H a = some (.lst [x, y, z]) ∧ Od H x ∧ Od H y ∧ Od H z ∧
  ∀ o H', Same H H' → Out K H' o x y z → Q (.ref o) H'
theorem ok__law_made (T : Txt K mg) : FnOk P w K mg base (L2.CX P w) 5 (He.fAd K ("_law_made", none)) (S.fdA K ("_law_made", none)) ["_law_spec"] (spMade K) := by
  have G_Sampler___init__ := ok_Sampler___init__ (P := P) (w := w) (base := base) T
  refine FunD.ok T.F__law_made sc__law_made (fun vs H Q E h => S.splen1 h) (fun cdv A outer s H vs Q E hr h => ?_)
  have hu := hu_of hr
  refine ⟨_, (pss_cons (ps_try_as (i := 2) rfl rfl sc__law_made.nd rfl rfl ⟨rfl, by decide, .inl T.g_BadSampler⟩ takes0
        (fun W pn xe tk ow => (pss_one (ps_set (i := 1) sc__law_made.nd rfl (by first | exact Or.inl rfl | exact Or.inr rfl) (pe_tup (pa_cons pe_str (pa_cons (S.pe_mkS T.mk_Sampler G_Sampler___init__ (hr.mono (by decide)) rfl T.g_Sampler (kb_Sampler___init___3_phase T).choose_spec (fun σ => passAt tk σ) (pa_cons (pe_ix (S.ixK (K := K) rfl) (pv 0) pe_int (fun _ _ => rfl)) (pa_cons (pe_ix (S.ixK (K := K) rfl) (pv 0) pe_int (fun _ _ => rfl)) pa_nil)) (pk_cons (pe_ix (S.ixK (K := K) rfl) (pv 0) pe_int (fun _ _ => rfl)) pk_nil) rfl rfl) pa_nil))))))
        (fun a oe cls d pn hz hf => (pss_one (ps_set (i := 1) sc__law_made.nd rfl (by first | exact Or.inl rfl | exact Or.inr rfl) (pe_tup (pa_cons pe_str (pa_cons (pe_xf T.xf_BadSampler T.xn_BadSampler_why hz hf (pv 2) rfl) (pa_cons (pe_callB (S.call_isX T.xc_BadSampler hz hf) rfl T.n_isinstance S.boot_isinstance (pa_cons (pv 2) (pa_cons (pe_glob (v := .ref _) rfl T.g_SeenError rfl) pa_nil))) (pa_cons (pe_callB (S.call_isX T.xc_BadSampler hz hf) rfl T.n_isinstance S.boot_isinstance (pa_cons (pv 2) (pa_cons (pe_glob (v := .ref _) rfl T.g_BadPlace rfl) pa_nil))) pa_nil)))))))))
      (pss_one (ps_ret (pv 1)))), ?_⟩
  obtain ⟨_, rfl, a, x, y, z, rfl, ha, ox, oy, oz, q⟩ := h
  refine ⟨_, rfl, ix3 ha rfl ⟨_, rfl, ix3 ha rfl ⟨_, rfl, ix3 ha rfl ⟨rfl, rfl, fun p dx np ndx ne => ?_⟩⟩⟩⟩
  have s0 : Same H (upd (upd H dx (.own p)) p (.ins (He.ga K "Sampler") dx [])) := Same.upd (Same.new ndx) np
  refine ⟨_, _, _, _, rfl, p, dx, rfl, upd_same, ox.mono s0, oy.mono s0, oz.mono s0, fun e H' kp hp => ⟨rfl, ?_⟩, fun e d H' nd sm hd => ?_⟩
  · have s1 : Same H H' := fun b o hb => kp b o (s0 b o hb) (ne_of_none hb np)
    refine ⟨by show 2 ≤ sizeLine; decide, fun t ht => ⟨_, rfl, q t _ (Same.upd s1 (s1.free ht)) (.inl ⟨e, p, dx, upd_same, ?_⟩)⟩⟩
    rw [upd_ne (ne_of_none hp ht)]
    exact hp
  · have s1 := s0.trans sm
    refine ⟨true, T.xm_BadSampler_BadSampler, fun _ a0 ha0 => ?_, fun z => Bool.noConfusion z⟩
    refine ⟨_, rfl, rfl, rfl, d, _, _, rfl, hd, (by rw [lookup_put, if_pos rfl]), ?_⟩
    refine ⟨_, rfl, rfl, .inr ⟨d, _, rfl, hd⟩, _, _, _, rfl, .own _, T.xk_BadSampler_SeenError, ?_⟩
    refine ⟨_, rfl, rfl, .inr ⟨d, _, rfl, hd⟩, _, _, _, rfl, .own _, T.xk_BadSampler_BadPlace, ?_⟩
    exact ⟨by show 4 ≤ sizeLine; decide, fun t ht => ⟨_, rfl, q t _ (Same.upd s1 (s1.free ht)) (.inr ⟨e, upd_same⟩)⟩⟩
def spTurned (K : S.Frag) : Sp := Sp2 fun u s H Q _ => ∃ (p dx a : Addr) (x y z x' y' z' : V), u = .ref p ∧ s = .ref a ∧ H a = some (.lst [x, y, z]) ∧ H p = some (.ins (He.ga K "Sampler") dx (flds x' y' z')) ∧ Od H x ∧ Od H y ∧ Od H z ∧ Od H x' ∧ Od H y' ∧ Od H z' ∧
  ∀ o H', Same H H' → Out K H' o (kept x x') (kept y y') (kept z z') → Q (.ref o) H'
theorem ok__law_turned (T : Txt K mg) : FnOk P w K mg base (L2.CX P w) 6 (He.fAd K ("_law_turned", none)) (S.fdA K ("_law_turned", none)) ["_law_sampler", "_law_parts"] (spTurned K) := by
  have G_Sampler_with_values := ok_Sampler_with_values (P := P) (w := w) (base := base) T
  refine FunD.ok T.F__law_turned sc__law_turned (fun vs H Q E h => S.splen2 h) (fun cdv A outer s H vs Q E hr h => ?_)
  have hu := hu_of hr
  refine ⟨_, (pss_cons (ps_try_as (i := 3) rfl rfl sc__law_turned.nd rfl rfl ⟨rfl, by decide, .inl T.g_BadSampler⟩ takes0
        (fun W pn xe tk ow => (pss_one (ps_set (i := 2) sc__law_turned.nd rfl (by first | exact Or.inl rfl | exact Or.inr rfl) (pe_tup (pa_cons pe_str (pa_cons (S.pe_mtS0 (pv 0) T.cl_Sampler T.me_Sampler_with_values G_Sampler_with_values (hr.mono (by decide)) (kb_Sampler_with_values_1_phase_period_jitter T).choose_spec (fun σ => passAt tk σ)  (pk_cons (pe_ix (S.ixK (K := K) rfl) (pv 1) pe_int (fun _ _ => rfl)) (pk_cons (pe_ix (S.ixK (K := K) rfl) (pv 1) pe_int (fun _ _ => rfl)) (pk_cons (pe_ix (S.ixK (K := K) rfl) (pv 1) pe_int (fun _ _ => rfl)) pk_nil))) rfl rfl) pa_nil))))))
        (fun a oe cls d pn hz hf => (pss_one (ps_set (i := 2) sc__law_turned.nd rfl (by first | exact Or.inl rfl | exact Or.inr rfl) (pe_tup (pa_cons pe_str (pa_cons (pe_xf T.xf_BadSampler T.xn_BadSampler_why hz hf (pv 3) rfl) (pa_cons (pe_callB (S.call_isX T.xc_BadSampler hz hf) rfl T.n_isinstance S.boot_isinstance (pa_cons (pv 3) (pa_cons (pe_glob (v := .ref _) rfl T.g_SeenError rfl) pa_nil))) (pa_cons (pe_callB (S.call_isX T.xc_BadSampler hz hf) rfl T.n_isinstance S.boot_isinstance (pa_cons (pv 3) (pa_cons (pe_glob (v := .ref _) rfl T.g_BadPlace rfl) pa_nil))) pa_nil)))))))))
      (pss_one (ps_ret (pv 2)))), ?_⟩
  obtain ⟨_, _, rfl, p, dx, a, x, y, z, x', y', z', rfl, rfl, ha, hp, ox, oy, oz, ox', oy', oz', q⟩ := h
  refine ⟨_, rfl, p, dx, _, rfl, hp, lk_with _ _ _, _, rfl, ix3 ha rfl ⟨_, rfl, ix3 ha rfl ⟨_, rfl, ix3 ha rfl ⟨rfl, rfl, ?_⟩⟩⟩⟩
  refine ⟨_, _, _, _, rfl, p, dx, x', y', z', rfl, hp, ox, oy, oz, ox', oy', oz', fun e H' p' dx' s1 np hp' => ?_, fun e d H' nd s1 hd => ?_⟩
  · refine ⟨by show 2 ≤ sizeLine; decide, fun t ht => ⟨_, rfl, q t _ (Same.upd s1 (s1.free ht)) (.inl ⟨e, p', dx', upd_same, ?_⟩)⟩⟩
    rw [upd_ne (ne_of_none hp' ht)]
    exact hp'
  · refine ⟨true, T.xm_BadSampler_BadSampler, fun _ a0 ha0 => ?_, fun z => Bool.noConfusion z⟩
    refine ⟨_, rfl, rfl, rfl, d, _, _, rfl, hd, (by rw [lookup_put, if_pos rfl]), ?_⟩
    refine ⟨_, rfl, rfl, .inr ⟨d, _, rfl, hd⟩, _, _, _, rfl, .own _, T.xk_BadSampler_SeenError, ?_⟩
    refine ⟨_, rfl, rfl, .inr ⟨d, _, rfl, hd⟩, _, _, _, rfl, .own _, T.xk_BadSampler_BadPlace, ?_⟩
    exact ⟨by show 4 ≤ sizeLine; decide, fun t ht => ⟨_, rfl, q t _ (Same.upd s1 (s1.free ht)) (.inr ⟨e, upd_same⟩)⟩⟩
def spKept (K : S.Frag) : Sp := Sp2 fun x y H Q _ => Od H y ∧ Q (kept y x) H
theorem ok__law_kept (T : Txt K mg) : FnOk P w K mg base (L2.CX P w) 2 (He.fAd K ("_law_kept", none)) (S.fdA K ("_law_kept", none)) ["_law_old", "_law_part"] (spKept K) := by
  have G__law_is_integer := ok__law_is_integer (P := P) (w := w) (base := base) T
  refine FunD.ok T.F__law_kept sc__law_kept (fun vs H Q E h => S.splen2 h) (fun cdv A outer s H vs Q E hr h => ?_)
  have hu := hu_of hr
  refine ⟨_, (pss_cons (ps_if (PW.pt (pw_and (pt_val (S.pe_fnS G__law_is_integer (hr.mono (by decide)) rfl T.g__law_is_integer T.F__law_is_integer.kp (kb__law_is_integer_1 T) S.pas0 (pa_cons (pv 1) pa_nil) pk_nil rfl rfl)) (pw_and1 (pt_cmpR op_eq (pv 1) (pe_un un_neg pe_int) (nomark _))))) (pss_one (ps_ret (pv 0))) pss_nil)
      (pss_one (ps_ret (pv 1)))), ?_⟩
  obtain ⟨x, y, rfl, oy, q⟩ := h
  refine ⟨_, rfl, rfl, rfl, y, rfl, _, oy.isi, _, rfl, ?_⟩
  cases c : isInt y with
  | false =>
    have e : ¬ y = .int (-1) := fun z => by subst z; cases c
    rw [kept, if_neg e] at q
    exact iteN (by decide) (iteN (by decide) ⟨_, rfl, q⟩)
  | true =>
    obtain ⟨i, rfl⟩ := isInt_int c
    refine iteY rfl ⟨_, rfl, _, rfl, rfl, _, rfl, ?_⟩
    by_cases e : i = -1
    · subst e
      rw [kept, if_pos rfl] at q
      exact iteY (by decide) ⟨_, rfl, q⟩
    · rw [kept, if_neg (by simpa using e)] at q
      exact iteN (by simpa using e) ⟨_, rfl, q⟩
/-- the values of a sampler that stands -/
theorem due_ok {x y z : V} (h : due x y z = "") : ∃ i l : Int, x = .int i ∧ y = .int l ∧ 1 ≤ i ∧ i ≤ 8 ∧ 0 ≤ l ∧ l < i ∧ (z = .non ∨ ∃ t : Int, z = .int t ∧ 0 ≤ t ∧ t < i) := by
  unfold due at h
  split at h
  · exact absurd h (by decide +kernel)
  rename_i c1
  split at h
  · exact absurd h (by decide +kernel)
  rename_i c2
  split at h
  · exact absurd h (by decide +kernel)
  rename_i c3
  simp only [Bool.not_eq_true', Bool.not_eq_false] at c1 c2
  obtain ⟨i, rfl, a1, a2⟩ := inR_int c1
  obtain ⟨l, rfl, b1, b2⟩ := inR_int c2
  refine ⟨i, l, rfl, rfl, a1, a2, b1, by simp only [intOf] at b2; omega, ?_⟩
  by_cases hz : z = .non
  · exact .inl hz
  · right
    simp [hz] at c3
    obtain ⟨t, rfl, t1, t2⟩ := inR_int c3
    exact ⟨t, rfl, t1, by simp only [intOf] at t2; omega⟩
theorem due_is {x y z : V} (h : due x y z ≠ "") : due x y z = "period" ∨ due x y z = "jitter" ∨ due x y z = "phase" := by
  unfold due at h ⊢
  split
  · exact .inl rfl
  · split
    · exact .inr (.inl rfl)
    · split
      · exact .inr (.inr rfl)
      · rename_i c1 c2 c3
        rw [if_neg c1, if_neg c2, if_neg c3] at h
        exact absurd rfl h
theorem due_str {x y z : V} (h : due x y z ≠ "") : PyData.strOk (due x y z) = true := by
  rcases due_is h with e | e | e <;> rw [e] <;> decide +kernel
end
end W

namespace W
open PySem PySem.Spec PyProof.Rows L2
section
variable {P : Program} {w : World} {K : S.Frag} {mg : Str → Option Value} {base : Heap}
open S
def spFits (K : S.Frag) : Sp := Sp2 fun o s H Q _ => ∃ (b a : Addr) (x y z : V), o = .ref b ∧ s = .ref a ∧ H a = some (.lst [x, y, z]) ∧ Od H x ∧ Od H y ∧ Od H z ∧ Out K H b x y z ∧ ∀ H', Same H H' → Q (.bl true) H'
theorem ok__law_fits (T : Txt K mg) : FnOk P w K mg base (L2.CX P w) 3 (He.fAd K ("_law_fits", none)) (S.fdA K ("_law_fits", none)) ["_law_outcome", "_law_spec"] (spFits K) := by
  have G__law_due := ok__law_due (P := P) (w := w) (base := base) T
  have G__law_is_integer := ok__law_is_integer (P := P) (w := w) (base := base) T
  refine FunD.ok T.F__law_fits sc__law_fits (fun vs H Q E h => S.splen2 h) (fun cdv A outer s H vs Q E hr h => ?_)
  have hu := hu_of hr
  refine ⟨_, (pss_cons (ps_set (i := 2) sc__law_fits.nd rfl (by first | exact Or.inl rfl | exact Or.inr rfl) (S.pe_fnS G__law_due (hr.mono (by decide)) rfl T.g__law_due T.F__law_due.kp (kb__law_due_1 T) S.pas0 (pa_cons (pv 1) pa_nil) pk_nil rfl rfl))
      (pss_cons (ps_if (pt_cmpR op_ne (pv 2) pe_str (nomark _)) (pss_one (ps_ret (pe_cmpR (S.eqDK (K := K) rfl (S.hu64 hr)) (pv 0) (pe_tup (pa_cons pe_str (pa_cons (pv 2) (pa_cons pe_bl (pa_cons pe_bl pa_nil))))) (nomark _)))) pss_nil)
      (pss_cons (ps_if (PW.pt (pw_or (pt_cmpR op_ne (pe_ix (S.ixK (K := K) rfl) (pv 0) pe_int (fun _ _ => rfl)) pe_str (nomark _)) (pw_or (pt_not (pt_val (S.pe_fnS G__law_is_integer (hr.mono (by decide)) rfl T.g__law_is_integer T.F__law_is_integer.kp (kb__law_is_integer_1 T) S.pas0 (pa_cons (S.pe_fldK (K := K) rfl (pe_ix (S.ixK (K := K) rfl) (pv 0) pe_int (fun _ _ => rfl)) rfl) pa_nil) pk_nil rfl rfl))) (pw_or1 (pt_not (pt_val (S.pe_fnS G__law_is_integer (hr.mono (by decide)) rfl T.g__law_is_integer T.F__law_is_integer.kp (kb__law_is_integer_1 T) S.pas0 (pa_cons (S.pe_fldK (K := K) rfl (pe_ix (S.ixK (K := K) rfl) (pv 0) pe_int (fun _ _ => rfl)) rfl) pa_nil) pk_nil rfl rfl))))))) (pss_one (ps_ret pe_bl)) pss_nil)
      (pss_cons (ps_if (PW.pt (pw_and (pt_cmpR op_notN (S.pe_fldK (K := K) rfl (pe_ix (S.ixK (K := K) rfl) (pv 0) pe_int (fun _ _ => rfl)) rfl) pe_non (nomark _)) (pw_and1 (pt_not (pt_val (S.pe_fnS G__law_is_integer (hr.mono (by decide)) rfl T.g__law_is_integer T.F__law_is_integer.kp (kb__law_is_integer_1 T) S.pas0 (pa_cons (S.pe_fldK (K := K) rfl (pe_ix (S.ixK (K := K) rfl) (pv 0) pe_int (fun _ _ => rfl)) rfl) pa_nil) pk_nil rfl rfl)))))) (pss_one (ps_ret pe_bl)) pss_nil)
      (pss_one (ps_ret (pe_cmpR (S.eqDK (K := K) rfl (S.hu64 hr)) (pe_lst (pa_cons (S.pe_fldK (K := K) rfl (pe_ix (S.ixK (K := K) rfl) (pv 0) pe_int (fun _ _ => rfl)) rfl) (pa_cons (S.pe_fldK (K := K) rfl (pe_ix (S.ixK (K := K) rfl) (pv 0) pe_int (fun _ _ => rfl)) rfl) (pa_cons (S.pe_fldK (K := K) rfl (pe_ix (S.ixK (K := K) rfl) (pv 0) pe_int (fun _ _ => rfl)) rfl) pa_nil)))) (pv 1) (nomark _)))))))), ?_⟩
  obtain ⟨_, _, rfl, b, a, x, y, z, rfl, rfl, ha, ox, oy, oz, hO, q⟩ := h
  refine ⟨_, rfl, rfl, rfl, _, rfl, a, x, y, z, rfl, ha, ox, oy, oz, ?_⟩
  refine ⟨_, rfl, rfl, _, rfl, ?_⟩
  rcases hO with ⟨e, p, dx, hb, hp⟩ | ⟨e, hb⟩
  · refine iteN (by simp [e]) ?_
    obtain ⟨i, l, rfl, rfl, i1, i2, l1, l2, hz⟩ := due_ok e
    refine ⟨_, rfl, ixT hb rfl ⟨rfl, _, rfl, iteN (by decide +kernel) ?_⟩⟩
    refine ⟨_, rfl, ixT hb rfl ⟨p, _, dx, _, _, rfl, hp, T.cl_Sampler, T.na_Sampler_period, lk_period _ _ _, rfl, rfl, _, rfl, true, .int i, _, rfl, iteF ?_⟩⟩
    refine ⟨_, rfl, ixT hb rfl ⟨p, _, dx, _, _, rfl, hp, T.cl_Sampler, T.na_Sampler_jitter, lk_jitter _ _ _, rfl, rfl, _, rfl, true, .int l, _, rfl, iteF ?_⟩⟩
    have fin : z = .non ∨ (∃ t, z = .int t) → sca z = true := fun h => by rcases h with rfl | ⟨t, rfl⟩ <;> rfl
    have sz : sca z = true := fin (hz.imp id fun ⟨t, h, _⟩ => ⟨t, h⟩)
    refine ⟨_, rfl, ixT hb rfl ⟨p, _, dx, _, _, rfl, hp, T.cl_Sampler, T.na_Sampler_phase, lk_phase _ _ _, rfl, _, rfl, ?_⟩⟩
    have last : ∀ D : Ends, D.rt = Q → tRet (tOp (rEqD K) (tLst (tCons (tFld K (tOp (rIx K) (tVar 0) (tC (.int 1))) "period") (tCons (tFld K (tOp (rIx K) (tVar 0) (tC (.int 1))) "jitter") (tCons (tFld K (tOp (rIx K) (tVar 0) (tC (.int 1))) "phase") tNil)))) (tVar 1)) D [some (.ref b), some (.ref a), some (.str (due (.int i) (.int l) z))] H := by
      intro D hD
      refine ⟨_, rfl, ixT hb rfl ⟨p, _, dx, _, _, rfl, hp, T.cl_Sampler, T.na_Sampler_period, lk_period _ _ _, ?_⟩⟩
      refine ⟨_, rfl, ixT hb rfl ⟨p, _, dx, _, _, rfl, hp, T.cl_Sampler, T.na_Sampler_jitter, lk_jitter _ _ _, ?_⟩⟩
      refine ⟨_, rfl, ixT hb rfl ⟨p, _, dx, _, _, rfl, hp, T.cl_Sampler, T.na_Sampler_phase, lk_phase _ _ _, ?_⟩⟩
      refine ⟨by show 3 ≤ sizeLine; decide, fun t ht => ⟨_, rfl, rEqL_true (.inl (.inl upd_same)) (.inl (.inl (Same.new ht _ _ ha))) (by rw [List.all_cons, List.all_cons, List.all_cons, sz]; rfl) ?_⟩⟩
      rw [hD]
      exact q _ (Same.new ht)
    rcases hz with rfl | ⟨t, rfl, t1, t2⟩
    · exact iteN (by decide) (iteF (last _ rfl))
    · exact iteY (by simp) ⟨_, rfl, ixT hb rfl ⟨p, _, dx, _, _, rfl, hp, T.cl_Sampler, T.na_Sampler_phase, lk_phase _ _ _, rfl, rfl, _, rfl, true, .int t, _, rfl, iteF (last _ rfl)⟩⟩
  · refine iteY (by simp [e]) ⟨_, rfl, _, rfl, by show 4 ≤ sizeLine; decide, fun t ht => ?_⟩
    exact rEqT_true (.inl (.inl (Same.new ht _ _ hb))) (.inl (.inl upd_same)) (by simp [sca, due_str e]; decide +kernel) (q _ (Same.new ht))
/-- the law's: a list of ints is handed in, True comes out -/
def spLaw (K : S.Frag) : Sp := Sp1 fun x H Q _ => ∃ (a : Addr) (ns : List Int), x = .ref a ∧ SqL K H a (ns.map V.int) ∧ ns.length ≤ 63 ∧ ∀ H', Q (.bl true) H'
theorem not_self (b : Bool) : ¬ decide (V.bl (!b) = V.bl b) = true := by cases b <;> decide
/-- an int or None -/
def io : V → Bool
  | .int _ => true
  | .non => true
  | _ => false
theorem due_io {x y z : V} (h : due x y z = "") : io x = true ∧ io y = true ∧ io z = true := by
  obtain ⟨i, l, rfl, rfl, _, _, _, _, hz⟩ := due_ok h
  rcases hz with rfl | ⟨t, rfl, _⟩ <;> exact ⟨rfl, rfl, rfl⟩
theorem io_od {H : Hp} {x : V} (h : io x = true) : Od H x := by
  cases x with
  | int i => exact .int i
  | non => exact .non
  | _ => cases h
theorem io_sca {x : V} (h : io x = true) : sca x = true := by
  cases x with
  | int i => rfl
  | non => rfl
  | _ => cases h
theorem io_scal {x y : V} (h : io x = true) (k : io y = true) : scal x y = true := by
  cases x with
  | int i => cases y with
    | int j => rfl
    | non => rfl
    | _ => cases k
  | non => cases y with
    | int j => rfl
    | non => rfl
    | _ => cases k
  | _ => cases h
theorem io_eqv {x y : V} (h : io x = true) (k : io y = true) : PyData.eqv (dat x) (dat y) = decide (x = y) := by
  cases x with
  | int i => cases y with
    | int j => simp [dat, PyData.eqv]; exact Bool.beq_eq_decide_eq i j
    | non => simp [dat, PyData.eqv]
    | _ => cases k
  | non => cases y with
    | int j => simp [dat, PyData.eqv]
    | non => simp [dat, PyData.eqv]
    | _ => cases k
  | _ => cases h
/-- the sampler p and its values' list sp -/
structure Std (K : S.Frag) (H : Hp) (sp p : Addr) (x y z : V) : Prop where
  du : due x y z = ""
  hs : H sp = some (.lst [x, y, z])
  hp : ∃ dx, H p = some (.ins (He.ga K "Sampler") dx (flds x y z))
theorem Std.same {H H' : Hp} {sp p : Addr} {x y z : V} (h : Std K H sp p x y z) (s : Same H H') : Std K H' sp p x y z := ⟨h.du, s _ _ h.hs, let ⟨dx, e⟩ := h.hp; ⟨dx, s _ _ e⟩⟩
/-- one new thing at r beside what stood -/
theorem dr_same {r : Addr} {H H1 H2 : Hp} (h : Same H H1) (n : H r = none) (d : Dr r H1 H2) : Same H H2 := fun b o e => d.kp b o (ne_of_none e n) (h b o e)
theorem ok_law (T : Txt K mg) : FnOk P w K mg base (L2.CX P w) 7 (He.fAd K ("law", none)) (S.fdA K ("law", none)) ["_law_script"] (spLaw K) := by
  have G__law_cell := ok__law_cell (P := P) (w := w) (base := base) T
  have G__law_value := ok__law_value (P := P) (w := w) (base := base) T
  have G__law_made := ok__law_made (P := P) (w := w) (base := base) T
  have G__law_fits := ok__law_fits (P := P) (w := w) (base := base) T
  have G__law_take := ok__law_take (P := P) (w := w) (base := base) T
  have G_Sampler___init__ := ok_Sampler___init__ (P := P) (w := w) (base := base) T
  have G__law_kept := ok__law_kept (P := P) (w := w) (base := base) T
  have G__law_turned := ok__law_turned (P := P) (w := w) (base := base) T
  have G_Sampler_with_values := ok_Sampler_with_values (P := P) (w := w) (base := base) T
  have G_Sampler___eq__ := ok_Sampler___eq__ (P := P) (w := w) (base := base) T
  refine FunD.ok T.F_law sc_law (fun vs H Q E h => S.splen1 h) (fun cdv A outer s H vs Q E hr h => ?_)
  have hu := hu_of hr
  refine ⟨_, (pss_cons (ps_set (i := 1) sc_law.nd rfl (by first | exact Or.inl rfl | exact Or.inr rfl) (pe_lst (pa_cons (S.pe_fnS G__law_cell (hr.mono (by decide)) rfl T.g__law_cell T.F__law_cell.kp (kb__law_cell_2 T) S.pas0 (pa_cons (pv 0) (pa_cons pe_int pa_nil)) pk_nil rfl rfl) pa_nil)))
      (pss_cons (ps_set (i := 2) sc_law.nd rfl (by first | exact Or.inl rfl | exact Or.inr rfl) (pe_lst (pa_cons (S.pe_fnS G__law_value (hr.mono (by decide)) rfl T.g__law_value T.F__law_value.kp (kb__law_value_2 T) S.pas0 (pa_cons (pv 1) (pa_cons pe_int pa_nil)) pk_nil rfl rfl) (pa_cons (S.pe_fnS G__law_value (hr.mono (by decide)) rfl T.g__law_value T.F__law_value.kp (kb__law_value_2 T) S.pas0 (pa_cons (pv 1) (pa_cons pe_int pa_nil)) pk_nil rfl rfl) (pa_cons (S.pe_fnS G__law_value (hr.mono (by decide)) rfl T.g__law_value T.F__law_value.kp (kb__law_value_2 T) S.pas0 (pa_cons (pv 1) (pa_cons pe_int pa_nil)) pk_nil rfl rfl) pa_nil)))))
      (pss_cons (ps_set (i := 3) sc_law.nd rfl (by first | exact Or.inl rfl | exact Or.inr rfl) (S.pe_fnS G__law_made (hr.mono (by decide)) rfl T.g__law_made T.F__law_made.kp (kb__law_made_1 T) S.pas0 (pa_cons (pv 2) pa_nil) pk_nil rfl rfl))
      (pss_cons (ps_if (pt_not (pt_val (S.pe_fnS G__law_fits (hr.mono (by decide)) rfl T.g__law_fits T.F__law_fits.kp (kb__law_fits_2 T) S.pas0 (pa_cons (pv 3) (pa_cons (pv 2) pa_nil)) pk_nil rfl rfl))) (pss_one (ps_ret pe_bl)) pss_nil)
      (S.pss_cut (ps_if (pt_cmpR op_ne (pe_ix (S.ixK (K := K) rfl) (pv 3) pe_int (fun _ _ => rfl)) pe_str (nomark _)) (pss_cons (ps_set (i := 2) sc_law.nd rfl (by first | exact Or.inl rfl | exact Or.inr rfl) (pe_lst (pa_cons (pe_op op_add pe_int (S.pe_fnS G__law_take (hr.mono (by decide)) rfl T.g__law_take T.F__law_take.kp (kb__law_take_2 T) S.pas0 (pa_cons (pv 1) (pa_cons pe_int pa_nil)) pk_nil rfl rfl)) (pa_cons pe_int (pa_cons pe_int pa_nil)))))
      (pss_cons (ps_set (i := 3) sc_law.nd rfl (by first | exact Or.inl rfl | exact Or.inr rfl) (pe_tup (pa_cons pe_str (pa_cons (S.pe_mkS T.mk_Sampler G_Sampler___init__ (hr.mono (by decide)) rfl T.g_Sampler (kb_Sampler___init___2 T).choose_spec (S.pasE (takes_of rfl rfl rfl rfl)) (pa_cons (pe_ix (S.ixK (K := K) rfl) (pv 2) pe_int (fun _ _ => rfl)) pa_nil) pk_nil rfl rfl) pa_nil))))
      (pss_one (ps_if (pt_not (pt_val (S.pe_fnS G__law_fits (hr.mono (by decide)) rfl T.g__law_fits T.F__law_fits.kp (kb__law_fits_2 T) S.pas0 (pa_cons (pv 3) (pa_cons (pv 2) pa_nil)) pk_nil rfl rfl))) (pss_one (ps_ret pe_bl)) pss_nil)))) pss_nil)
      (pss_cons (ps_set (i := 4) sc_law.nd rfl (by first | exact Or.inl rfl | exact Or.inr rfl) (pe_ix (S.ixK (K := K) rfl) (pv 3) pe_int (fun _ _ => rfl)))
      (pss_cons (ps_for (S.own_of rfl) rfl (pi_range1 rfl T.n_range (pa_cons (pe_op op_add pe_int (pe_callB (S.lenK (K := K) rfl) rfl T.n_len S.boot_len (pa_cons (pe_slice (S.slLK (K := K) rfl) (pv 0) (po_some pe_int) (po_some pe_int)) pa_nil))) pa_nil)) (pg_name (i := 5) sc_law.nd rfl (by first | exact Or.inl rfl | exact Or.inr rfl))
        (pss_cons (ps_set (i := 1) sc_law.nd rfl (by first | exact Or.inl rfl | exact Or.inr rfl) (pe_lst (pa_cons (S.pe_fnS G__law_cell (hr.mono (by decide)) rfl T.g__law_cell T.F__law_cell.kp (kb__law_cell_2 T) S.pas0 (pa_cons (pv 0) (pa_cons (pe_op op_add pe_int (pv 5)) pa_nil)) pk_nil rfl rfl) pa_nil)))
      (pss_cons (ps_set (i := 6) sc_law.nd rfl (by first | exact Or.inl rfl | exact Or.inr rfl) (pe_lst (pa_cons (S.pe_fnS G__law_value (hr.mono (by decide)) rfl T.g__law_value T.F__law_value.kp (kb__law_value_2 T) S.pas0 (pa_cons (pv 1) (pa_cons pe_int pa_nil)) pk_nil rfl rfl) (pa_cons (S.pe_fnS G__law_value (hr.mono (by decide)) rfl T.g__law_value T.F__law_value.kp (kb__law_value_2 T) S.pas0 (pa_cons (pv 1) (pa_cons (pe_ix (S.ixK (K := K) rfl) (pv 2) pe_int (fun _ _ => rfl)) pa_nil)) pk_nil rfl rfl) (pa_cons (S.pe_fnS G__law_value (hr.mono (by decide)) rfl T.g__law_value T.F__law_value.kp (kb__law_value_2 T) S.pas0 (pa_cons (pv 1) (pa_cons (pe_ix (S.ixK (K := K) rfl) (pv 2) pe_int (fun _ _ => rfl)) pa_nil)) pk_nil rfl rfl) pa_nil)))))
      (pss_cons (ps_setLc (i := 7) (own := [("_law_j", 8)]) (g := gName 8) (tt := tYes) rfl sc_law.nd rfl rfl (sw_true rfl rfl rfl (by decide +kernel)) (pi_range1 rfl T.n_range (pa_cons pe_int pa_nil)) (blkOk_by (N := ["_law_script", "_law_draw", "_law_spec", "_law_outcome", "_law_sampler", "_law_k", "_law_parts", "_law_after", "_law_j"]) (sc := defScope s_law) (by decide +kernel)) (fun _ _ _ _ _ => pg_name (i := 8) sc_law.nd rfl (by first | exact Or.inl rfl | exact Or.inr rfl)) (fun _ _ _ _ _ => pts_nil) (fun _ _ _ _ _ => (S.pe_fnS G__law_kept (hr.mono (by decide)) rfl T.g__law_kept T.F__law_kept.kp (kb__law_kept_2 T) S.pas0 (pa_cons (pe_ix (S.ixK (K := K) rfl) (pv 2) (pv 8) (fun _ _ => rfl)) (pa_cons (pe_ix (S.ixK (K := K) rfl) (pv 6) (pv 8) (fun _ _ => rfl)) pa_nil)) pk_nil rfl rfl)))
      (pss_cons (ps_set (i := 3) sc_law.nd rfl (by first | exact Or.inl rfl | exact Or.inr rfl) (S.pe_fnS G__law_turned (hr.mono (by decide)) rfl T.g__law_turned T.F__law_turned.kp (kb__law_turned_2 T) S.pas0 (pa_cons (pv 4) (pa_cons (pv 6) pa_nil)) pk_nil rfl rfl))
      (pss_cons (ps_if (PW.pt (pw_or (pt_not (pt_val (S.pe_fnS G__law_fits (hr.mono (by decide)) rfl T.g__law_fits T.F__law_fits.kp (kb__law_fits_2 T) S.pas0 (pa_cons (pv 3) (pa_cons (pv 7) pa_nil)) pk_nil rfl rfl))) (pw_or1 (pt_not (pt_val (S.pe_fnS G__law_fits (hr.mono (by decide)) rfl T.g__law_fits T.F__law_fits.kp (kb__law_fits_2 T) S.pas0 (pa_cons (pe_tup (pa_cons pe_str (pa_cons (pv 4) pa_nil))) (pa_cons (pv 2) pa_nil)) pk_nil rfl rfl)))))) (pss_one (ps_ret pe_bl)) pss_nil)
      (pss_cons (ps_if (pt_not (pt_val (S.pe_fnS G__law_fits (hr.mono (by decide)) rfl T.g__law_fits T.F__law_fits.kp (kb__law_fits_2 T) S.pas0 (pa_cons (pe_tup (pa_cons pe_str (pa_cons (S.pe_mtS0 (pv 4) T.cl_Sampler T.me_Sampler_with_values G_Sampler_with_values (hr.mono (by decide)) (kb_Sampler_with_values_1_jitter T).choose_spec (S.pasE (takes_of rfl rfl rfl rfl))  (pk_cons pe_int pk_nil) rfl rfl) pa_nil))) (pa_cons (pe_lst (pa_cons (pe_ix (S.ixK (K := K) rfl) (pv 2) pe_int (fun _ _ => rfl)) (pa_cons pe_int (pa_cons (pe_ix (S.ixK (K := K) rfl) (pv 2) pe_int (fun _ _ => rfl)) pa_nil)))) pa_nil)) pk_nil rfl rfl))) (pss_one (ps_ret pe_bl)) pss_nil)
      (pss_one (ps_if (pt_cmpR op_eq (pe_ix (S.ixK (K := K) rfl) (pv 3) pe_int (fun _ _ => rfl)) pe_str (nomark _)) (pss_cons (ps_if (PW.pt (pw_or (pt_cmpR op_ne (pe_cmpR (S.op_ownI (C := He.ga K "Sampler") S.hop_eq T.me_Sampler___eq__.1 T.me_Sampler___eq__.2 (S.raw_of G_Sampler___eq__ (kb_Sampler___eq___2 T)) (hr.mono (by decide))) (pe_ix (S.ixK (K := K) rfl) (pv 3) pe_int (fun _ _ => rfl)) (pv 4) (nomark _)) (pe_cmpR (S.eqDK (K := K) rfl (S.hu64 hr)) (pv 2) (pv 7) (nomark _)) (nomark _)) (pw_or1 (pt_cmpR op_eq (pe_cmpR (S.op_neI (C := He.ga K "Sampler") T.ne_Sampler T.is_Sampler.hm T.me_Sampler___eq__.1 T.me_Sampler___eq__.2 (S.raw_of G_Sampler___eq__ (kb_Sampler___eq___2 T)) (hr.mono (by decide))) (pv 4) (pe_ix (S.ixK (K := K) rfl) (pv 3) pe_int (fun _ _ => rfl)) (nomark _)) (pe_cmpR (S.eqDK (K := K) rfl (S.hu64 hr)) (pv 2) (pv 7) (nomark _)) (nomark _))))) (pss_one (ps_ret pe_bl)) pss_nil)
      (pss_cons (ps_set (i := 4) sc_law.nd rfl (by first | exact Or.inl rfl | exact Or.inr rfl) (pe_ix (S.ixK (K := K) rfl) (pv 3) pe_int (fun _ _ => rfl)))
      (pss_one (ps_set (i := 2) sc_law.nd rfl (by first | exact Or.inl rfl | exact Or.inr rfl) (pv 7))))) pss_nil)))))))))
      (pss_one (ps_ret (pe_and (pe_cmpR (S.op_ownI (C := He.ga K "Sampler") S.hop_eq T.me_Sampler___eq__.1 T.me_Sampler___eq__.2 (S.raw_of G_Sampler___eq__ (kb_Sampler___eq___2 T)) (hr.mono (by decide))) (pv 4) (S.pe_mkS T.mk_Sampler G_Sampler___init__ (hr.mono (by decide)) rfl T.g_Sampler (kb_Sampler___init___3_phase T).choose_spec (S.pasE (takes_of rfl rfl rfl rfl)) (pa_cons (pe_ix (S.ixK (K := K) rfl) (pv 2) pe_int (fun _ _ => rfl)) (pa_cons (pe_ix (S.ixK (K := K) rfl) (pv 2) pe_int (fun _ _ => rfl)) pa_nil)) (pk_cons (pe_ix (S.ixK (K := K) rfl) (pv 2) pe_int (fun _ _ => rfl)) pk_nil) rfl rfl) (nomark _)) (pe_one (pe_cmpR (S.op_ownI (C := He.ga K "Sampler") S.hop_eq T.me_Sampler___eq__.1 T.me_Sampler___eq__.2 (S.raw_of G_Sampler___eq__ (kb_Sampler___eq___2 T)) (hr.mono (by decide))) (pv 4) (S.pe_mtS0 (pv 4) T.cl_Sampler T.me_Sampler_with_values G_Sampler_with_values (hr.mono (by decide)) (kb_Sampler_with_values_1 T).choose_spec (S.pasE (takes_of rfl rfl rfl rfl))  pk_nil rfl rfl) (nomark _))))))))))))), ?_⟩
  obtain ⟨_, rfl, a, ns, rfl, hS, hl, q⟩ := h
  refine ⟨_, rfl, rfl, rfl, _, _, rfl, a, ns, 0, rfl, rfl, Int.le_refl 0, hS, fun n0 hn0 => ?_⟩
  refine ⟨by show 1 ≤ sizeLine; decide, fun r hr0 => ?_⟩
  have s0 : Same H (upd H r (.lst [.int n0])) := Same.new hr0
  refine ⟨_, rfl, rfl, rfl, _, _, rfl, r, n0, 9, rfl, upd_same, rfl, by decide, by decide, fun v1 H1 o1 d1 => ?_⟩
  obtain ⟨m1, e1⟩ := d1.at_
  refine ⟨_, rfl, rfl, rfl, _, _, rfl, r, m1, 3, rfl, e1, rfl, by decide, by decide, fun v2 H2 o2 d2 => ?_⟩
  obtain ⟨m2, e2⟩ := d2.at_
  refine ⟨_, rfl, rfl, rfl, _, _, rfl, r, m2, 3, rfl, e2, rfl, by decide, by decide, fun v3 H3 o3 d3 => ?_⟩
  obtain ⟨m3, e3⟩ := d3.at_
  have s3 : Same H H3 := dr_same (dr_same (dr_same s0 hr0 d1) hr0 d2) hr0 d3
  refine ⟨by show 3 ≤ sizeLine; decide, fun sp hsp => ?_⟩
  have s4 := Same.upd (o := .lst [v1, v2, v3]) s3 (s3.free hsp)
  have q1 := ((o1.dr d2).dr d3).od.mono (Same.new (o := .lst [v1, v2, v3]) hsp)
  have q2 := (o2.dr d3).od.mono (Same.new (o := .lst [v1, v2, v3]) hsp)
  have q3 := o3.od.mono (Same.new (o := .lst [v1, v2, v3]) hsp)
  refine ⟨_, rfl, rfl, rfl, _, rfl, sp, v1, v2, v3, rfl, upd_same, q1, q2, q3, fun o H5 s5 hO => ?_⟩
  have s6 := s4.trans s5
  have e5 : H5 sp = some (.lst [v1, v2, v3]) := s5 _ _ upd_same
  have er : H5 r = some (.lst [.int m3]) := s5 _ _ (Same.new hsp _ _ e3)
  refine ⟨_, rfl, _, rfl, rfl, rfl, _, _, rfl, o, sp, v1, v2, v3, rfl, rfl, e5, q1.mono s5, q2.mono s5, q3.mono s5, hO, fun H6 s7 => ⟨_, rfl, iteF ?_⟩⟩
  have s8 := s6.trans s7
  refine ⟨fun τ J => Same H J ∧ ∃ sp oc p x y z, Std K J sp p x y z ∧ J oc = some (.tup [.str "made", .ref p]) ∧ ∃ t, τ = [some (.ref a), t, some (.ref sp), some (.ref oc), none, none, none, none, none], ?_, ?_⟩
  · rcases hO with ⟨e, p, dx, ho, hp⟩ | ⟨e, ho⟩
    · refine ⟨_, rfl, ixT (s7 _ _ ho) rfl ⟨rfl, _, rfl, iteN (by decide +kernel) ?_⟩⟩
      exact ⟨s8, sp, o, p, v1, v2, v3, ⟨e, s7 _ _ e5, dx, s7 _ _ hp⟩, s7 _ _ ho, _, rfl⟩
    · refine ⟨_, rfl, ixT (s7 _ _ ho) rfl ⟨rfl, _, rfl, iteY (by decide +kernel) ?_⟩⟩
      refine ⟨_, rfl, rfl, rfl, _, _, rfl, r, m3, 8, rfl, s7 _ _ er, rfl, by decide, by decide, fun t n' t0 t1 => ⟨_, _, rfl, rfl, ?_⟩⟩
      have s9 : Same H (upd H6 r (.lst [.int n'])) := Same.upd s8 hr0
      refine ⟨by show 3 ≤ sizeLine; decide, fun sq hsq => ?_⟩
      have s10 := Same.upd (o := .lst [.int (1 + t), .int 0, .int 0]) s9 (s9.free hsq)
      have du : due (.int (1 + t)) (.int 0) (.int 0) = "" := by
        have c1 : inR 1 8 (.int (1 + t)) = true := by simp [inR]; omega
        have c2 : inR 0 (1 + t - 1) (.int 0) = true := by simp [inR]; omega
        simp [due, c1, c2, intOf]
      refine ⟨_, rfl, ix3 upd_same rfl ⟨rfl, rfl, fun p dx np ndx ne => ?_⟩⟩
      refine ⟨_, _, _, _, rfl, p, dx, rfl, upd_same, .int _, .int _, .int _, fun e H7 kp hp => ⟨rfl, ?_⟩, fun e => absurd du e⟩
      have s11 : Same (upd (upd H6 r (.lst [.int n'])) sq (.lst [.int (1 + t), .int 0, .int 0])) H7 := fun b o hb => kp b o (Same.upd (Same.new ndx) np b o hb) (ne_of_none hb np)
      refine ⟨by show 2 ≤ sizeLine; decide, fun oc hoc => ?_⟩
      have s12 := Same.new (o := .tup [.str "made", .ref p]) hoc
      refine ⟨_, rfl, _, rfl, rfl, rfl, _, _, rfl, oc, sq, _, _, _, rfl, rfl, s12 _ _ (s11 _ _ upd_same), .int _, .int _, .int _, .inl ⟨du, p, dx, upd_same, s12 _ _ hp⟩, fun H8 s13 => ⟨_, rfl, iteF ?_⟩⟩
      exact ⟨((s10.trans s11).trans s12).trans s13, sq, oc, p, _, _, _, ⟨du, s13 _ _ (s12 _ _ (s11 _ _ upd_same)), dx, s13 _ _ (s12 _ _ hp)⟩, s13 _ _ upd_same, _, rfl⟩
  · rintro τ J ⟨sJ, sp, oc, p, x, y, z, S, ho, tt, rfl⟩
    refine ⟨_, rfl, ixT ho rfl ?_⟩
    refine ⟨_, rfl, 1, rfl, 60, rfl, a, _, rfl, sJ.seq hS, fun c hc => ⟨_, _, rfl, .inl ⟨_, .inl (.inl upd_same), rfl⟩, _, _, rfl, rfl, ?_⟩⟩
    have lc : (cutV (ns.map V.int) (some 1) (some 60)).length ≤ 1000000 := by
      have h1 := cutV_length (ns.map V.int) (some 1) (some 60)
      rw [List.length_map] at h1
      omega
    refine ⟨_, rfl, by omega, by omega, for_range (n := (1 + ((cutV (ns.map V.int) (some 1) (some 60)).length : Int)).toNat) (fun i σ J2 => Same H J2 ∧ ∃ sp p x y z, Std K J2 sp p x y z ∧ ∃ t1 t3 t5 t6 t7 t8, σ = [some (.ref a), t1, some (.ref sp), t3, some (.ref p), t5, t6, t7, t8])
      ⟨Same.upd sJ (sJ.free hc), sp, p, x, y, z, S.same (Same.new hc), _, _, _, _, _, _, rfl⟩ ?_ ?_⟩
    · rintro i σ J2 hi ⟨s1, sp, p, x, y, z, S, t1, t3, t5, t6, t7, t8, rfl⟩
      obtain ⟨dx, hp⟩ := S.hp
      obtain ⟨ix, iy, iz⟩ := due_io S.du
      obtain ⟨wi, wl, hwi, hwl, i1, i2, l1, l2, hz⟩ := due_ok S.du
      -- draw, parts
      refine ⟨_, rfl, _, rfl, _, _, rfl, rfl, rfl, rfl, _, _, rfl, a, ns, _, rfl, rfl, by omega, s1.seq hS, fun n hn => ⟨by show 1 ≤ sizeLine; decide, fun r2 hr2 => ?_⟩⟩
      have hr2H : H r2 = none := s1.free hr2
      have sA : Same J2 (upd J2 r2 (.lst [.int n])) := Same.new hr2
      refine ⟨_, rfl, rfl, rfl, _, _, rfl, r2, n, 9, rfl, upd_same, rfl, by decide, by decide, fun v1 H1 o1 d1 => ?_⟩
      obtain ⟨m1, e1⟩ := d1.at_
      have sB := dr_same sA hr2 d1
      have hsB := sB _ _ S.hs
      refine ⟨_, rfl, _, rfl, ix3 hsB rfl ⟨rfl, rfl, _, _, rfl, r2, m1, wi, rfl, e1, hwi, by omega, by omega, fun v2 H2 o2 d2 => ?_⟩⟩
      obtain ⟨m2, e2⟩ := d2.at_
      have sC := dr_same sB hr2 d2
      refine ⟨_, rfl, _, rfl, ix3 (sC _ _ S.hs) rfl ⟨rfl, rfl, _, _, rfl, r2, m2, wi, rfl, e2, hwi, by omega, by omega, fun v3 H3 o3 d3 => ?_⟩⟩
      have sD := dr_same sC hr2 d3
      refine ⟨by show 3 ≤ sizeLine; decide, fun pa hpa => ?_⟩
      have sE := Same.upd (o := .lst [v1, v2, v3]) sD (sD.free hpa)
      have q1 := ((o1.dr d2).dr d3).od.mono (Same.new (o := .lst [v1, v2, v3]) hpa)
      have q2 := (o2.dr d3).od.mono (Same.new (o := .lst [v1, v2, v3]) hpa)
      have q3 := o3.od.mono (Same.new (o := .lst [v1, v2, v3]) hpa)
      generalize hJ : upd H3 pa (.lst [v1, v2, v3]) = J3 at sE q1 q2 q3
      have ep : J3 pa = some (.lst [v1, v2, v3]) := by rw [← hJ, upd_same]
      -- after
      refine ⟨3, rfl, by decide, by decide, fun D hD => lc_range (n := 3) (fun i J4 => Same J3 J4 ∧ J4 D = some (.lst (([kept v1 x, kept v2 y, kept v3 z] : List V).take i))) ⟨Same.new hD, upd_same⟩ ?_ ?_⟩
      · rintro k J4 hk ⟨s4, eD⟩
        have g : ∃ u v, [x, y, z][k]? = some u ∧ [v1, v2, v3][k]? = some v ∧ Od J3 v ∧ ([kept v1 x, kept v2 y, kept v3 z] : List V).take (k + 1) = ([kept v1 x, kept v2 y, kept v3 z] : List V).take k ++ [kept v u] := by
          match k, hk with
          | 0, _ => exact ⟨_, _, rfl, rfl, q1, rfl⟩
          | 1, _ => exact ⟨_, _, rfl, rfl, q2, rfl⟩
          | 2, _ => exact ⟨_, _, rfl, rfl, q3, rfl⟩
        obtain ⟨u, v, g1, g2, g3, g4⟩ := g
        refine ⟨rfl, ⟨_, rfl, _, rfl, ix3 (s4 _ _ (sE _ _ S.hs)) (at_of (Int.zero_add _) g1) ⟨_, rfl, _, rfl, ix3 (s4 _ _ ep) (at_of (Int.zero_add _) g2) ⟨rfl, rfl, _, _, rfl, g3.mono s4, _, eD, ?_, Same.upd s4 hD, ?_⟩⟩⟩⟩
        · rw [List.length_take]
          exact Nat.lt_of_le_of_lt (Nat.min_le_left _ _) (small1000 (by omega))
        · rw [g4, upd_same]
      · rintro J4 ⟨s4, eD⟩
        have s5 := sE.trans s4
        have S4 := S.same s5
        have hp4 := s5 _ _ hp
        have eD : J4 D = some (.lst [kept v1 x, kept v2 y, kept v3 z]) := eD
        refine ⟨_, rfl, _, rfl, rfl, rfl, _, _, rfl, p, dx, pa, v1, v2, v3, x, y, z, rfl, rfl, s4 _ _ ep, hp4, q1.mono s4, q2.mono s4, q3.mono s4, io_od ix, io_od iy, io_od iz, fun o H5 s6 hO => ?_⟩
        have k1 : Od H5 (kept v1 x) := ((q1.mono s4).kept (io_od ix)).mono s6
        have k2 : Od H5 (kept v2 y) := ((q2.mono s4).kept (io_od iy)).mono s6
        have k3 : Od H5 (kept v3 z) := ((q3.mono s4).kept (io_od iz)).mono s6
        refine ⟨_, rfl, _, rfl, rfl, rfl, _, _, rfl, o, D, _, _, _, rfl, rfl, s6 _ _ eD, k1, k2, k3, hO, fun H6 s7 => ⟨_, rfl, iteF ?_⟩⟩
        have s8 := s6.trans s7
        refine ⟨_, rfl, by show 2 ≤ sizeLine; decide, fun w1 hw1 => ?_⟩
        have s9 := s8.trans (Same.new (o := .tup [.str "made", .ref p]) hw1)
        refine ⟨_, rfl, rfl, rfl, _, _, rfl, w1, sp, x, y, z, rfl, rfl, s9 _ _ S4.hs, io_od ix, io_od iy, io_od iz, .inl ⟨S.du, p, dx, upd_same, s9 _ _ hp4⟩, fun H7 s10 => ⟨_, rfl, iteF ?_⟩⟩
        have s11 := s9.trans s10
        have e1 : ∀ u, kept (.int (-1)) u = u := fun u => if_pos rfl
        have e0 : kept (.int 0) y = .int 0 := if_neg (by decide)
        have du0 : due x (.int 0) z = "" := by
          subst hwi hwl
          have c1 : inR 1 8 (.int wi) = true := by simp [inR]; omega
          have c2 : inR 0 (wi - 1) (.int 0) = true := by simp [inR]; omega
          rcases hz with rfl | ⟨t, rfl, ta, tb⟩
          · simp [due, c1, c2, intOf]
          · have c3 : inR 0 (wi - 1) (.int t) = true := by simp [inR]; omega
            simp [due, c1, c2, c3, intOf]
        refine ⟨_, rfl, p, dx, _, rfl, s11 _ _ hp4, lk_with _ _ _, rfl, rfl, _, _, _, _, rfl, p, dx, x, y, z, rfl, s11 _ _ hp4, .int _, .int _, .int _, io_od ix, io_od iy, io_od iz, fun e H8 p3 dx3 s12 np3 hp3 => ?_, fun e => absurd (by rw [e1, e1, e0]; exact du0) e⟩
        rw [e1, e1, e0] at hp3
        have s13 := s11.trans s12
        refine ⟨by show 2 ≤ sizeLine; decide, fun w2 hw2 => ?_⟩
        have s14 := s13.trans (Same.new (o := .tup [.str "made", .ref p3]) hw2)
        refine ⟨_, rfl, ix3 (s14 _ _ S4.hs) rfl ⟨_, rfl, ix3 (s14 _ _ S4.hs) rfl ⟨by show 3 ≤ sizeLine; decide, fun w3 hw3 => ?_⟩⟩⟩
        have n3 := Same.new (o := .lst [x, .int 0, z]) hw3
        have s15 := s14.trans n3
        refine ⟨rfl, rfl, _, _, rfl, w2, w3, x, .int 0, z, rfl, rfl, upd_same, io_od ix, .int _, io_od iz, .inl ⟨du0, p3, dx3, n3 _ _ upd_same, n3 _ _ (Same.new hw2 _ _ hp3)⟩, fun H9 s16 => ⟨_, rfl, iteF ?_⟩⟩
        have s17 := s15.trans s16
        have s17o : Same H5 H9 := ((((s7.trans (Same.new hw1)).trans s10).trans s12).trans ((Same.new hw2).trans n3)).trans s16
        have sH : Same H H9 := (s1.trans s5).trans (s6.trans s17o)
        have S9 := S4.same (s6.trans s17o)
        rcases hO with ⟨e, p', dx', ho, hp'⟩ | ⟨e, ho⟩
        · have ho9 := s17o _ _ ho
          have hp9 := s17o _ _ hp'
          have hpp := s6.trans s17o _ _ hp4
          have eD9 := s6.trans s17o _ _ eD
          obtain ⟨jx, jy, jz⟩ := due_io e
          have eqb : PyData.eqvAll ([x, y, z].map dat) ([kept v1 x, kept v2 y, kept v3 z].map dat) = (decide (x = kept v1 x) && (decide (y = kept v2 y) && decide (z = kept v3 z))) := by
            simp only [List.map_cons, List.map_nil, PyData.eqvAll, io_eqv ix jx, io_eqv iy jy, io_eqv iz jz, Bool.and_true]
          refine ⟨_, rfl, ixT ho9 rfl ⟨rfl, _, rfl, iteY (by decide +kernel) ?_⟩⟩
          have nf : PySem.W.notFirst K (He.ga K "Sampler") (.ref (He.ga K "Sampler")) = true := by simp [PySem.W.notFirst]
          have sc3 : [x, y, z].all sca = true := by simp [io_sca ix, io_sca iy, io_sca iz]
          have sc4 : [kept v1 x, kept v2 y, kept v3 z].all sca = true := by simp [io_sca jx, io_sca jy, io_sca jz]
          have eqs : (decide (kept v1 x = x) && (decide (kept v2 y = y) && decide (kept v3 z = z))) = (decide (x = kept v1 x) && (decide (y = kept v2 y) && decide (z = kept v3 z))) := by
            simp only [eq_comm]
          refine ⟨_, rfl, ixT ho9 rfl ⟨_, rfl, p', dx', _, p, _, dx, _, rfl, rfl, hp9, hpp, nf, _, _, rfl, p', dx', _, _, _, p, dx, _, _, _, rfl, rfl, hp9, hpp, io_scal jx ix, io_scal jy iy, io_scal jz iz, ?_⟩⟩
          refine ⟨_, rfl, _, rfl, rEqL (.inl (.inl S9.hs)) (.inl (.inl eD9)) sc3 sc4 ⟨rfl, ?_⟩⟩
          rw [eqb, eqs]
          refine ⟨_, rfl, iteN (by simp) ?_⟩
          refine ⟨_, rfl, _, rfl, ixT ho9 rfl ⟨p, dx, _, p', _, dx', _, rfl, rfl, hpp, hp9, nf, _, _, rfl, p, dx, _, _, _, p', dx', _, _, _, rfl, rfl, hpp, hp9, io_scal ix jx, io_scal iy jy, io_scal iz jz, _, rfl, ?_⟩⟩
          refine ⟨_, rfl, _, rfl, rEqL (.inl (.inl S9.hs)) (.inl (.inl eD9)) sc3 sc4 ⟨rfl, ?_⟩⟩
          rw [eqb]
          refine ⟨_, rfl, iteN (not_self _) ?_⟩
          refine ⟨_, rfl, ixT ho9 rfl ⟨_, rfl, ?_⟩⟩
          exact ⟨sH, D, p', _, _, _, ⟨e, eD9, dx', hp9⟩, _, _, _, _, _, _, rfl⟩
        · refine ⟨_, rfl, ixT (s17o _ _ ho) rfl ⟨rfl, _, rfl, iteN (by decide +kernel) ?_⟩⟩
          exact ⟨sH, sp, p, x, y, z, S9, _, _, _, _, _, _, rfl⟩
    · rintro σ J2 ⟨s1, sp, p, x, y, z, S, t1, t3, t5, t6, t7, t8, rfl⟩
      obtain ⟨dx, hp⟩ := S.hp
      obtain ⟨ix, iy, iz⟩ := due_io S.du
      refine ⟨_, rfl, _, rfl, ix3 S.hs rfl ⟨_, rfl, ix3 S.hs rfl ⟨_, rfl, ix3 S.hs rfl ⟨rfl, rfl, fun p2 dx2 np ndx ne => ?_⟩⟩⟩⟩
      have s2 : Same J2 (upd (upd J2 dx2 (.own p2)) p2 (.ins (He.ga K "Sampler") dx2 [])) := Same.upd (Same.new ndx) np
      refine ⟨_, _, _, _, rfl, p2, dx2, rfl, upd_same, io_od ix, io_od iy, io_od iz, fun e H7 kp hp2 => ⟨rfl, ?_⟩, fun e => absurd S.du e⟩
      have s3 : Same J2 H7 := fun b o hb => kp b o (s2 b o hb) (ne_of_none hb np)
      refine ⟨p, dx, _, p2, _, dx2, _, rfl, rfl, s3 _ _ hp, hp2, (by simp [PySem.W.notFirst]), _, _, rfl, p, dx, x, y, z, p2, dx2, x, y, z, rfl, rfl, s3 _ _ hp, hp2, io_scal ix ix, io_scal iy iy, io_scal iz iz, _, rfl, iteY (by simp) ?_⟩
      have e1 : ∀ u, kept (.int (-1)) u = u := fun u => if_pos rfl
      refine ⟨_, rfl, _, rfl, p, dx, _, rfl, s3 _ _ hp, lk_with _ _ _, rfl, rfl, _, _, _, _, rfl, p, dx, x, y, z, rfl, s3 _ _ hp, .int _, .int _, .int _, io_od ix, io_od iy, io_od iz, fun e H8 p3 dx3 s4 np3 hp3 => ?_, fun e => absurd (by rw [e1, e1, e1]; exact S.du) e⟩
      rw [e1, e1, e1] at hp3
      refine ⟨p, dx, _, p3, _, dx3, _, rfl, rfl, s4 _ _ (s3 _ _ hp), hp3, (by simp [PySem.W.notFirst]), _, _, rfl, p, dx, x, y, z, p3, dx3, x, y, z, rfl, rfl, s4 _ _ (s3 _ _ hp), hp3, io_scal ix ix, io_scal iy iy, io_scal iz iz, ?_⟩
      simpa using q H8
end
end W

namespace W
open PySem PySem.Spec PyProof.Rows L2
abbrev R : PySem.W.OpenRow := PySem.W.OpenLaw.row PySem.Challenge.rw_seenshares_k10_sampler
abbrev hk : PySem.W.Hook := S.hookX 6 cks fns
def ob (s : PySem.W.SharedT) : He.AlD := S.obsXG 6 cks fns (HandSHeadRun.getT s)
theorem ob_eq (s : PySem.W.SharedT) : ob s = hk.obs s.abs := S.obsXG_eq (HandSHeadRun.getT_eq s)
def lo0 : List PySem.Str := ["is_integer", "is_within", "SeenError", "BadPlace", "BadSampler", "MOST_PERIOD", "new_value", "Sampler", "_law_cell", "_law_take", "_law_is_integer", "_law_odd", "_law_value", "_law_due", "_law_made", "_law_turned", "_law_fits", "_law_kept"]
def lo : List PySem.Str := lo0
set_option maxHeartbeats 0 in
theorem run (w : World) : HandSHeadRun.RunEq R (PySem.W.view R.prog [22]) hk ob 3000 lo w := by
  intro os
  kernel_rfl
theorem facts {P : Program} {w : World} {K : S.Frag} {h : Heap} {mg : Str → Option Value} {f : Addr} (X : K.In h) (G : h.Ns mainGlobals mg) (hfa : mg ("law" : Str) = some (.ref f)) (c : S.SaysX cks fns K) :
    ∃ fd : FuncData, (∀ (s : Shared) (v : Value), BindsTo s fd ⟨[v], []⟩ [("_law_script", v)]) ∧ ∀ base : Heap, FnOk P w K mg base (L2.CX P w) 7 f fd ["_law_script"] (spLaw K) := by
  have T : Txt K mg := txt_of X G c
  have e := hfa.symm.trans T.g_law
  cases e
  have b := FunD.bindsA (ps := ["_law_script"]) T.F_law fun _ _ _ _ _ _ us hl => match us, hl with | [_], _ => rfl
  exact ⟨_, fun s v => b s [v] rfl, fun base => ok_law T⟩
end W
open PySem PySem.W PySem.Calls PyProof.Rows
set_option maxRecDepth 100000 in
set_option maxHeartbeats 0 in
theorem PySem.Challenge.cw_seenshares_k10_sampler_holds : PySem.Challenge.rw_seenshares_k10_sampler.Holds := by
  w_on; o_law
  refine HandSHeadRun.head_any (r := OpenLaw.row PySem.Challenge.rw_seenshares_k10_sampler) (q := view (OpenLaw.row PySem.Challenge.rw_seenshares_k10_sampler).prog [22]) (H := _root_.W.hk) (ob := _root_.W.ob) (M := 3000)
    (loose := _root_.W.lo) (d := HandSHeadRun.topDef (OpenLaw.row PySem.Challenge.rw_seenshares_k10_sampler).prog 22) (kwd := []) _root_.W.ob_eq (by kernel_rfl) (fun s => by kernel_rfl) _root_.W.run
    (by kernel_rfl) (by kernel_rfl) (by kernel_rfl) (by rfl) (by first | assumption | decide +kernel) (by decide +kernel) ⟨rfl, rfl, rfl, rfl, rfl, by decide +kernel⟩ ?hw ?hc
  case hw => w_witness2
  case hc =>
    refine _root_.S.walk_X (l := PySem.Challenge.rw_seenshares_k10_sampler) (n := 63) (k := 7) (x := "_law_script") rfl (by decide) (by kernel_rfl) ⟨rfl, by decide, by decide⟩ ?F
    intro w mg fa h Y G hmg0
    obtain ⟨K, KX, c⟩ := Y
    have hmg : mg ("law" : PySem.Str) = some (.ref fa) := by
      have e : (HandSHeadRun.topDef (OpenLaw.row PySem.Challenge.rw_seenshares_k10_sampler).prog 22).name = ("law" : PySem.Str) := by kernel_rfl
      rw [← e]; exact hmg0
    obtain ⟨fd, hb, hF⟩ := _root_.W.facts (P := (PySem.Challenge.rw_seenshares_k10_sampler).prog) (w := w) KX G hmg c
    exact ⟨K, fd, _root_.W.spLaw K, KX, hb, fun H a ns hl hbits _ hS => ⟨_, rfl, a, ns, rfl, hS, hl, fun _ => rfl⟩, fun base _ _ => hF base⟩

