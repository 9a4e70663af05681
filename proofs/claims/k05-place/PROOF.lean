import PyProof.Rows.All
import Wide.All
import OpenK.AllK
import Wide.FinOn
import KE.KStateDown
import Lean
import HandS.Base
import HandS.Call
import HandS.List
import HandS.Comp
import HandS.Ends
import HandS.Dict
import HandS.Iter
import HandS.Text
import HandS.More
import HandS.Exc
import HandS.Words
import HandS.WordsList
import HandS.WordsDict
import HandS.WordsExc
import HandS.Defaults
import HandS.MakeKw
import HandS.IsInst
import HandS.Wide
import HandS.ExcInit
import HandS.ExcField
import HandS.ExcIs
import HandS.SlotsOwn
import HandS.NamedTupSort
import HandS.OwnEq
import HandS.EndBits
import HandS.Head0
import HandS.Head1
import HandS.Head2
import HandS.HeadEnd
import HandS.HeadHook1
import HandS.HeadHook2
import PySem.Challenge.RW_seenshares_k05_place
set_option Elab.async false
set_option linter.all false
set_option maxRecDepth 100000
set_option maxHeartbeats 4000000
namespace S
open PySem PySem.Spec PyProof.Rows L2
/-! the head's facts as plain Bools over the written part -/
abbrev Frag := PySem.W.Frag
abbrev Ck := Frag → Bool
def obsX (ck : List Ck) (fn : List He.DefD) (K : Frag) : He.AlD :=
  (ck.all (fun c => c K) && fn.all (fun d => d.ok K), fn.map (fun d => He.fnW K d.at_))
def obsXG (n : Nat) (ck : List Ck) (fn : List He.DefD) (g : Addr → Option Obj) : He.AlD :=
  obsX ck fn (He.frG g (He.asD g n))
def SaysX (ck : List Ck) (fn : List He.DefD) (K : Frag) : Prop := obsX ck fn K = He.valD fn
def hookX (n : Nat) (ck : List Ck) (fn : List He.DefD) : PySem.W.Hook where
  α := He.AlD
  obs := fun s => obsXG n ck fn s.heap.get?
  val := fun _ => He.valD fn
  says := fun _ h => ∃ K : Frag, K.In h ∧ SaysX ck fn K
  of := fun _ _ e => ⟨_, He.frG_in, e⟩
  keeps := fun _ _ _ ⟨K, hK, c⟩ k => ⟨K, PySem.W.Frag.In.keeps hK k, c⟩
theorem obsXG_eq {n : Nat} {ck : List Ck} {fn : List He.DefD} {g : Addr → Option Obj} {s : Shared}
    (h : ∀ a, g a = s.heap.get? a) : obsXG n ck fn g = (hookX n ck fn).obs s := by
  have e : g = s.heap.get? := funext h
  subst e
  exact rfl
theorem SaysX.bools {ck : List Ck} {fn : List He.DefD} {K : Frag} (c : SaysX ck fn K) :
    (ck.all (fun c => c K) && fn.all (fun d => d.ok K)) = true := congrArg Prod.fst c
theorem SaysX.fact {ck : List Ck} {fn : List He.DefD} {K : Frag} (c : SaysX ck fn K) (i : Nat) {f : Ck}
    (h : ck[i]? = some f := by rfl) : f K = true :=
  List.all_eq_true.mp (He.ba c.bools).1 f (List.mem_of_getElem? h)
/-- the function object that stands there -/
def fdA (K : Frag) (p : Str × Option Str) : FuncData := match K.lookup (He.fAd K p) with
  | some ⟨_, _, .func fd, _⟩ => fd
  | _ => PySem.W.fnOf "" "" ⟨[], [], none, [], [], none, []⟩ [] ⟨.function, [], false, false, []⟩ .none .none .none .none none .none .none
abbrev FunA (K : Frag) (d : He.DefD) : Prop :=
  FunD K d.name d.qual d.params d.body d.scope (d.dvs K) (d.kws K) (He.fAd K d.at_) (fdA K d.at_)
theorem SaysX.def_ {ck : List Ck} {fn : List He.DefD} {K : Frag} (c : SaysX ck fn K) (i : Nat) {d : He.DefD}
    (h : fn[i]? = some d := by rfl) : FunA K d := by
  have e : fn.map (fun d => He.fnW K d.at_) = fn.map He.DefD.val := congrArg Prod.snd c
  have e2 := congrArg (fun l => l[i]?) e
  simp only [List.getElem?_map, h, Option.map_some, Option.some.injEq] at e2
  obtain ⟨fd, F⟩ := He.DefD.funD e2 (List.all_eq_true.mp (He.ba c.bools).2 d (List.mem_of_getElem? h))
  have q : fdA K d.at_ = fd := by
    obtain ⟨oc, od, dV, kV, doc, pm, an, cdv, ct, osl, r, lk, _⟩ := F.ex
    unfold fdA
    rw [lk]
  unfold FunA
  rw [q]
  exact F
/-! own exception classes, over ValueError at any depth -/
def oexO (K : Frag) (C : Addr) : Bool := (match K.lookup C with
  | some ⟨.type "type", _, .cls cd, sl⟩ => (match cd.mro, sl.toList with
    | .ref C' :: bm, [_, _, _, _, some (.builtin n), _] =>
      C' == C && (n == "ValueError.__new__" && (!cd.hasDel && (cd.hasDict && PySem.HandSPX.refsVE bm)))
    | _, _ => false)
  | _ => false)
theorem oexO_ok {K : Frag} {C : Addr} (q : oexO K C = true) :
    ∃ nm qn N bs bm sn sub ab col dd k0 k1 k2 k3 k5, K.lookup C = some (excClassObj nm qn C N bs bm true sn sub ab col dd k0 k1 k2 k3 k5 "ValueError.__new__") ∧ PySem.HandSPX.refsVE bm = true := by
  unfold oexO at q
  split at q
  · rename_i dd cd sl ho
    split at q
    · rename_i c1 bm k0 k1 k2 k3 n k5 hm hs
      simp only [Bool.and_eq_true, beq_iff_eq, Bool.not_eq_true'] at q
      obtain ⟨e1, e2, e3, e4, e5⟩ := q
      subst e1 e2
      obtain ⟨nm, bs, mro, ns, qn, hd, sn, sub, ab, col, dl⟩ := cd
      simp only at hm e3 e4
      subst hm e3 e4
      obtain ⟨l⟩ := sl
      simp only at hs
      subst hs
      exact ⟨nm, qn, ns, bs, bm, sn, sub, ab, col, dd, k0, k1, k2, k3, k5, ho, e5⟩
    · cases q
  · cases q
def oexB (K : Frag) (C : Addr) : Bool := oexO K C && (He.eqO (PySem.W.findIn K (.ref C) "__setattr__") (some (some (.builtin "object.__setattr__"))) &&
  (decide (PySem.W.subIn K (.ref C) (.type "BaseException") = some true) && (decide (PySem.W.typeIn K (.ref C) = some (.type "type")) && PySem.W.keepIn K (.ref C))))
theorem oexB_ok {K : Frag} {C : Addr} (q : oexB K C = true) : OexC K C := by
  obtain ⟨a, q⟩ := He.ba q
  obtain ⟨b, q⟩ := He.ba q
  obtain ⟨c, q⟩ := He.ba q
  obtain ⟨d, e⟩ := He.ba q
  exact ⟨oexO_ok a, He.eqO_ok b, of_decide_eq_true c, of_decide_eq_true d, e⟩
def excB (K : Frag) (D : Addr) : Bool := xfB K D && (He.eqO (PySem.W.findIn K (.ref D) "__class__") (some (some (.builtin "object.__class__"))) &&
  (He.eqO (PySem.W.specialIn K (.builtin "object.__class__") "__get__") (some (some (.builtin "getset_descriptor.__get__"))) &&
  (decide (PySem.W.takesIn K (.builtin "object.__class__") = some true) && decide (PySem.W.mroIn K D (.type "object") = some true))))
theorem excB_ok {K : Frag} {D : Addr} (q : excB K D = true) : ExcC K D := by
  obtain ⟨a, q⟩ := He.ba q
  obtain ⟨b, q⟩ := He.ba q
  obtain ⟨c, q⟩ := He.ba q
  obtain ⟨d, e⟩ := He.ba q
  have x := xfB_ok a
  exact ⟨x.ga, x.gg, x.exC, x.hdC, He.eqO_ok b, He.eqO_ok c, of_decide_eq_true d, of_decide_eq_true e⟩
end S
namespace S
open PySem PySem.Spec PyProof.Rows L2
/-! promises by their number of arguments -/
def Sp1 (f : V → Hp → VK → XK → Prop) : Sp := fun vs H Q E => ∃ x, vs = [x] ∧ f x H Q E
def Sp2 (f : V → V → Hp → VK → XK → Prop) : Sp := fun vs H Q E => ∃ x y, vs = [x, y] ∧ f x y H Q E
def Sp3 (f : V → V → V → Hp → VK → XK → Prop) : Sp := fun vs H Q E => ∃ x y z, vs = [x, y, z] ∧ f x y z H Q E
def Sp4 (f : V → V → V → V → Hp → VK → XK → Prop) : Sp := fun vs H Q E => ∃ x y z u, vs = [x, y, z, u] ∧ f x y z u H Q E
def Sp5 (f : V → V → V → V → V → Hp → VK → XK → Prop) : Sp := fun vs H Q E => ∃ x y z u v, vs = [x, y, z, u, v] ∧ f x y z u v H Q E
section
variable {vs : List V} {H : Hp} {Q : VK} {E : XK}
theorem splen1 {f} (h : Sp1 f vs H Q E) : vs.length = 1 := by obtain ⟨_, rfl, _⟩ := h; rfl
theorem splen2 {f} (h : Sp2 f vs H Q E) : vs.length = 2 := by obtain ⟨_, _, rfl, _⟩ := h; rfl
theorem splen3 {f} (h : Sp3 f vs H Q E) : vs.length = 3 := by obtain ⟨_, _, _, rfl, _⟩ := h; rfl
theorem splen4 {f} (h : Sp4 f vs H Q E) : vs.length = 4 := by obtain ⟨_, _, _, _, rfl, _⟩ := h; rfl
theorem splen5 {f} (h : Sp5 f vs H Q E) : vs.length = 5 := by obtain ⟨_, _, _, _, _, rfl, _⟩ := h; rfl
end
/-! built-ins by name -/
theorem boot_int : bootBuiltins "int" = some (.type "int") := by decide +kernel
theorem boot_bool : bootBuiltins "bool" = some (.type "bool") := by decide +kernel
theorem boot_str : bootBuiltins "str" = some (.type "str") := by decide +kernel
theorem boot_list : bootBuiltins "list" = some (.type "list") := by decide +kernel
theorem boot_tuple : bootBuiltins "tuple" = some (.type "tuple") := by decide +kernel
theorem boot_dict : bootBuiltins "dict" = some (.type "dict") := by decide +kernel
theorem boot_len : bootBuiltins "len" = some (.builtin "len") := by decide +kernel
theorem boot_abs : bootBuiltins "abs" = some (.builtin "abs") := by decide +kernel
theorem boot_isinstance : bootBuiltins "isinstance" = some (.builtin "isinstance") := by decide +kernel
section
variable {X : Cx} {CX : CXT} {k n : Nat} {f C : Addr} {fd : FuncData} {ps ks : List Str} {sp : Sp} {E : L2.St → XK} {x m : Str} {p pos apos : Pos} {o e : Expr} {es : List Expr} {kws : List Keyword} {ta : TE} {t tk : TA} {g : List Value → List Value → List Value} {gV : List V → List V → List V}
theorem pe_globI {i : Int} (hg : Gl X x) (h : ∃ t, X.mg x = some (.int i t)) (hd : (x == ("__debug__" : Str)) = false := by decide) : PE X (.Name x pos) (tC (.int i)) := by
  obtain ⟨t, h⟩ := h
  exact pe_glob hg h ⟨t, rfl⟩ hd
theorem pe_globS {z : Str} (hg : Gl X x) (h : ∃ t, X.mg x = some (.str z t)) (hd : (x == ("__debug__" : Str)) = false := by decide) : PE X (.Name x pos) (tC (.str z)) := by
  obtain ⟨t, h⟩ := h
  exact pe_glob hg h ⟨t, rfl⟩ hd
/-! what is raised, wished for at the slots -/
theorem pas0 {X : Cx} : ∀ σ : L2.St, PassesAt (L2.CX X.prog X.w) X σ E0 := fun σ pins H s e s' I c => passL pins σ H s e s' I c
theorem pasE {X : Cx} {W : WX} (tk : Takes X W) : ∀ σ : L2.St, PassesAt (L2.CX X.prog X.w) X σ (fun cls d H => W cls d σ H) := fun σ => passAt tk σ
theorem own_of {K : Value → Shared → Prop} {E1 : Value → Shared → Prop} (hx : X.xe = fun e s' => wpAny (model X.prog X.w) X.A (leaving X.env e) (fun _ s2 => K e s2) E1 s') : PassesOwn (model X.prog X.w) X.A X.env X.xe := passes_of hx
theorem kb_of_binds {K : Frag} {ds : List Value} {dvs : List V} (hb : Binds K fd ps ds) (hd : Vals dvs ds) (hl : n + dvs.length = ps.length) : KBn K fd ps n [] (fun us _ => us ++ ds) (fun vs _ => vs ++ dvs) where
  to := fun s us ws k l1 l2 => by
    have e : ([] : List Str).zip ws = [] := rfl
    rw [e]
    exact hb s us k (by rw [List.length_append, l1, ← hd.length]; exact hl)
  rel := fun r _ => r.append hd
/-! f(e, .., k = v, ..); C(e, .., k = v, ..); o.m(e, .., k = v, ..) -/
def tFnS (n m : Nat) (sp : Sp) (gV : List V → List V → List V) (E : L2.St → XK) (t tk : TA) : TE := fun σ H Q =>
  t σ H fun vs H1 => tk σ H1 fun zs H2 => vs.length = n ∧ zs.length = m ∧ sp (gV vs zs) H2 Q (E σ)
def tMkS (C : Addr) (n m : Nat) (sp : Sp) (gV : List V → List V → List V) (E : L2.St → XK) (t tk : TA) : TE := fun σ H Q =>
  t σ H fun vs H1 => tk σ H1 fun zs H2 => vs.length = n ∧ zs.length = m ∧ ∀ x dx, H2 x = none → H2 dx = none → dx ≠ x →
    sp (gV (.ref x :: vs) zs) (upd (upd H2 dx (.own x)) x (.ins C dx [])) (fun v H3 => v = .non ∧ Q (.ref x) H3) (E σ)
def tMtS (C : Addr) (m : Str) (n l : Nat) (sp : Sp) (gV : List V → List V → List V) (E : L2.St → XK) (ta : TE) (t tk : TA) : TE := fun σ H Q =>
  ta σ H fun x H1 => ∃ a dx fs, x = .ref a ∧ H1 a = some (.ins C dx fs) ∧ fs.lookup m = none ∧
    t σ H1 fun vs H2 => tk σ H2 fun zs H3 => vs.length = n ∧ zs.length = l ∧ sp (gV (x :: vs) zs) H3 Q (E σ)
section
variable {pins : List (Addr × Obj)} {σ : L2.St} {H : Hp} {s : Shared} {Q : VK} {us ws : List Value} {vs zs : List V}
theorem run_S (F : FnOk X.prog X.w X.K X.mg X.base CX k f fd ps sp) (hr : Room k X.A) (hb : KBn X.K fd ps n ks g gV) (hx : PassesAt CX X σ (E σ)) (I : Inv X pins σ H s) (r : Vals vs us) (rz : Vals zs ws)
    (l1 : vs.length = n) (l2 : zs.length = ks.length) (h : sp (gV vs zs) H Q (E σ)) : wpAny (model X.prog X.w) X.A (call (.ref f) us (ks.zip ws)) (EP X pins σ Q) X.xe s := by
  have a1 : us.length = n := r.length.symm.trans l1
  have a2 : ws.length = ks.length := rz.length.symm.trans l2
  refine wpAny_call (codeAny_mono (F.run X.A X.stack s H ⟨us, ks.zip ws⟩ (g us ws) (gV vs zs) Q (E σ) hr I.env0 (hb.to s us ws I.kIn a1 a2) (hb.rel r rz) h) fun r s' hq => ?_)
  match r, hq with
  | .error e, hq => exact hx pins H s e s' I hq
  | .ok (.ret u), hq => exact I.after hq
  | .ok .next, hq => exact hq.elim
  | .ok .brk, hq => exact hq.elim
  | .ok .cont, hq => exact hq.elim
theorem run_mkS (M : Mk X.K C f) (F : FnOk X.prog X.w X.K X.mg X.base CX k f fd ps sp) (hr : Room (k + 1) X.A) (hb : KBn X.K fd ps (n + 1) ks g gV) (hx : PassesAt CX X σ (E σ)) (I : Inv X pins σ H s) (r : Vals vs us) (rz : Vals zs ws)
    (l1 : vs.length = n) (l2 : zs.length = ks.length) (h : ∀ x dx, H x = none → H dx = none → dx ≠ x → sp (gV (.ref x :: vs) zs) (upd (upd H dx (.own x)) x (.ins C dx [])) (fun v H2 => v = .non ∧ Q (.ref x) H2) (E σ)) :
    wpAny (model X.prog X.w) X.A (call (.ref C) us (ks.zip ws)) (EP X pins σ Q) X.xe s := by
  have hq := h (s.heap.objs.size + 1) s.heap.objs.size (I.hok.fresh (Nat.le_succ _)) (I.hok.fresh (Nat.le_refl _)) (Nat.ne_of_lt (Nat.lt_succ_self _))
  have J := Inv.made (C := C) I
  have r1 : Vals (V.ref (s.heap.objs.size + 1) :: vs) (Value.ref (s.heap.objs.size + 1) :: us) := .cons rfl r
  have a1 : (Value.ref (s.heap.objs.size + 1) :: us).length = n + 1 := by rw [← r1.length]; exact congrArg Nat.succ l1
  have a2 : ws.length = ks.length := rz.length.symm.trans l2
  have run := F.run _ X.stack _ _ ⟨Value.ref (s.heap.objs.size + 1) :: us, ks.zip ws⟩ (g (Value.ref (s.heap.objs.size + 1) :: us) ws) _ _ (E σ) (hr.make C us (ks.zip ws)) (J.env0.make C us (ks.zip ws)) (hb.to _ _ ws J.kIn a1 a2) (hb.rel r1 rz) hq
  refine wpAny_call (make_map (f := f) I.kIn M.makes M.init (beq_iff_eq.mp M.fn) (codeAny_mono run fun r s' hq2 => ?_))
  match r, hq2 with
  | .error e, hq2 => exact hx pins _ _ e s' J hq2
  | .ok (.ret u), hq2 =>
    obtain ⟨v, H2, J2, rv, ev, q3⟩ := J.after hq2
    subst ev
    exact ⟨rv, ⟨V.ref (s.heap.objs.size + 1), H2, J2, rfl, q3⟩⟩
  | .ok .next, hq2 => exact hq2.elim
  | .ok .brk, hq2 => exact hq2.elim
  | .ok .cont, hq2 => exact hq2.elim
end
theorem pe_fnS (F : FnOk X.prog X.w X.K X.mg X.base CX k f fd ps sp) (hr : Room k X.A) (hg : Gl X x) (hm : X.mg x = some (.ref f)) (hk : PySem.W.keepIn X.K (.ref f) = true) (hb : KBn X.K fd ps n ks g gV) (hx : ∀ σ, PassesAt CX X σ (E σ))
    (ha : PA X (e :: es) t) (hkw : PK X kws tk) (hall : (backToKw pos (keywordEach kws X.env)).all (·.1.isSome) = true) (hks : (backToKw pos (keywordEach kws X.env)).filterMap (·.1) = ks)
    (hdb : (x == ("__debug__" : Str)) = false := by decide) (he : starEach (e :: es) X.env = (false, eval e X.env) :: starEach es X.env := by rfl)
    (hpl : ((backTo pos (starEach (e :: es) X.env)).any (·.1) || (backToKw pos (keywordEach kws X.env)).any (·.1.isNone)) = false := by rfl) :
    PE X (.Call (.Name x p) (e :: es) kws pos) (tFnS n ks.length sp gV E t tk) := ⟨fun pins s σ H Q I h =>
  wpAny_Call_Name_kw (ld_glob I hg hm (PySem.W.callWith_KW (h₀ := X.base) I.ok.mod.kin hk hall (thn (ha.run pos pins s σ H _ I h) fun us s1 ⟨vs, H1, I1, r, q⟩ =>
    thn (hkw.run pos pins s1 σ H1 _ I1 q) fun ws s2 ⟨zs, H2, I2, rz, l1, l2, q2⟩ => ⟨I2.kIn, by rw [hks]; exact run_S F hr hb (hx σ) I2 r rz l1 l2 q2⟩) hpl he) hdb)⟩
theorem pe_mkS (M : Mk X.K C f) (F : FnOk X.prog X.w X.K X.mg X.base CX k f fd ps sp) (hr : Room (k + 1) X.A) (hg : Gl X x) (hm : X.mg x = some (.ref C)) (hb : KBn X.K fd ps (n + 1) ks g gV) (hx : ∀ σ, PassesAt CX X σ (E σ))
    (ha : PA X (e :: es) t) (hkw : PK X kws tk) (hall : (backToKw pos (keywordEach kws X.env)).all (·.1.isSome) = true) (hks : (backToKw pos (keywordEach kws X.env)).filterMap (·.1) = ks)
    (hdb : (x == ("__debug__" : Str)) = false := by decide) (he : starEach (e :: es) X.env = (false, eval e X.env) :: starEach es X.env := by rfl)
    (hpl : ((backTo pos (starEach (e :: es) X.env)).any (·.1) || (backToKw pos (keywordEach kws X.env)).any (·.1.isNone)) = false := by rfl) :
    PE X (.Call (.Name x p) (e :: es) kws pos) (tMkS C n ks.length sp gV E t tk) := ⟨fun pins s σ H Q I h =>
  wpAny_Call_Name_kw (ld_glob I hg hm (PySem.W.callWith_KW (h₀ := X.base) I.ok.mod.kin M.kp hall (thn (ha.run pos pins s σ H _ I h) fun us s1 ⟨vs, H1, I1, r, q⟩ =>
    thn (hkw.run pos pins s1 σ H1 _ I1 q) fun ws s2 ⟨zs, H2, I2, rz, l1, l2, q2⟩ => ⟨I2.kIn, by rw [hks]; exact run_mkS M F hr hb (hx σ) I2 r rz l1 l2 q2⟩) hpl he) hdb)⟩
theorem pe_mtS {pl : Sem Bool} (he : PE X o ta) (c : Cls X.K C) (hm : Meth X.K C m f) (F : FnOk X.prog X.w X.K X.mg X.base CX k f fd ps sp) (hr : Room k X.A) (hb : KBn X.K fd ps (n + 1) ks g gV) (hx : ∀ σ, PassesAt CX X σ (E σ))
    (ha : PA X (e :: es) t) (hkw : PK X kws tk) (hall : (backToKw pos (keywordEach kws X.env)).all (·.1.isSome) = true) (hks : (backToKw pos (keywordEach kws X.env)).filterMap (·.1) = ks)
    (hst : starEach (e :: es) X.env = (false, eval e X.env) :: starEach es X.env := by rfl)
    (hpl : ((backTo pos (starEach (e :: es) X.env)).any (·.1) || (backToKw pos (keywordEach kws X.env)).any (·.1.isNone)) = false := by rfl)
    (ht : eval (.Call (.Attribute o m apos) (e :: es) kws pos) X.env = (do
      let ov ← eval o X.env
      standAt apos.atName
      let (f, first) ← holding [ov] (getMethod ov m pl)
      callWith pos f first (backTo pos (starEach (e :: es) X.env)) (backToKw pos (keywordEach kws X.env))) := by rfl) :
    PE X (.Call (.Attribute o m apos) (e :: es) kws pos) (tMtS C m n ks.length sp gV E ta t tk) := by
  refine ⟨fun pins s σ H Q I h => PySem.W.methodCall_KW (pl := pl) (thn (he.run pins s σ H _ I h) fun u s1 ⟨x, H1, I1, rx, a, dx, fs, ex, ea, l, q⟩ => ?_) ht⟩
  subst ex
  cases (show u = Value.ref a from rx)
  refine getmeth_ok I1 ea c hm l (PySem.W.callWith_KW (first := [.ref a]) (h₀ := X.base) I.ok.mod.kin hm.kp hall (thn (ha.run pos pins s1 σ H1 _ I1 q) fun us s2 ⟨vs, H2, I2, r, q2⟩ =>
    thn (hkw.run pos pins s2 σ H2 _ I2 q2) fun ws s3 ⟨zs, H3, I3, rz, l1, l2, q3⟩ => ⟨I3.kIn, ?_⟩) hpl hst)
  rw [hks]
  exact run_S (us := .ref a :: us) (vs := .ref a :: vs) F hr hb (hx σ) I3 (.cons rfl r) rz (congrArg Nat.succ l1) l2 q3
theorem pe_mtS0 {pl : Sem Bool} (he : PE X o ta) (c : Cls X.K C) (hm : Meth X.K C m f) (F : FnOk X.prog X.w X.K X.mg X.base CX k f fd ps sp) (hr : Room k X.A) (hb : KBn X.K fd ps (0 + 1) ks g gV) (hx : ∀ σ, PassesAt CX X σ (E σ))
    (hkw : PK X kws tk) (hall : (backToKw pos (keywordEach kws X.env)).all (·.1.isSome) = true) (hks : (backToKw pos (keywordEach kws X.env)).filterMap (·.1) = ks)
    (hpl : ((backTo pos (starEach [] X.env)).any (·.1) || (backToKw pos (keywordEach kws X.env)).any (·.1.isNone)) = false := by rfl)
    (ht : eval (.Call (.Attribute o m apos) [] kws pos) X.env = (do
      let ov ← eval o X.env
      standAt apos.atName
      let (f, first) ← holding [ov] (getMethod ov m pl)
      callWith pos f first (backTo pos (starEach [] X.env)) (backToKw pos (keywordEach kws X.env))) := by rfl) :
    PE X (.Call (.Attribute o m apos) [] kws pos) (tMtS C m 0 ks.length sp gV E ta tNil tk) := by
  refine ⟨fun pins s σ H Q I h => PySem.W.methodCall_KW (pl := pl) (thn (he.run pins s σ H _ I h) fun u s1 ⟨x, H1, I1, rx, a, dx, fs, ex, ea, l, q⟩ => ?_) ht⟩
  subst ex
  cases (show u = Value.ref a from rx)
  refine getmeth_ok I1 ea c hm l (PySem.W.callWith_KW0 (first := [.ref a]) (h₀ := X.base) I.ok.mod.kin hm.kp hall
    (thn (hkw.run pos pins s1 σ H1 _ I1 q) fun ws s3 ⟨zs, H3, I3, rz, l1, l2, q3⟩ => ⟨I3.kIn, ?_⟩) hpl)
  rw [hks]
  exact run_S (us := [.ref a]) (vs := [.ref a]) F hr hb (hx σ) I3 (.cons rfl .nil) rz rfl l2 q3
/-! raise C(e, ..), C with an own __init__ -/
theorem ps_raiseO {W : WX} {fI : Addr} {pos2 : Pos} (hc : X.calm = true) (tk : Takes X W) (T : OexC X.K C) (iC : PySem.W.findIn X.K (.ref C) "__init__" = some (some (.ref fI))) (tI : PySem.W.typeIn X.K (.ref fI) = some (.type "function"))
    (F : FnOk X.prog X.w X.K X.mg X.base (L2.CX X.prog X.w) k fI fd ps sp) (hr : Room (k + 1) X.A) (hb : KBn X.K fd ps n [] (fun us _ => us ++ []) (fun vs _ => vs ++ [])) (hg : Gl X x) (hm : X.mg x = some (.ref C)) (ha : PA X (e :: es) t)
    (hn : n = ps.length := by rfl)
    (hdb : (x == ("__debug__" : Str)) = false := by decide) (he : starEach (e :: es) X.env = (false, eval e X.env) :: starEach es X.env := by rfl) (hpl : (backTo pos (starEach es X.env)).any (·.1) = false := by rfl) :
    PS X (.Raise (some (.Call (.Name x p) (e :: es) [] pos)) none pos2) (fun _ σ H => tMkO C sp [] t σ H fun cls d H' => W cls d σ H') := by
  refine ps_raise hc tk (pmk_oex (ds := []) (dvs := []) T iC tI F hr (fun s us k hl => ?_) .nil passL hg hm ha hdb he hpl)
  exact hb.to s us [] k (by rw [List.append_nil] at hl; rw [hl, hn]) rfl
end
/-! isinstance of the caught error, with a dict of its own -/
section
open PySem.W PySem.Calls
variable {prog : Program} {w : World} {A : Around} {Ex : Value → Shared → Prop} {s : Shared} {K : Frag} {x D : Addr} {ox : Obj} {od : Option Obj}
theorem findObj_dataX {C : Addr} {name : Str} {a g : Value} {od : Option Obj} (hc : (clsIn K C).isSome = true) (ha : findIn K (.ref C) name = some (some a)) (hg : specialIn K a "__get__" = some (some g)) (ht : takesIn K a = some true) : findObj K C od name = some (.bind g a) := by
  obtain ⟨cd, hc⟩ := Option.isSome_iff_exists.mp hc
  unfold findObj
  simp [hc, ha, hg, ht]
theorem kin_classX (c : ExcC K D) {Q : Option Value → Shared → Prop} (X : K.In s.heap) (I : InstAt s.heap x ox D od) (h : Q (some (.ref D)) { s with toks := s.toks + 1 }) : wpAny (model prog w) A (getAttr? (.ref x) "__class__") Q Ex s := by
  have hf : findObj K D od "__class__" = some (.bind (.builtin "getset_descriptor.__get__") (.builtin "object.__class__")) :=
    findObj_dataX (by obtain ⟨cd, hc, _⟩ := any_some c.hd; rw [hc]; rfl) c.ha c.hn c.ht
  obtain ⟨hp, g, d, t, os⟩ := s
  have a0 := I.type (M := model prog w)
  have a1 := looks_findIn (M := model prog w) X c.hg
  have a2 := looks_findIn (M := model prog w) X c.hk
  have a3 := looks_find (M := model prog w) X I hf
  have sub : Looks (model prog w) hp (isInstance (.ref x) (.type "BaseException")) true := a0.andThen (looks_subIn X c.hs)
  have hx2 : (Value.builtin "BaseException.__getattribute__" == Value.builtin "object.__getattribute__") = false := by decide +kernel
  unfold getAttr? getAttrBy? getAttrBy
  refine wpAny_bind (wpAny_mkText (wpAny_bind (wpAny_attempt (wpAny_holding (wpAny_bind (a0.at (wpAny_bind (a1.at ?_))))))))
  have hx1 : (onTheHeap (Value.ref D) && Value.builtin "BaseException.__getattribute__" == Value.builtin "object.__getattribute__") = false := by
    rw [hx2]; rfl
  dsimp only
  rw [hx1, if_neg Bool.false_ne_true]
  unfold getAttrByItsOwn hookBefore
  refine wpAny_bind ?_
  rw [if_pos (show onTheHeap (Value.ref D) = true from rfl)]
  refine a2.at (wpAny_bind (wpAny_attempt (wpAny_holding ?_)))
  unfold callGetattribute
  have hx0 : ∀ z : Bool, (false && z) = false := fun _ => rfl
  rw [hx0, if_neg Bool.false_ne_true]
  unfold boundAndCalled
  rw [PySem.F.excAttr_ValueError.ga.bind (.ref x)]
  refine wpAny_bind (wpAny_pure ?_)
  refine wpAny_call (codeAny_call_builtin PySem.F.excAttr_ValueError.ga.plain PySem.F.entry_bexc_ga ?_)
  refine @check_slot (model prog w) _ _ ⟨hp, g, d, t + 1, os⟩ "BaseException.__getattribute__" "BaseException" "__getattribute__" (.ref x) [.str "__class__" t] [] _ (by decide +kernel) (by decide +kernel) sub (PySem.F.args_bexc_ga (.ref x) (.str "__class__" t)) ?_
  unfold Builtin.«object.__getattribute__»
  refine wpAny_bind (wpAny_of_eq (a := ((Value.ref x : Value), [Value.str "__class__" t])) (by first | rfl | (simp only [slotArgs]; rfl)) ?_)
  refine wpAny_bind (wpAny_pure (wpAny_bind (a0.at (wpAny_bind (a3.at ?_)))))
  refine wpAny_bind (wpAny_holding (wpAny_call (class_get (s := ⟨hp, g, d, t + 1, os⟩) (ox := ox) (od := od) X I c.hm ?_)))
  refine wpAny_pure ?_
  dsimp only
  rw [handedOut_of (v := .ref D) rfl]
  first
    | exact wpAny_pure (wpAny_pure h) | exact wpAny_pure h | exact wpAny_pure (wpAny_bind (wpAny_pure (wpAny_pure h)))
theorem kitx_excX (c : ExcC K D) : KitX K (.ref x) (.ref D) (fun h => InstAt h x ox D od) where
  ty := fun _ _ _ I => I.type
  it := fun _ _ X _ A' Q' E' s' k q => by
    obtain ⟨cd, hc, _⟩ := any_some c.hd
    unfold clsIn at hc
    split at hc
    · rename_i ho
      unfold isType loadHead
      exact wpAny_bind (wpAny_loadPart (k _ _ (X _ _ ho)) (wpAny_pure q))
    · cases hc
  ne := fun h tp dd its n sl X htp => (handS_kitx_exc (x := x) (ox := ox) c.hg c.hk c.hs c.hd c.ha c.hn c.ht c.hm).ne h tp dd its n sl X htp
  ca := fun X I k => kin_classX c X I k
end
/-- isinstance(e, c), e the error that the suite holds (class D, dict d) -/
def rIsX (K : Frag) (D a : Addr) (cls : Value) (d : Option Addr) : List V → Hp → VK → Prop := fun xs H Q => cls = .ref D ∧
  (d = none ∨ ∃ dd fs, d = some dd ∧ H dd = some (.xd fs)) ∧ ∃ (c : V) (cv : Value) (b : Bool), xs = [.ref a, c] ∧ ClsV c cv ∧ PySem.W.kitOne K (.ref D) cv = some b ∧ Q (.bl b) H
theorem call_isX {X : Cx} {a D : Addr} {oe : Obj} {cls : Value} {d : Option Addr} {pn : List (Addr × Obj)} (C : ExcC X.K D) (hz : Zc cls d oe) (hf : ∃ vs, oe.data = .fields vs) :
    CallR (X.suite a ((a, oe) :: pn)) (.builtin "isinstance") (rIsX X.K D a cls d) := by
  intro pins s σ H xs us Q I r h
  obtain ⟨ec, hd, c, cv, b, rfl, hcv, e, q⟩ := h
  obtain ⟨u1, u2, rfl, r1, r2⟩ := vals2 r
  cases (show u1 = Value.ref a from r1)
  cases hcv.eq r2
  obtain ⟨ha, _⟩ := I.pin (a, oe) (List.mem_append_left _ List.mem_cons_self)
  obtain ⟨vs, hv⟩ := hf
  have nc : PySem.W.notCls oe = true := by unfold PySem.W.notCls; rw [hv]
  obtain ⟨h1, h2⟩ := hz
  subst ec
  obtain ⟨od, J⟩ : ∃ od, PySem.W.InstAt s.heap a oe D od := by
    rcases hd with rfl | ⟨dd, fs, rfl, hx⟩
    · exact ⟨none, ha, h1, nc, by rw [h2]; trivial⟩
    · obtain ⟨mA, hns, _⟩ := (show ObjOk X.prog X.w H s.heap dd (.xd fs) from I.hok dd _ hx)
      obtain ⟨od, ho, _⟩ := lookIn_ns hns
      exact ⟨some od, ha, h1, nc, by rw [h2]; exact ho⟩
  exact PySem.W.kia_one (kitx_excX C) I.kIn J e (fun z => nomatch z) fun tk => ⟨.bl b, H, I.tok tk, rfl, q⟩
/-! an instance of an own class: what isinstance asks of its class -/
structure InsT (K : Frag) (C : Addr) : Prop where
  ha : PySem.W.findIn K (.ref C) "__class__" = some (some (.builtin "object.__class__"))
  hn : PySem.W.specialIn K (.builtin "object.__class__") "__get__" = some (some (.builtin "getset_descriptor.__get__"))
  ht : PySem.W.takesIn K (.builtin "object.__class__") = some true
  hm : PySem.W.mroIn K C (.type "object") = some true
def insB (K : Frag) (C : Addr) : Bool := He.eqO (PySem.W.findIn K (.ref C) "__class__") (some (some (.builtin "object.__class__"))) &&
  (He.eqO (PySem.W.specialIn K (.builtin "object.__class__") "__get__") (some (some (.builtin "getset_descriptor.__get__"))) &&
  (decide (PySem.W.takesIn K (.builtin "object.__class__") = some true) && decide (PySem.W.mroIn K C (.type "object") = some true)))
theorem insB_ok {K : Frag} {C : Addr} (q : insB K C = true) : InsT K C := by
  obtain ⟨b, q⟩ := He.ba q
  obtain ⟨c, q⟩ := He.ba q
  obtain ⟨d, e⟩ := He.ba q
  exact ⟨He.eqO_ok b, He.eqO_ok c, of_decide_eq_true d, of_decide_eq_true e⟩
theorem InsT.ty {K : Frag} {C a dx : Addr} {H : Hp} {fs : List (Str × V)} (i : InsT K C) (c : Cls K C) (h : H a = some (.ins C dx fs)) : TyX K H (.ref a) (.ref C) := .base (.ins h c i.ha i.hn i.ht i.hm)
/-! * where one factor is small, or both have less than a million bits together -/
def CMulA (i j : Int) : Prop := CMul i j ∨ CMulW i j
theorem op_mulA {X : Cx} : OpR X (binaryOp .Mult) (rI CMulA fun i j => .int (i * j)) := opI fun _ _ _ _ _ _ _ hc q =>
  hc.elim (fun h => mul_int q h.ok) (fun h => mul_int q h.ok)
/-- x is an int (no bool), or known to be none -/
inductive IsI (K : Frag) (H : Hp) : V → Bool → Prop where
  | int (i : Int) : IsI K H (.int i) true
  | bl (b : Bool) : IsI K H (.bl b) false
  | oth {x : V} {t : Value} (h : TyX K H x t) (e : PySem.W.kitOne K t (.type "int") = some false) : IsI K H x false
/-! the end of a law: a head by facts, the script's bits told -/
theorem walk_X {l : PySem.W.OpenLaw} {n k : Nat} {q : Program} {loose : List Str} {XP : (Str → Option Value) → Heap → Prop} {YP : World → Heap → Prop} {d : DefRec} {x : Str}
    (hn : l.most = some n) (hn2 : n ≤ sizeLine) (hdf : d.params.defaults = []) (hr : Room k callerA)
    (F : ∀ (w : World) (mg : Str → Option Value) (fa : Addr) (h : Heap), YP w h → h.Ns mainGlobals mg → mg d.name = some (.ref fa) →
      ∃ (K : Frag) (fd : FuncData) (sp : Sp), K.In h ∧ (∀ (s : Shared) (u : Value), BindsTo s fd ⟨[u], []⟩ [(x, u)]) ∧
        (∀ (H : Hp) (a : Addr) (ns : List Int), ns.length ≤ n → (∀ z ∈ ns, Builtin.Int.intBits z ≤ 1048576) → Only H → SqL K H a (ns.map V.int) → sp [.ref a] H (fun v _ => v = .bl true) E0) ∧
        ∀ base : Heap, K.In base → base.Ns mainGlobals mg → FnOk l.prog w K mg base (L2.CX l.prog w) k fa fd [x] sp) :
    PySem.W.WalkO q loose XP YP l.row.toRowW d [] (fun f vs => PySem.call f vs) := by
  refine Att.attach_callB hn hdf fun w s0 s1 mg mb fa o pm cd doc a vs ns G Y ho hd hcd hmg hobj hints hlen hbits hg => ?_
  obtain ⟨K, fd, sp, KX, hb, hsp, hF⟩ := F w mg fa _ Y G.T.g hmg
  refine law_call KX G.T.g G.T.b G.T.builtins G.T.nolimit hg hobj hints (Nat.le_trans hlen hn2) hr hF hb (fun H hO hS => hsp H a ns hlen hbits hO hS) fun H e s' c => ?_
  obtain ⟨_, _, _, _, _, _, _, _, _, _, _, _, z⟩ := c
  exact z
end S
namespace S
open PySem PySem.Spec PyProof.Rows L2
section
open PySem.W PySem.Calls
variable {prog : Program} {w : World} {A : Around} {Ex : Value → Shared → Prop} {s : Shared} {K : Frag} {x C f : Addr} {ox : Obj} {od : Option Obj} {b tb : Value}
/-- object.__ne__ over an own __eq__ that gives a bool -/
theorem objNe_K {Q : Fin → Shared → Prop} (hu : A.units < cLine) (X : K.In s.heap) (I : InstAt s.heap x ox C od) (hs : findIn K (.ref C) "__eq__" = some (some (.ref f))) (hf : isFn K (.ref f) = true)
    (h : wpAny (model prog w) A (call (.ref f) [.ref x, b]) (fun v s' => ∃ r, v = .bool r ∧ Q (.done (.ret (.bool (!r)))) s') Ex s) :
    wpAny (model prog w) A (Builtin.«object.__ne__» ⟨[.ref x, b], []⟩) Q Ex s := by
  unfold Builtin.«object.__ne__»
  refine wpAny_bind (wpAny_of_eq (a := ((Value.ref x : Value), [b])) (by first | rfl | (simp only [slotArgs]; rfl)) ?_)
  dsimp only
  refine wpAny_bind (wpAny_cRoomFor hu ?_)
  refine wpAny_bind (ifBound_K X I hs hf (wpAny_mono h (fun v s' hv => ?_) fun _ _ e => e))
  obtain ⟨r, rfl, q⟩ := hv
  dsimp only
  refine wpAny_bind (wpAny_truthy_bool ?_)
  first | exact wpAny_pure q | exact q
theorem ne_K {Q : Value → Shared → Prop} (hu : A.units + 1 < cLine) (X : K.In s.heap) (I : InstAt s.heap x ox C od) (hb : Looks (model prog w) s.heap (typeOf b) tb) (hn : notFirst K C tb = true)
    (hne : findIn K (.ref C) "__ne__" = some (some (.builtin "object.__ne__"))) (hm : mroIn K C (.type "object") = some true)
    (hs : findIn K (.ref C) "__eq__" = some (some (.ref f))) (hf : isFn K (.ref f) = true)
    (h : wpAny (model prog w) A.in1 (call (.ref f) [.ref x, b]) (fun v s' => ∃ r, v = .bool r ∧ Q (.bool (!r)) s') Ex s) : wpAny (model prog w) A (richCompare .NotEq (.ref x) b) Q Ex s := by
  have one : wpAny (model prog w) A (tryCompare (.ref x) "__ne__" b) (fun r s' => ∃ v, r = some v ∧ Q v s') Ex s := by
    unfold tryCompare
    refine wpAny_bind (NtL.csib (I.type.andThen (looks_findIn X hne)) (F.cmp_object.ne.bind _) ?_)
    refine wpAny_call (codeAny_call_builtin F.cmp_object.ne.plain F.cmpEntry_ne (check_slot F.cmpKind_ne F.cmpSplit_ne (I.type.andThen (looks_mroIn X hm)) (F.cmpArgs_ne _ _) ?_))
    refine objNe_K (A := A.in1) hu X I hs hf (wpAny_mono h (fun v s' hv => ?_) fun _ _ e => e)
    obtain ⟨r, rfl, q⟩ := hv
    exact ⟨r, rfl, wpAny_pure ⟨_, rfl, q⟩⟩
  unfold richCompare
  simp only [oneThing_ref]
  refine wpAny_holding (wpAny_bind (wpAny_cRoomFor (Nat.lt_of_succ_lt hu) ?_))
  rw [cmpInfo_NotEq]
  dsimp only
  refine wpAny_bind (I.type.here (wpAny_bind (hb.here ?_)))
  split
  · rename_i q
    have e : subIn K tb (.ref C) = some false := by
      rcases Bool.or_eq_true_iff.mp hn with e | e
      · rw [beq_iff_eq.mp e] at q
        simp at q
      · exact beq_iff_eq.mp e
    refine wpAny_bind ((looks_subIn X e).here ?_)
    simp only [Bool.false_eq_true, if_false]
    refine wpAny_bind (wpAny_mono one (fun r s' z => ?_) fun _ _ e => e)
    obtain ⟨v, rfl, hq⟩ := z
    exact wpAny_pure hq
  · refine wpAny_bind (wpAny_pure ?_)
    simp only [Bool.false_eq_true, if_false]
    refine wpAny_bind (wpAny_mono one (fun r s' z => ?_) fun _ _ e => e)
    obtain ⟨v, rfl, hq⟩ := z
    exact wpAny_pure hq
end
section
variable {X : Cx} {n : Nat} {C g : Addr} {sp : Sp}
/-- x op y by x's own method, both instances -/
def rOwnI (K : Frag) (C : Addr) (sp : Sp) : R2 := fun x y H Q => ∃ a dx fs b C' dy gs, x = .ref a ∧ y = .ref b ∧ H a = some (.ins C dx fs) ∧ H b = some (.ins C' dy gs) ∧ PySem.W.notFirst K C (.ref C') = true ∧ sp [x, y] H Q E0
theorem op_ownI {op : CmpOp} (hop : ∀ a b, compareOp op a b = richCompare op a b) (hs : PySem.W.findIn X.K (.ref C) (cmpInfo op).2.1 = some (some (.ref g))) (hf : PySem.W.isFn X.K (.ref g) = true)
    (F : FnR X.prog X.w X.K X.mg X.base (L2.CX X.prog X.w) n g sp) (hr : Room n X.A) : OpR X (compareOp op) (rOwnI X.K C sp) := by
  intro pins s σ H x y v u Q I rx ry h
  obtain ⟨a, dx, fs, b, C', dy, gs, rfl, rfl, ha, hb, hn, q⟩ := h
  cases (show v = Value.ref a from rx)
  cases (show u = Value.ref b from ry)
  obtain ⟨mA, O, _⟩ := ins_get I.hok ha
  obtain ⟨od, J, _⟩ := O.look
  obtain ⟨mB, O2, _⟩ := ins_get I.hok hb
  obtain ⟨od2, J2, _⟩ := O2.look
  obtain ⟨m, hF⟩ := I.fr
  rw [hop]
  refine PySem.W.cmp_K (op := op) (tb := .ref C') hr.units0 hF I.ok.mod.kin J J2.type hn hs hf ?_
  refine wpAny_mono (wpAny_call (run_fnR (us := [.ref a, .ref b]) (vs := [.ref a, .ref b]) F hr passL I (.cons rfl (.cons rfl .nil)) q)) (fun w s' z => ?_) fun _ _ x => x
  obtain ⟨z2, H2, I2, rz, qz⟩ := z
  exact SlX.cmpback rz ⟨z2, H2, I2, rz, qz⟩
/-- x != y by x's own == -/
def rNeI (K : Frag) (C : Addr) (sp : Sp) : R2 := fun x y H Q => ∃ a dx fs b C' dy gs, x = .ref a ∧ y = .ref b ∧ H a = some (.ins C dx fs) ∧ H b = some (.ins C' dy gs) ∧ PySem.W.notFirst K C (.ref C') = true ∧
  sp [x, y] H (fun z H2 => ∃ r, z = .bl r ∧ Q (.bl (!r)) H2) E0
theorem op_neI (hne : PySem.W.findIn X.K (.ref C) "__ne__" = some (some (.builtin "object.__ne__"))) (hm : PySem.W.mroIn X.K C (.type "object") = some true)
    (hs : PySem.W.findIn X.K (.ref C) "__eq__" = some (some (.ref g))) (hf : PySem.W.isFn X.K (.ref g) = true)
    (F : FnR X.prog X.w X.K X.mg X.base (L2.CX X.prog X.w) n g sp) (hr : Room (n + 1) X.A) : OpR X (compareOp .NotEq) (rNeI X.K C sp) := by
  intro pins s σ H x y v u Q I rx ry h
  obtain ⟨a, dx, fs, b, C', dy, gs, rfl, rfl, ha, hb, hn, q⟩ := h
  cases (show v = Value.ref a from rx)
  cases (show u = Value.ref b from ry)
  obtain ⟨mA, O, _⟩ := ins_get I.hok ha
  obtain ⟨od, J, _⟩ := O.look
  obtain ⟨mB, O2, _⟩ := ins_get I.hok hb
  obtain ⟨od2, J2, _⟩ := O2.look
  show wpAny _ _ (richCompare .NotEq (.ref a) (.ref b)) _ _ _
  refine ne_K (tb := .ref C') (hu_of hr) I.kIn J J2.type hn hne hm hs hf ?_
  refine wpAny_mono (wpAny_call (SlX.run_at (us := [.ref a, .ref b]) (ws := [.ref a, .ref b]) F hr.in1 I.env0.in1 passL I (.cons rfl (.cons rfl .nil)) q)) (fun w s' z => ?_) fun _ _ x => x
  obtain ⟨z2, H2, I2, rz, r, rfl, qz⟩ := z
  cases (show w = Value.bool r from rz)
  exact ⟨r, rfl, .bl (!r), H2, I2, rfl, qz⟩
theorem hop_eq : ∀ a b, compareOp .Eq a b = richCompare .Eq a b := fun _ _ => rfl
end
/-! keyword-only defaults and no others: f(e, .., k = v, ..) -/
theorem kbinds0 {K : Frag} {x qual : Str} {params : Arguments} {body : List Stmt} {scope : Scope} {kws : List (Str × V)} {f : Addr} {fd : FuncData} {ps : List Str} (F : FunD K x qual params body scope [] kws f fd) (n : Nat) (ks : List Str) (ms : List (Str × V))
    (g : {α : Type} → List α → List α → List α → List α) (hk : kws ≠ []) (hms : ∀ q ∈ ms, q ∈ kws)
    (hrel : ∀ {vs mz zs : List V} {us mv ws : List Value}, Vals vs us → Vals mz mv → Vals zs ws → Vals (g vs mz zs) (g us mv ws))
    (h : ∀ (D : Addr) (doc pm : Value) (an : Option Addr) (cdv ct : Value) (us mv ws : List Value), us.length = n → mv.length = ms.length → ws.length = ks.length →
      KwChain D ((ms.map (·.1)).zip mv) (bindArgs (PySem.W.fnOf x qual params body scope .none (.ref D) doc pm an cdv ct) ⟨us, ks.zip ws⟩) (ps.zip (g us mv ws))) :
    ∃ mv : List Value, KBn K fd ps n ks (fun us ws => g us mv ws) (fun vs zs => g vs (ms.map (·.2)) zs) := by
  obtain ⟨oc, od, dV, kV, doc, pm, an, cdv, ct, osl, rfl, lk, hcd, hD, hK⟩ := F.ex
  rcases hD with ⟨_, rfl⟩ | ⟨e, _⟩
  · rcases hK with e | ⟨D, rfl, hq⟩
    · exact absurd e hk
    · obtain ⟨mv, hl, rk, hks⟩ := kwd_vals (ms := ms) fun q hm => hq q (hms q hm)
      refine ⟨mv, ⟨fun s us ws X l1 l2 => BindsTo.of_looks fun M => KwChain.looks X hks (h D doc pm an cdv ct us mv ws l1 hl l2), fun r1 r2 => hrel r1 rk r2⟩⟩
  · exact absurd rfl e
/-! a block cut by a word: what follows is shown once -/
def tCut (t u : TS) : TS := fun D σ H => ∃ M : L2.St → Hp → Prop, t { D with nx := M } σ H ∧ ∀ τ J, M τ J → u D τ J
theorem pss_cut {X : Cx} {st : Stmt} {rest : List Stmt} {t u : TS} (h1 : PS X st t) (h2 : PSs X rest u) : PSs X (st :: rest) (tCut t u) :=
  ⟨fun pins s σ H D I ⟨M, hm, hu⟩ => wpAny_execs_cons (thn (h1.run pins s σ H { D with nx := M } I hm) fun f s1 q => by
    match f, q with
    | .next, ⟨τ, J, I2, q⟩ => exact h2.run pins s1 τ J D I2 (hu τ J q)
    | .ret v, q => exact q
    | .brk, q => exact q
    | .cont, q => exact q)⟩
/-! ways -/
theorem iteY {c A B : Prop} [Decidable c] (h : c) (a : A) : if c then A else B := by rw [if_pos h]; exact a
theorem iteN {c A B : Prop} [Decidable c] (h : ¬ c) (b : B) : if c then A else B := by rw [if_neg h]; exact b
theorem iteB {x : Bool} {A B : Prop} (h : if x then A else B) : if x = true then A else B := h
/-! small laws of heaps and fields -/
theorem putF_nil (f : Str) (v : V) : putF f v [] = [(f, v)] := rfl
theorem putF_cons_ne {f k : Str} {v u : V} {r : List (Str × V)} (h : ¬ k = f) : putF f v ((k, u) :: r) = (k, u) :: putF f v r := by
  show (if k = f then _ else _) = _
  rw [if_neg h]
theorem Same.new {H : Hp} {p : Addr} {o : HO} (h : H p = none) : Same H (upd H p o) := fun b u e => by
  rw [upd_ne (ne_of_none e h)]
  exact e
theorem Same.upd {H H' : Hp} {p : Addr} {o : HO} (e : Same H H') (h : H p = none) : Same H (L2.upd H' p o) := fun b u q => by
  rw [upd_ne (ne_of_none q h)]
  exact e b u q
/-! an own error with one field -/
/-- self.f = v in __init__ -/
def sp_err (C : Addr) (f : Str) : Sp := Sp2 fun x y H Q _ => ∃ a, x = .ref a ∧ H a = some (exo a C none) ∧ ∀ dx, H dx = none → dx ≠ a → Q .non (upd (upd H dx (exd dx [(f, y)])) a (exo a C (some dx)))
theorem raise_err {C : Addr} {f : Str} {t : TA} {σ : L2.St} {H : Hp} {Q : XK} (y : V)
    (k : ∀ d H', H d = none → Same H H' → H' d = some (.xd [(f, y)]) → Q (.ref C) (some d) H') (ht : ∀ R, R [y] H → t σ H R := by exact fun R r => r) : tMkO C (sp_err C f) [] t σ H Q := by
  refine ht _ ⟨by show 1 ≤ 1000; decide, fun a ha => ⟨_, _, rfl, a, rfl, upd_same, fun dx hdx hne => ⟨rfl, dx, [(f, y)], ?_, ?_, ?_, ?_⟩⟩⟩
  · exact upd_same
  · rw [upd_ne hne, upd_same]
  · rw [upd_ne hne] at hdx
    exact hdx
  · have h0 : H dx = none := by rw [upd_ne hne] at hdx; exact hdx
    refine k dx _ h0 (fun b o e => ?_) upd_same
    have n1 : b ≠ dx := ne_of_none e h0
    have n2 : b ≠ a := ne_of_none e ha
    rw [upd_ne n1, del_ne n2, upd_ne n2, upd_ne n1, upd_ne n2]
    exact e
/-! the law's own draws -/
/-- a cell is some integer of at least 0 -/
def spCellN (K : Frag) : Sp := Sp2 fun x y H Q _ => ∃ (a : Addr) (ns : List Int) (k : Int), x = .ref a ∧ y = .int k ∧ 0 ≤ k ∧ SqL K H a (ns.map V.int) ∧ ∀ n : Int, 0 ≤ n → Q (.int n) H
theorem int_at {ns : List Int} {k : Nat} (h : k < ns.length) : atI (ns.map V.int) ((k : Nat) : Int) = some (.int (ns.getD k 0)) := by
  refine atI_nat ?_
  rw [List.getElem?_map, List.getElem?_eq_getElem h, List.getD_eq_getElem?_getD, List.getElem?_eq_getElem h]
  rfl
theorem mul_small {i j : Int} (h : -(2 ^ 64) < j ∧ j < 2 ^ 64) : CMulA i j := .inl (.inr h)
theorem mul_smallL {i j : Int} (h : -(2 ^ 64) < i ∧ i < 2 ^ 64) : CMulA i j := .inl (.inl h)
theorem mod_small (x : Int) {m : Int} (h : 0 < m) (h2 : m < 2 ^ 64) : -(2 ^ 64) < x % m ∧ x % m < 2 ^ 64 := by
  have a := Int.emod_nonneg x (show m ≠ 0 by omega)
  have b := Int.emod_lt_of_pos x h
  omega
theorem mod_lo (x : Int) {m : Int} (h : 0 < m) : 0 ≤ x % m := Int.emod_nonneg x (by omega)
theorem mod_hi (x : Int) {m : Int} (h : 0 < m) : x % m < m := Int.emod_lt_of_pos x h
theorem div_small {i j : Int} (h : 0 < j) (h2 : j < 2 ^ 64) : CDivW i j := wide_div (b := 64) h (by omega) (by decide) (by decide)
end S
namespace S
open PySem PySem.Spec PyProof.Rows L2
/-! the rules that lean on the written part, with its own name -/
section
variable {X : Cx} {K : Frag}
theorem ixK (hK : X.K = K) : IxR X (rIx K) := hK ▸ ix_seq
theorem lenK (hK : X.K = K) : CallR X (.builtin "len") (rLen K) := hK ▸ call_len
theorem isiK (hK : X.K = K) : CallR X (.builtin "isinstance") (rIsi K) := hK ▸ call_isi
theorem isiTK (hK : X.K = K) : CallR X (.builtin "isinstance") (rIsiT K) := hK ▸ call_isiT
theorem inK (hK : X.K = K) : OpR X (compareOp .In) (rIn K false) := hK ▸ op_in_seq
theorem notInK (hK : X.K = K) : OpR X (compareOp .NotIn) (rIn K true) := hK ▸ op_notIn_seq
theorem eqDK (hK : X.K = K) (hu : X.A.units + 64 < cLine) : OpR X (compareOp .Eq) (rEqD K) := hK ▸ op_eqD hu
theorem neDK (hK : X.K = K) (hu : X.A.units + 64 < cLine) : OpR X (compareOp .NotEq) (rNeD K) := hK ▸ op_neD hu
theorem slLK (hK : X.K = K) : SlR X (rSlL K) := hK ▸ sl_list
theorem slTK (hK : X.K = K) : SlR X (rSlT K) := hK ▸ sl_tup
variable {e o l value tg a : Expr} {es : List Expr} {ta tv tl : TE} {f : Str} {pos pos' : Pos}
theorem pe_fldK (hK : X.K = K) (he : PE X e ta) (hb : attributeBase e f X.env (eval e X.env) = eval e X.env) : PE X (.Attribute e f pos) (tFld K ta f) := hK ▸ pe_fld he hb
theorem ps_fldK (hK : X.K = K) (ha : PE X o ta) (hv : PE X value tv) (hs : swapsWith value (some (.Attribute o f pos')) pos.line X.env = pure false) : PS X (.Assign [.Attribute o f pos'] value pos) (sFld K ta tv f) := hK ▸ ps_fld ha hv hs
theorem ps_ostK (hK : X.K = K) (ha : PE X o ta) (hv : PE X value tv) (hs : swapsWith value (some (.Attribute o f pos')) pos.line X.env = pure false) : PS X (.Assign [.Attribute o f pos'] value pos) (tOst K f ta tv) := hK ▸ ps_ost ha hv hs
theorem pe_slK (hK : X.K = K) (he : PE X e ta) (hb : attributeBase e f X.env (eval e X.env) = eval e X.env) : PE X (.Attribute e f pos) (SlX.tSl K ta f) := hK ▸ SlX.pe_sl he hb
theorem ps_slK (hK : X.K = K) (ha : PE X o ta) (hv : PE X value tv) (hs : swapsWith value (some (.Attribute o f pos')) pos.line X.env = pure false) : PS X (.Assign [.Attribute o f pos'] value pos) (SlX.sSl K ta tv f) := hK ▸ SlX.ps_sl ha hv hs
theorem pi_listK (hK : X.K = K) (hl : PE X l tl) : PI X tg l (iList K tl) := hK ▸ pi_list hl
theorem pi_tupK (hK : X.K = K) (hl : PE X l tl) : PI X tg l (iTup K tl) := hK ▸ pi_tup hl
def tTruK (K : Frag) (ta : TE) : TT := fun σ H Q => ta σ H fun x H' => ∃ k, TruV K x H' k ∧ Q k H'
theorem pt_truthK (hK : X.K = K) (ha : PE X a ta) (he : ∀ whole, isTrue a X.env whole = (do let v ← whole; standAt a.pos; holding [v] (truthy v))) : PT X a (tTruK K ta) := by
  subst hK
  exact pt_truth ha he
end
end S
namespace S
open PySem PySem.Spec PyProof.Rows L2
/-! flat data: None, bools, ints, texts -/
def sca : V → Bool
  | .non => true
  | .bl _ => true
  | .int _ => true
  | .str x => PyData.strOk x
  | _ => false
def dat : V → PyData
  | .bl b => .bool b
  | .int i => .int i
  | .str x => .str x
  | _ => .none
theorem dp_dat {K : Frag} {H : Hp} {v : V} (h : sca v = true) : Dp K H v (dat v) := by
  cases v with
  | non => exact .non
  | bl b => exact .bl b
  | int i => exact .int i
  | str x => exact .str x
  | _ => cases h
theorem dpAll_dat {K : Frag} {H : Hp} : ∀ {vs : List V}, vs.all sca = true → DpAll K H vs (vs.map dat)
  | [], _ => .nil
  | v :: vs, h => by
    rw [List.all_cons, Bool.and_eq_true] at h
    exact .cons (dp_dat h.1) (dpAll_dat h.2)
theorem lay_dat {v : V} (h : sca v = true) : (dat v).canLay0 = true := by
  cases v with
  | str x => simpa [dat, PyData.canLay0, sca] using h
  | _ => simp [dat, PyData.canLay0]
theorem layAll_dat : ∀ {vs : List V}, vs.all sca = true → PyData.canLayAll0 (vs.map dat) = true
  | [], _ => rfl
  | v :: vs, h => by
    rw [List.all_cons, Bool.and_eq_true] at h
    simp [PyData.canLayAll0, lay_dat h.1, layAll_dat h.2]
theorem depth_dat (v : V) : (dat v).depth = 0 := by cases v <;> simp [dat, PyData.depth]
theorem depthAll_dat : ∀ (vs : List V), PyData.depthAll (vs.map dat) = 0
  | [] => rfl
  | v :: vs => by simp [PyData.depthAll, depth_dat, depthAll_dat vs]
theorem shaped_list {vs : List V} (h : vs.all sca = true) : SeqAt.shaped (.list (vs.map dat)) = true := by
  simp [SeqAt.shaped, PyData.canLay0, layAll_dat h, PyData.depth, depthAll_dat]
theorem shaped_tup {vs : List V} (h : vs.all sca = true) : SeqAt.shaped (.tuple (vs.map dat)) = true := by
  simp [SeqAt.shaped, PyData.canLay0, layAll_dat h, PyData.depth, depthAll_dat]
theorem eqv_refl (v : V) : PyData.eqv (dat v) (dat v) = true := by cases v <;> simp [dat, PyData.eqv]
theorem eqvAll_refl : ∀ (vs : List V), PyData.eqvAll (vs.map dat) (vs.map dat) = true
  | [] => rfl
  | v :: vs => by simp [PyData.eqvAll, eqv_refl, eqvAll_refl vs]
theorem rEqL {K : Frag} {H : Hp} {a b : Addr} {xs ys : List V} {Q : VK} (ha : SqL K H a xs) (hb : SqL K H b ys) (hx : xs.all sca = true) (hy : ys.all sca = true) (q : Q (.bl (PyData.eqvAll (xs.map dat) (ys.map dat))) H) : rEqD K (.ref a) (.ref b) H Q :=
  ⟨_, _, .lst ha (dpAll_dat hx), .lst hb (dpAll_dat hy), shaped_list hx, shaped_list hy, by simpa only [PyData.eqv] using q⟩
theorem rEqT {K : Frag} {H : Hp} {a b : Addr} {xs ys : List V} {Q : VK} (ha : SqT K H a xs) (hb : SqT K H b ys) (hx : xs.all sca = true) (hy : ys.all sca = true) (q : Q (.bl (PyData.eqvAll (xs.map dat) (ys.map dat))) H) : rEqD K (.ref a) (.ref b) H Q :=
  ⟨_, _, .tup ha (dpAll_dat hx), .tup hb (dpAll_dat hy), shaped_tup hx, shaped_tup hy, by simpa only [PyData.eqv] using q⟩
theorem rEqL_true {K : Frag} {H : Hp} {a b : Addr} {xs : List V} {Q : VK} (ha : SqL K H a xs) (hb : SqL K H b xs) (hx : xs.all sca = true) (q : Q (.bl true) H) : rEqD K (.ref a) (.ref b) H Q := rEqL ha hb hx hx (by rw [eqvAll_refl]; exact q)
theorem rEqT_true {K : Frag} {H : Hp} {a b : Addr} {xs : List V} {Q : VK} (ha : SqT K H a xs) (hb : SqT K H b xs) (hx : xs.all sca = true) (q : Q (.bl true) H) : rEqD K (.ref a) (.ref b) H Q := rEqT ha hb hx hx (by rw [eqvAll_refl]; exact q)
/-- a def with all its parameters written, by positional values -/
theorem raw_of {P : Program} {w : World} {K : Frag} {mg : Str → Option Value} {base : Heap} {CX : CXT} {k n : Nat} {f : Addr} {fd : FuncData} {ps : List Str} {sp : Sp} (F : FnOk P w K mg base CX k f fd ps sp)
    (hb : KBn K fd ps n [] (fun us _ => us ++ []) (fun vs _ => vs ++ [])) (hn : n = ps.length := by rfl) : FnR P w K mg base CX k f sp := by
  refine (F.raw (ds := []) (dvs := []) (fun s us k hl => ?_) .nil).imp fun vs H Q E h => ?_
  · exact hb.to s us [] k (by rw [List.append_nil] at hl; rw [hl, hn]) rfl
  · rw [List.append_nil]
    exact h
theorem hu64 {A : Around} {k : Nat} (hr : Room k A) : A.units + 64 < cLine := by have := hr.un; omega
/-! a for over a text's signs -/
theorem for_str {x : Str} {g : TG} {tb : TS} {D : Ends} {σ : L2.St} {H : Hp} (Pv : Nat → L2.St → Hp → Prop) (h0 : Pv 0 σ H)
    (hs : ∀ i c σ H, x.cps[i]? = some c → Pv i σ H → g (.str ⟨#[c]⟩) σ H fun σ2 H2 => tb { D with nx := Pv (i + 1), ct := Pv (i + 1), bk := D.nx } σ2 H2) (hd : ∀ σ H, Pv x.cps.size σ H → D.nx σ H) :
    ∃ Z : Nat → Nat → L2.St → Hp → Prop, (∃ m, Z 0 m σ H) ∧ ∀ i m σ H, Z i m σ H →
      ((Its x).stop i H ∧ D.nx σ H) ∨ ((Its x).go i H ∧ ∃ N : L2.St → Hp → Prop, (∀ σ' H', N σ' H' → ∃ m', m' < m ∧ Z (i + 1) m' σ' H') ∧ ∀ v H', (Its x).yld i H v H' → g v σ H' fun σ2 H2 => tb { D with nx := N, ct := N, bk := D.nx } σ2 H2) := by
  refine ⟨fun i m σ H => m = x.cps.size - i ∧ i ≤ x.cps.size ∧ Pv i σ H, ⟨x.cps.size, by simp, Nat.zero_le _, h0⟩, ?_⟩
  rintro i m σ H ⟨rfl, hi, p⟩
  by_cases hlt : i < x.cps.size
  · refine .inr ⟨hlt, Pv (i + 1), fun σ' H' p' => ⟨x.cps.size - (i + 1), by omega, rfl, hlt, p'⟩, fun v H' y => ?_⟩
    obtain ⟨rfl, c, hc, rfl⟩ := y
    exact hs i c σ H' hc p
  · have e : i = x.cps.size := by omega
    subst e
    exact .inl ⟨Nat.le_refl _, hd σ H p⟩
end S
namespace S
open PySem PySem.Spec PyProof.Rows L2
/-! x in a list whose items' own == may make objects -/
section
open MeetsSeq MeetsSeq2 MeetsSeq3 SeqRoads2
variable {prog : Program} {w : World} {A : Around} {R : Result → Shared → Prop}
/-- at each turn the list is read anew: the items still to come; a hit ends the walk -/
def ContI (prog : Program) (w : World) (A : Around) (R : Result → Shared → Prop) (l : Addr) (x : Value) (N : Nat) (I : Nat → Shared → Prop) : Prop :=
  ∀ i s, I i s → ∃ (its : Array Value) (n : Nat), s.heap.get? l = some { cls := .type "list", data := .seq its n } ∧ its.size = N ∧
    ∀ h1 : i < its.size, wpAny (model prog w) A.in1 (eqBool its[i] x) (fun r s' => if r = true then R (.ok (.ret (.bool true))) s' else I (i + 1) s') (fun e s' => R (.error e) s') s
theorem cont_loop (l : Addr) (x : Value) (N : Nat) (I : Nat → Shared → Prop) (hl : ContI prog w A R l x N I) (fin : ∀ s, I N s → R (.ok (.ret (.bool false))) s) (k : Nat) :
    ∀ i : Nat, N - i = k → i ≤ N → ∀ s, I i s →
      wpAny (model prog w) A.in1 (Builtin.«list.__contains__.loop» ⟨[.ref l, x, rawInt i], []⟩) (GQ.FinOf prog w A R) (fun e s' => R (.error e) s') s := by
  induction k with
  | zero =>
    intro i hk hi s h
    obtain ⟨its, n, h1, hs, _⟩ := hl _ _ h
    have e : i = N := by omega
    have hR : R (.ok (.ret (.bool false))) s := fin s (e ▸ h)
    obtain ⟨hp, g, d, tk, os⟩ := s
    wp_walk using wpAny_loadPart' h1
    have hn : its[((i : Nat) : Int).toNat]? = none := by simp; omega
    rw [hn]
    wp_walk
    exact hR
  | succ k ih =>
    intro i hk hi s h
    obtain ⟨its, n, h1, hs, turn⟩ := hl _ _ h
    have hlt : i < its.size := by omega
    have ht := turn hlt
    obtain ⟨hp, g, d, tk, os⟩ := s
    wp_walk using wpAny_loadPart' h1
    have hn : its[((i : Nat) : Int).toNat]? = some its[i] := by simp [hlt]
    rw [hn]
    refine wpAny_bind (wpAny_mono ht (fun r s2 h2 => ?_) fun _ _ z => z)
    cases r with
    | true =>
      rw [if_pos rfl] at h2
      obtain ⟨hp2, g2, d2, tk2, os2⟩ := s2
      wp_walk
      exact h2
    | false =>
      rw [if_neg Bool.false_ne_true] at h2
      have hc : ((i : Int) + 1) = ((i + 1 : Nat) : Int) := by omega
      have hrec := ih (i + 1) (by omega) (by omega) s2 h2
      obtain ⟨hp2, g2, d2, tk2, os2⟩ := s2
      wp_walk
      rw [hc]
      exact ⟨plainId_quiet plain_contains_loop _, codeAny_builtin entry_contains_loop (by rw [Around.under_plainId plain_contains_loop _]; exact hrec)⟩
theorem cont_list (l : Addr) (x : Value) (N : Nat) (I : Nat → Shared → Prop) (hl : ContI prog w A R l x N I) (fin : ∀ s, I N s → R (.ok (.ret (.bool false))) s) {s : Shared} (h : I 0 s) :
    wpAny (model prog w) A.in1 (Builtin.«list.__contains__» ⟨[.ref l, x], []⟩) (GQ.FinOf prog w A R) (fun e s' => R (.error e) s') s := by
  obtain ⟨its, n, h1, hs, _⟩ := hl _ _ h
  have hrec := cont_loop (A := A) (R := R) l x N I hl fin _ 0 rfl (Nat.zero_le _) s h
  obtain ⟨hp, g, d, tk, os⟩ := s
  wp_walk using wpAny_loadPart' h1
  exact ⟨plainId_quiet plain_contains_loop _, codeAny_builtin entry_contains_loop (by rw [Around.under_plainId plain_contains_loop _]; exact hrec)⟩
theorem contains_G {E : Value → Shared → Prop} {s : Shared} {l : Addr} {x : Value} {N : Nat} {Q : Bool → Shared → Prop} (I : Nat → Shared → Prop)
    (hl : ContI prog w A (wants (fun v s' => ∃ b, v = .bool b ∧ Q b s') E) l x N I) (fin : ∀ s, I N s → Q false s) (h : I 0 s) : wpAny (model prog w) A (contains (.ref l) x) Q E s := by
  obtain ⟨its, n, h1, _⟩ := hl _ _ h
  refine wpAny_contains_slot (T := "list") ⟨_, h1, rfl⟩ F.slot_list_contains (wpAny_mono (GQ.call_here (Q := fun v s' => ∃ b, v = .bool b ∧ Q b s') F.slot_list_contains ⟨_, h1, rfl⟩ F.entry_list_contains (F.args_list_contains_2 _ _) ?_) (fun v s' hv => ?_) fun _ _ e => e)
  · exact cont_list l x N I hl (fun s' q => ⟨false, rfl, fin s' q⟩) h
  · obtain ⟨b, rfl, q⟩ := hv
    exact wpAny_truthy_bool q
end
section
variable {X : Cx} {n : Nat} {C g : Addr} {sp : Sp}
/-- x in y, y a list of instances of C that are compared by their own == : e b tells the answer for the item at b -/
def rInO (C : Addr) (sp : Sp) (neg : Bool) : R2 := fun x y H Q => ∃ (a l dx : Addr) (fs : List (Str × V)) (bs : List Addr) (e : Addr → Bool), x = .ref a ∧ y = .ref l ∧ H l = some (.lst (bs.map V.ref)) ∧ H a = some (.ins C dx fs) ∧
  (∀ b ∈ bs, ∃ dy gs, H b = some (.ins C dy gs)) ∧ (∀ b ∈ bs, ∀ H1, Same H H1 → ∀ Z : VK, (∀ H2, Same H1 H2 → Z (.bl (e b)) H2) → sp [.ref b, .ref a] H1 Z E0) ∧
  ∀ H', Same H H' → Q (.bl (if neg then !(bs.any fun b => decide (b = a) || e b) else bs.any fun b => decide (b = a) || e b)) H'
theorem contO (hs : PySem.W.findIn X.K (.ref C) "__eq__" = some (some (.ref g))) (hf : PySem.W.isFn X.K (.ref g) = true) (F : FnR X.prog X.w X.K X.mg X.base (L2.CX X.prog X.w) n g sp) (hr : Room (n + 1) X.A)
    {pins : List (Addr × Obj)} {s : Shared} {σ : L2.St} {H : Hp} {a l dx : Addr} {fs : List (Str × V)} {bs : List Addr} {e : Addr → Bool} (I : Inv X pins σ H s) (hl : H l = some (.lst (bs.map V.ref))) (ha : H a = some (.ins C dx fs))
    (hb : ∀ b ∈ bs, ∃ dy gs, H b = some (.ins C dy gs)) (hsp : ∀ b ∈ bs, ∀ H1, Same H H1 → ∀ Z : VK, (∀ H2, Same H1 H2 → Z (.bl (e b)) H2) → sp [.ref b, .ref a] H1 Z E0) {Q : Bool → Shared → Prop}
    (q : ∀ s' H', Inv X pins σ H' s' → Same H H' → Q (bs.any fun b => decide (b = a) || e b) s') : wpAny (model X.prog X.w) X.A (contains (.ref l) (.ref a)) Q X.xe s := by
  refine contains_G (N := bs.length) (fun i s' => ∃ H1, Inv X pins σ H1 s' ∧ Same H H1 ∧ (bs.take i).any (fun b => decide (b = a) || e b) = false) ?_ ?_ ⟨H, I, fun _ _ z => z, rfl⟩
  · rintro i s1 ⟨H1, I1, sm, no⟩
    obtain ⟨hz, its, m, rv, hg⟩ := (show ObjOk X.prog X.w H1 s1.heap l (.lst (bs.map V.ref)) from I1.hok l _ (sm _ _ hl))
    have hlen : its.length = bs.length := by rw [← rv.length, List.length_map]
    refine ⟨its.toArray, m, hg, by simp [hlen], fun h1 => ?_⟩
    have hi : i < bs.length := by simpa [hlen] using h1
    obtain ⟨u, hu, ru⟩ := rv.get (i := i) (x := .ref bs[i]) (by simp [hi])
    have eu : its.toArray[i] = Value.ref bs[i] := by
      have : its[i]? = some (Value.ref bs[i]) := by rw [hu]; exact congrArg some ru
      have h2 : i < its.length := by omega
      rw [List.getElem?_eq_getElem h2] at this
      simpa using Option.some.inj this
    rw [eu]
    have mem : bs[i] ∈ bs := List.getElem_mem hi
    have step : ∀ r : Bool, (decide (bs[i] = a) || e bs[i]) = r → ∀ s2 H2, Inv X pins σ H2 s2 → Same H H2 → (if r = true then wants (fun v s' => ∃ b, v = .bool b ∧ Q b s') X.xe (.ok (.ret (.bool true))) s2 else ∃ H1, Inv X pins σ H1 s2 ∧ Same H H1 ∧ (bs.take (i + 1)).any (fun b => decide (b = a) || e b) = false) := by
      intro r er s2 H2 I2 sm2
      have tk : bs.take (i + 1) = bs.take i ++ [bs[i]] := by rw [List.take_succ, List.getElem?_eq_getElem hi]; rfl
      cases r with
      | true =>
        rw [if_pos rfl]
        refine ⟨true, rfl, ?_⟩
        have hq := q s2 H2 I2 sm2
        rw [show (bs.any fun b => decide (b = a) || e b) = true from List.any_eq_true.mpr ⟨_, mem, er⟩] at hq
        exact hq
      | false =>
        rw [if_neg Bool.false_ne_true]
        refine ⟨H2, I2, sm2, ?_⟩
        rw [tk, List.any_append, no, List.any_cons, er]
        rfl
    by_cases hab : bs[i] = a
    · rw [hab]
      exact SeqAt.EqAt.same (A := X.A.in1) (s := s1) (.ref a) X.prog X.w _ _ (step true (by simp [hab]) s1 H1 I1 sm)
    · obtain ⟨dy, gs, hbi⟩ := hb _ mem
      refine GQ.eqBool_refG hab ?_
      obtain ⟨mA, O, _⟩ := ins_get I1.hok (sm _ _ hbi)
      obtain ⟨od, J, _⟩ := O.look
      obtain ⟨mB, O2, _⟩ := ins_get I1.hok (sm _ _ ha)
      obtain ⟨od2, J2, _⟩ := O2.look
      obtain ⟨m2, hF⟩ := I1.fr
      refine PySem.W.cmp_K (op := .Eq) (tb := .ref C) hr.in1.units0 hF I1.ok.mod.kin J J2.type (by simp [PySem.W.notFirst]) hs hf ?_
      refine wpAny_mono (wpAny_call (SlX.run_at (us := [.ref bs[i], .ref a]) (ws := [.ref bs[i], .ref a]) (Q := fun z H2 => z = .bl (e bs[i]) ∧ Same H1 H2) F hr.in1 I1.env0.in1 passL I1 (.cons rfl (.cons rfl .nil)) (hsp _ mem H1 sm _ fun H2 s2 => ⟨rfl, s2⟩))) (fun z s2 hz2 => ?_) fun _ _ x => x
      obtain ⟨z2, H2, I2, rz, rfl, sm2⟩ := hz2
      cases (show z = Value.bool (e bs[i]) from rz)
      exact ⟨e bs[i], rfl, step _ (by simp [hab]) s2 H2 I2 (sm.trans sm2)⟩
  · rintro s1 ⟨H1, I1, sm, no⟩
    have hq := q s1 H1 I1 sm
    rw [List.take_length] at no
    rw [no] at hq
    exact hq
theorem op_inO (hs : PySem.W.findIn X.K (.ref C) "__eq__" = some (some (.ref g))) (hf : PySem.W.isFn X.K (.ref g) = true) (F : FnR X.prog X.w X.K X.mg X.base (L2.CX X.prog X.w) n g sp) (hr : Room (n + 1) X.A) : OpR X (compareOp .In) (rInO C sp false) := by
  intro pins s σ H x y v u Q I rx ry h
  obtain ⟨a, l, dx, fs, bs, e, rfl, rfl, hl, ha, hb, hsp, q⟩ := h
  cases (show v = Value.ref a from rx)
  cases (show u = Value.ref l from ry)
  show wpAny _ _ (do return Value.bool (← contains (.ref l) (.ref a))) _ _ _
  exact wpAny_bind (contO hs hf F hr I hl ha hb hsp fun s' H' I' sm => wpAny_pure ⟨.bl _, H', I', rfl, q H' sm⟩)
theorem op_notInO (hs : PySem.W.findIn X.K (.ref C) "__eq__" = some (some (.ref g))) (hf : PySem.W.isFn X.K (.ref g) = true) (F : FnR X.prog X.w X.K X.mg X.base (L2.CX X.prog X.w) n g sp) (hr : Room (n + 1) X.A) : OpR X (compareOp .NotIn) (rInO C sp true) := by
  intro pins s σ H x y v u Q I rx ry h
  obtain ⟨a, l, dx, fs, bs, e, rfl, rfl, hl, ha, hb, hsp, q⟩ := h
  cases (show v = Value.ref a from rx)
  cases (show u = Value.ref l from ry)
  show wpAny _ _ (do return Value.bool (!(← contains (.ref l) (.ref a)))) _ _ _
  exact wpAny_bind (contO hs hf F hr I hl ha hb hsp fun s' H' I' sm => wpAny_pure ⟨.bl _, H', I', rfl, q H' sm⟩)
end
end S
namespace W
open PySem PySem.Spec PyProof.Rows L2
def top (i : Nat) : Stmt := PySem.Challenge.pw_seenshares_k05_place.main.body.getD i (.Pass ⟨0, 0, 0, 0⟩)
abbrev s_is_integer : Stmt := top 3
theorem sc_is_integer : FnScope ["value"] ["value"] (defScope s_is_integer) := by
  refine ⟨rfl, rfl, rfl, ?_, rfl, ?_, ?_⟩ <;> decide +kernel
abbrev d_is_integer : He.DefD := ⟨("is_integer", none), "is_integer", "is_integer", defArgs s_is_integer, defBody s_is_integer, defScope s_is_integer, [], []⟩
abbrev s_is_within : Stmt := top 4
theorem sc_is_within : FnScope ["value", "low", "high"] ["value", "low", "high"] (defScope s_is_within) := by
  refine ⟨rfl, rfl, rfl, ?_, rfl, ?_, ?_⟩ <;> decide +kernel
abbrev d_is_within : He.DefD := ⟨("is_within", none), "is_within", "is_within", defArgs s_is_within, defBody s_is_within, defScope s_is_within, [], []⟩
abbrev s_is_name : Stmt := top 5
theorem sc_is_name : FnScope ["value", "char"] ["value"] (defScope s_is_name) := by
  refine ⟨rfl, rfl, rfl, ?_, rfl, ?_, ?_⟩ <;> decide +kernel
abbrev d_is_name : He.DefD := ⟨("is_name", none), "is_name", "is_name", defArgs s_is_name, defBody s_is_name, defScope s_is_name, [], []⟩
abbrev s_BadPlace___init__ : Stmt := inClass (top 8) 0
theorem sc_BadPlace___init__ : FnScope ["self", "why"] ["self", "why"] (defScope s_BadPlace___init__) := by
  refine ⟨rfl, rfl, rfl, ?_, rfl, ?_, ?_⟩ <;> decide +kernel
abbrev d_BadPlace___init__ : He.DefD := ⟨("BadPlace", some "__init__"), "__init__", "BadPlace.__init__", defArgs s_BadPlace___init__, defBody s_BadPlace___init__, defScope s_BadPlace___init__, [], []⟩
abbrev s_BadProgram___init__ : Stmt := inClass (top 9) 0
theorem sc_BadProgram___init__ : FnScope ["self", "why"] ["self", "why"] (defScope s_BadProgram___init__) := by
  refine ⟨rfl, rfl, rfl, ?_, rfl, ?_, ?_⟩ <;> decide +kernel
abbrev d_BadProgram___init__ : He.DefD := ⟨("BadProgram", some "__init__"), "__init__", "BadProgram.__init__", defArgs s_BadProgram___init__, defBody s_BadProgram___init__, defScope s_BadProgram___init__, [], []⟩
abbrev s_Place___init__ : Stmt := inClass (top 12) 0
theorem sc_Place___init__ : FnScope ["self", "name", "least", "most", "let"] ["self", "name", "least", "most", "let"] (defScope s_Place___init__) := by
  refine ⟨rfl, rfl, rfl, ?_, rfl, ?_, ?_⟩ <;> decide +kernel
abbrev d_Place___init__ : He.DefD := ⟨("Place", some "__init__"), "__init__", "Place.__init__", defArgs s_Place___init__, defBody s_Place___init__, defScope s_Place___init__, [.int 1, .non], [("let", .bl true)]⟩
abbrev s_Place_place_key : Stmt := inClass (top 12) 1
theorem sc_Place_place_key : FnScope ["self"] ["self"] (defScope s_Place_place_key) := by
  refine ⟨rfl, rfl, rfl, ?_, rfl, ?_, ?_⟩ <;> decide +kernel
abbrev d_Place_place_key : He.DefD := ⟨("Place", some "place_key"), "place_key", "Place.place_key", defArgs s_Place_place_key, defBody s_Place_place_key, defScope s_Place_place_key, [], []⟩
abbrev s_Place___eq__ : Stmt := inClass (top 12) 2
theorem sc_Place___eq__ : FnScope ["self", "other"] ["self", "other"] (defScope s_Place___eq__) := by
  refine ⟨rfl, rfl, rfl, ?_, rfl, ?_, ?_⟩ <;> decide +kernel
abbrev d_Place___eq__ : He.DefD := ⟨("Place", some "__eq__"), "__eq__", "Place.__eq__", defArgs s_Place___eq__, defBody s_Place___eq__, defScope s_Place___eq__, [], []⟩
abbrev s__law_cell : Stmt := top 14
theorem sc__law_cell : FnScope ["_law_script", "_law_k", "_law_cell_here", "_law_number_here", "_law_total", "_law_step"] ["_law_script", "_law_k"] (defScope s__law_cell) := by
  refine ⟨rfl, rfl, rfl, ?_, rfl, ?_, ?_⟩ <;> decide +kernel
abbrev d__law_cell : He.DefD := ⟨("_law_cell", none), "_law_cell", "_law_cell", defArgs s__law_cell, defBody s__law_cell, defScope s__law_cell, [], []⟩
abbrev s__law_take : Stmt := top 15
theorem sc__law_take : FnScope ["_law_draw", "_law_size", "_law_taken"] ["_law_draw", "_law_size"] (defScope s__law_take) := by
  refine ⟨rfl, rfl, rfl, ?_, rfl, ?_, ?_⟩ <;> decide +kernel
abbrev d__law_take : He.DefD := ⟨("_law_take", none), "_law_take", "_law_take", defArgs s__law_take, defBody s__law_take, defScope s__law_take, [], []⟩
abbrev s__law_is_integer : Stmt := top 16
theorem sc__law_is_integer : FnScope ["_law_value"] ["_law_value"] (defScope s__law_is_integer) := by
  refine ⟨rfl, rfl, rfl, ?_, rfl, ?_, ?_⟩ <;> decide +kernel
abbrev d__law_is_integer : He.DefD := ⟨("_law_is_integer", none), "_law_is_integer", "_law_is_integer", defArgs s__law_is_integer, defBody s__law_is_integer, defScope s__law_is_integer, [], []⟩
abbrev s__law_name : Stmt := top 17
theorem sc__law_name : FnScope ["_law_draw", "_law_used", "_law_letters", "_law_word", "_law_k", "_law_letter"] ["_law_draw", "_law_used"] (defScope s__law_name) := by
  refine ⟨rfl, rfl, rfl, ?_, rfl, ?_, ?_⟩ <;> decide +kernel
abbrev d__law_name : He.DefD := ⟨("_law_name", none), "_law_name", "_law_name", defArgs s__law_name, defBody s__law_name, defScope s__law_name, [], []⟩
abbrev s__law_bad_name : Stmt := top 18
theorem sc__law_bad_name : FnScope ["_law_draw", "_law_word", "_law_at", "_law_sign", "_law_odd"] ["_law_draw", "_law_word"] (defScope s__law_bad_name) := by
  refine ⟨rfl, rfl, rfl, ?_, rfl, ?_, ?_⟩ <;> decide +kernel
abbrev d__law_bad_name : He.DefD := ⟨("_law_bad_name", none), "_law_bad_name", "_law_bad_name", defArgs s__law_bad_name, defBody s__law_bad_name, defScope s__law_bad_name, [], []⟩
abbrev s__law_number : Stmt := top 19
theorem sc__law_number : FnScope ["_law_draw", "_law_kind"] ["_law_draw"] (defScope s__law_number) := by
  refine ⟨rfl, rfl, rfl, ?_, rfl, ?_, ?_⟩ <;> decide +kernel
abbrev d__law_number : He.DefD := ⟨("_law_number", none), "_law_number", "_law_number", defArgs s__law_number, defBody s__law_number, defScope s__law_number, [], []⟩
abbrev s__law_made : Stmt := top 20
theorem sc__law_made : FnScope ["_law_word", "_law_low", "_law_high", "_law_looked", "_law_outcome", "e"] ["_law_word", "_law_low", "_law_high", "_law_looked"] (defScope s__law_made) := by
  refine ⟨rfl, rfl, rfl, ?_, rfl, ?_, ?_⟩ <;> decide +kernel
abbrev d__law_made : He.DefD := ⟨("_law_made", none), "_law_made", "_law_made", defArgs s__law_made, defBody s__law_made, defScope s__law_made, [], []⟩
abbrev s__law_due : Stmt := top 21
theorem sc__law_due : FnScope ["_law_bad", "_law_low", "_law_high", "_law_looked"] ["_law_bad", "_law_low", "_law_high", "_law_looked"] (defScope s__law_due) := by
  refine ⟨rfl, rfl, rfl, ?_, rfl, ?_, ?_⟩ <;> decide +kernel
abbrev d__law_due : He.DefD := ⟨("_law_due", none), "_law_due", "_law_due", defArgs s__law_due, defBody s__law_due, defScope s__law_due, [], []⟩
abbrev s__law_is_place : Stmt := top 22
theorem sc__law_is_place : FnScope ["_law_place", "_law_word", "_law_low", "_law_high", "_law_looked"] ["_law_place", "_law_word", "_law_low", "_law_high", "_law_looked"] (defScope s__law_is_place) := by
  refine ⟨rfl, rfl, rfl, ?_, rfl, ?_, ?_⟩ <;> decide +kernel
abbrev d__law_is_place : He.DefD := ⟨("_law_is_place", none), "_law_is_place", "_law_is_place", defArgs s__law_is_place, defBody s__law_is_place, defScope s__law_is_place, [], []⟩
abbrev s_law : Stmt := top 23
theorem sc_law : FnScope ["_law_script", "_law_draw", "_law_bad", "_law_looked", "_law_low", "_law_high", "_law_word", "_law_due_here", "_law_outcome", "_law_same", "_law_others"] ["_law_script"] (defScope s_law) := by
  refine ⟨rfl, rfl, rfl, ?_, rfl, ?_, ?_⟩ <;> decide +kernel
abbrev d_law : He.DefD := ⟨("law", none), "law", "law", defArgs s_law, defBody s_law, defScope s_law, [], []⟩
def fns : List He.DefD := [d_is_integer, d_is_within, d_is_name, d_BadPlace___init__, d_BadProgram___init__, d_Place___init__, d_Place_place_key, d_Place___eq__, d__law_cell, d__law_take, d__law_is_integer, d__law_name, d__law_bad_name, d__law_number, d__law_made, d__law_due, d__law_is_place, d_law]
def cks : List S.Ck := [
  (He.Fa.glo "is_integer").ok,
  (He.Fa.glo "is_within").ok,
  (He.Fa.glo "is_name").ok,
  (He.Fa.glo "_law_cell").ok,
  (He.Fa.glo "_law_take").ok,
  (He.Fa.glo "_law_is_integer").ok,
  (He.Fa.glo "_law_name").ok,
  (He.Fa.glo "_law_bad_name").ok,
  (He.Fa.glo "_law_number").ok,
  (He.Fa.glo "_law_made").ok,
  (He.Fa.glo "_law_due").ok,
  (He.Fa.glo "_law_is_place").ok,
  (He.Fa.glo "law").ok,
  (He.Fa.glo "SeenError").ok,
  (He.Fa.glo "BadPlace").ok,
  (He.Fa.glo "BadProgram").ok,
  (He.Fa.glo "Place").ok,
  (He.Fa.free "int").ok,
  (He.Fa.free "bool").ok,
  (He.Fa.free "str").ok,
  (He.Fa.free "isinstance").ok,
  (He.Fa.free "len").ok,
  (He.Fa.free "range").ok,
  (He.Fa.str "LETTERS" "abcdefghijklmnopqrstuvwxyz").ok,
  (He.Fa.glo "KEPT_WORDS").ok,
  (fun K => He.tupB K "KEPT_WORDS" [.str "any", .str "closed", .str "end", .str "open", .str "to"]),
  (He.Fa.int "MOST_TICKS" 6).ok,
  (fun K => S.oexB K (He.ga K "SeenError")),
  (fun K => S.excB K (He.ga K "SeenError")),
  (fun K => xfB K (He.ga K "SeenError")),
  (He.Fa.exm "SeenError" "SeenError" true).ok,
  (fun K => decide (PySem.W.kitOne K (.ref (He.ga K "SeenError")) (.ref (He.ga K "SeenError")) = some true)),
  (He.Fa.exm "SeenError" "BadPlace" false).ok,
  (fun K => decide (PySem.W.kitOne K (.ref (He.ga K "SeenError")) (.ref (He.ga K "BadPlace")) = some false)),
  (He.Fa.exm "SeenError" "BadProgram" false).ok,
  (fun K => decide (PySem.W.kitOne K (.ref (He.ga K "SeenError")) (.ref (He.ga K "BadProgram")) = some false)),
  (fun K => S.oexB K (He.ga K "BadPlace")),
  (fun K => S.excB K (He.ga K "BadPlace")),
  (fun K => xfB K (He.ga K "BadPlace")),
  (fun K => He.eqO (PySem.W.findIn K (.ref (He.ga K "BadPlace")) "__init__") (some (some (.ref (He.ma K (He.ga K "BadPlace") "__init__"))))),
  (fun K => decide (PySem.W.typeIn K (.ref (He.ma K (He.ga K "BadPlace") "__init__")) = some (.type "function"))),
  (fun K => He.eqO (PySem.W.findIn K (.ref (He.ga K "BadPlace")) "why") (some none)),
  (He.Fa.exm "BadPlace" "SeenError" true).ok,
  (fun K => decide (PySem.W.kitOne K (.ref (He.ga K "BadPlace")) (.ref (He.ga K "SeenError")) = some true)),
  (He.Fa.exm "BadPlace" "BadPlace" true).ok,
  (fun K => decide (PySem.W.kitOne K (.ref (He.ga K "BadPlace")) (.ref (He.ga K "BadPlace")) = some true)),
  (He.Fa.exm "BadPlace" "BadProgram" false).ok,
  (fun K => decide (PySem.W.kitOne K (.ref (He.ga K "BadPlace")) (.ref (He.ga K "BadProgram")) = some false)),
  (fun K => S.oexB K (He.ga K "BadProgram")),
  (fun K => S.excB K (He.ga K "BadProgram")),
  (fun K => xfB K (He.ga K "BadProgram")),
  (fun K => He.eqO (PySem.W.findIn K (.ref (He.ga K "BadProgram")) "__init__") (some (some (.ref (He.ma K (He.ga K "BadProgram") "__init__"))))),
  (fun K => decide (PySem.W.typeIn K (.ref (He.ma K (He.ga K "BadProgram") "__init__")) = some (.type "function"))),
  (fun K => He.eqO (PySem.W.findIn K (.ref (He.ga K "BadProgram")) "why") (some none)),
  (He.Fa.exm "BadProgram" "SeenError" true).ok,
  (fun K => decide (PySem.W.kitOne K (.ref (He.ga K "BadProgram")) (.ref (He.ga K "SeenError")) = some true)),
  (He.Fa.exm "BadProgram" "BadPlace" false).ok,
  (fun K => decide (PySem.W.kitOne K (.ref (He.ga K "BadProgram")) (.ref (He.ga K "BadPlace")) = some false)),
  (He.Fa.exm "BadProgram" "BadProgram" true).ok,
  (fun K => decide (PySem.W.kitOne K (.ref (He.ga K "BadProgram")) (.ref (He.ga K "BadProgram")) = some true)),
  (He.Fa.cls "Place").ok,
  (He.Fa.mkr "Place").ok,
  (He.Fa.noat "Place" "name").ok,
  (He.Fa.noat "Place" "least").ok,
  (He.Fa.noat "Place" "most").ok,
  (He.Fa.noat "Place" "let").ok,
  (He.Fa.meth "Place" "__init__").ok,
  (He.Fa.meth "Place" "place_key").ok,
  (He.Fa.meth "Place" "__eq__").ok,
  (fun K => S.insB K (He.ga K "Place")),
  (fun K => decide (PySem.W.kitOne K (.ref (He.ga K "Place")) (.type "int") = some false)),
  (fun K => decide (PySem.W.kitOne K (.ref (He.ga K "Place")) (.type "bool") = some false)),
  (fun K => decide (PySem.W.kitOne K (.ref (He.ga K "Place")) (.type "str") = some false)),
  (fun K => decide (PySem.W.kitOne K (.ref (He.ga K "Place")) (.type "list") = some false)),
  (fun K => decide (PySem.W.kitOne K (.ref (He.ga K "Place")) (.type "tuple") = some false)),
  (fun K => decide (PySem.W.kitOne K (.ref (He.ga K "Place")) (.type "dict") = some false)),
  (fun K => decide (PySem.W.kitOne K (.ref (He.ga K "Place")) (.ref (He.ga K "Place")) = some true)),
  (fun K => decide (PySem.W.kitOne K (.type "int") (.ref (He.ga K "Place")) = some false)),
  (fun K => decide (PySem.W.kitOne K (.type "bool") (.ref (He.ga K "Place")) = some false)),
  (fun K => decide (PySem.W.kitOne K (.type "str") (.ref (He.ga K "Place")) = some false)),
  (fun K => decide (PySem.W.kitOne K (.type "list") (.ref (He.ga K "Place")) = some false)),
  (fun K => decide (PySem.W.kitOne K (.type "tuple") (.ref (He.ga K "Place")) = some false)),
  (fun K => decide (PySem.W.kitOne K (.type "dict") (.ref (He.ga K "Place")) = some false)),
  (fun K => decide (PySem.W.kitOne K (.type "NoneType") (.ref (He.ga K "Place")) = some false))]
structure Txt (K : S.Frag) (mg : Str → Option Value) : Prop where
  F_is_integer : S.FunA K d_is_integer
  F_is_within : S.FunA K d_is_within
  F_is_name : S.FunA K d_is_name
  F_BadPlace___init__ : S.FunA K d_BadPlace___init__
  F_BadProgram___init__ : S.FunA K d_BadProgram___init__
  F_Place___init__ : S.FunA K d_Place___init__
  F_Place_place_key : S.FunA K d_Place_place_key
  F_Place___eq__ : S.FunA K d_Place___eq__
  F__law_cell : S.FunA K d__law_cell
  F__law_take : S.FunA K d__law_take
  F__law_is_integer : S.FunA K d__law_is_integer
  F__law_name : S.FunA K d__law_name
  F__law_bad_name : S.FunA K d__law_bad_name
  F__law_number : S.FunA K d__law_number
  F__law_made : S.FunA K d__law_made
  F__law_due : S.FunA K d__law_due
  F__law_is_place : S.FunA K d__law_is_place
  F_law : S.FunA K d_law
  g_is_integer : mg "is_integer" = some (.ref (He.ga K "is_integer"))
  g_is_within : mg "is_within" = some (.ref (He.ga K "is_within"))
  g_is_name : mg "is_name" = some (.ref (He.ga K "is_name"))
  g__law_cell : mg "_law_cell" = some (.ref (He.ga K "_law_cell"))
  g__law_take : mg "_law_take" = some (.ref (He.ga K "_law_take"))
  g__law_is_integer : mg "_law_is_integer" = some (.ref (He.ga K "_law_is_integer"))
  g__law_name : mg "_law_name" = some (.ref (He.ga K "_law_name"))
  g__law_bad_name : mg "_law_bad_name" = some (.ref (He.ga K "_law_bad_name"))
  g__law_number : mg "_law_number" = some (.ref (He.ga K "_law_number"))
  g__law_made : mg "_law_made" = some (.ref (He.ga K "_law_made"))
  g__law_due : mg "_law_due" = some (.ref (He.ga K "_law_due"))
  g__law_is_place : mg "_law_is_place" = some (.ref (He.ga K "_law_is_place"))
  g_law : mg "law" = some (.ref (He.ga K "law"))
  g_SeenError : mg "SeenError" = some (.ref (He.ga K "SeenError"))
  g_BadPlace : mg "BadPlace" = some (.ref (He.ga K "BadPlace"))
  g_BadProgram : mg "BadProgram" = some (.ref (He.ga K "BadProgram"))
  g_Place : mg "Place" = some (.ref (He.ga K "Place"))
  n_int : mg "int" = none
  n_bool : mg "bool" = none
  n_str : mg "str" = none
  n_isinstance : mg "isinstance" = none
  n_len : mg "len" = none
  n_range : mg "range" = none
  c_LETTERS : ∃ t, mg "LETTERS" = some (.str "abcdefghijklmnopqrstuvwxyz" t)
  g_KEPT_WORDS : mg "KEPT_WORDS" = some (.ref (He.ga K "KEPT_WORDS"))
  t_KEPT_WORDS : ∀ H : Hp, SqT K H (He.ga K "KEPT_WORDS") [V.str "any", V.str "closed", V.str "end", V.str "open", V.str "to"]
  c_MOST_TICKS : ∃ t, mg "MOST_TICKS" = some (.int 6 t)
  ox_SeenError : OexC K (He.ga K "SeenError")
  xc_SeenError : ExcC K (He.ga K "SeenError")
  xf_SeenError : XfC K (He.ga K "SeenError")
  xm_SeenError_SeenError : PySem.W.exmOne K (.ref (He.ga K "SeenError")) (.ref (He.ga K "SeenError")) = some true
  xk_SeenError_SeenError : PySem.W.kitOne K (.ref (He.ga K "SeenError")) (.ref (He.ga K "SeenError")) = some true
  xm_SeenError_BadPlace : PySem.W.exmOne K (.ref (He.ga K "SeenError")) (.ref (He.ga K "BadPlace")) = some false
  xk_SeenError_BadPlace : PySem.W.kitOne K (.ref (He.ga K "SeenError")) (.ref (He.ga K "BadPlace")) = some false
  xm_SeenError_BadProgram : PySem.W.exmOne K (.ref (He.ga K "SeenError")) (.ref (He.ga K "BadProgram")) = some false
  xk_SeenError_BadProgram : PySem.W.kitOne K (.ref (He.ga K "SeenError")) (.ref (He.ga K "BadProgram")) = some false
  ox_BadPlace : OexC K (He.ga K "BadPlace")
  xc_BadPlace : ExcC K (He.ga K "BadPlace")
  xf_BadPlace : XfC K (He.ga K "BadPlace")
  xi_BadPlace : PySem.W.findIn K (.ref (He.ga K "BadPlace")) "__init__" = some (some (.ref (He.ma K (He.ga K "BadPlace") "__init__")))
  xt_BadPlace : PySem.W.typeIn K (.ref (He.ma K (He.ga K "BadPlace") "__init__")) = some (.type "function")
  xn_BadPlace_why : PySem.W.findIn K (.ref (He.ga K "BadPlace")) "why" = some none
  xm_BadPlace_SeenError : PySem.W.exmOne K (.ref (He.ga K "BadPlace")) (.ref (He.ga K "SeenError")) = some true
  xk_BadPlace_SeenError : PySem.W.kitOne K (.ref (He.ga K "BadPlace")) (.ref (He.ga K "SeenError")) = some true
  xm_BadPlace_BadPlace : PySem.W.exmOne K (.ref (He.ga K "BadPlace")) (.ref (He.ga K "BadPlace")) = some true
  xk_BadPlace_BadPlace : PySem.W.kitOne K (.ref (He.ga K "BadPlace")) (.ref (He.ga K "BadPlace")) = some true
  xm_BadPlace_BadProgram : PySem.W.exmOne K (.ref (He.ga K "BadPlace")) (.ref (He.ga K "BadProgram")) = some false
  xk_BadPlace_BadProgram : PySem.W.kitOne K (.ref (He.ga K "BadPlace")) (.ref (He.ga K "BadProgram")) = some false
  ox_BadProgram : OexC K (He.ga K "BadProgram")
  xc_BadProgram : ExcC K (He.ga K "BadProgram")
  xf_BadProgram : XfC K (He.ga K "BadProgram")
  xi_BadProgram : PySem.W.findIn K (.ref (He.ga K "BadProgram")) "__init__" = some (some (.ref (He.ma K (He.ga K "BadProgram") "__init__")))
  xt_BadProgram : PySem.W.typeIn K (.ref (He.ma K (He.ga K "BadProgram") "__init__")) = some (.type "function")
  xn_BadProgram_why : PySem.W.findIn K (.ref (He.ga K "BadProgram")) "why" = some none
  xm_BadProgram_SeenError : PySem.W.exmOne K (.ref (He.ga K "BadProgram")) (.ref (He.ga K "SeenError")) = some true
  xk_BadProgram_SeenError : PySem.W.kitOne K (.ref (He.ga K "BadProgram")) (.ref (He.ga K "SeenError")) = some true
  xm_BadProgram_BadPlace : PySem.W.exmOne K (.ref (He.ga K "BadProgram")) (.ref (He.ga K "BadPlace")) = some false
  xk_BadProgram_BadPlace : PySem.W.kitOne K (.ref (He.ga K "BadProgram")) (.ref (He.ga K "BadPlace")) = some false
  xm_BadProgram_BadProgram : PySem.W.exmOne K (.ref (He.ga K "BadProgram")) (.ref (He.ga K "BadProgram")) = some true
  xk_BadProgram_BadProgram : PySem.W.kitOne K (.ref (He.ga K "BadProgram")) (.ref (He.ga K "BadProgram")) = some true
  cl_Place : Cls K (He.ga K "Place")
  mk_Place : Mk K (He.ga K "Place") (He.ma K (He.ga K "Place") "__init__")
  na_Place_name : NoAttr K (He.ga K "Place") "name"
  na_Place_least : NoAttr K (He.ga K "Place") "least"
  na_Place_most : NoAttr K (He.ga K "Place") "most"
  na_Place_let : NoAttr K (He.ga K "Place") "let"
  me_Place___init__ : Meth K (He.ga K "Place") "__init__" (He.ma K (He.ga K "Place") "__init__")
  me_Place_place_key : Meth K (He.ga K "Place") "place_key" (He.ma K (He.ga K "Place") "place_key")
  me_Place___eq__ : Meth K (He.ga K "Place") "__eq__" (He.ma K (He.ga K "Place") "__eq__")
  is_Place : S.InsT K (He.ga K "Place")
  kt_Place_int : PySem.W.kitOne K (.ref (He.ga K "Place")) (.type "int") = some false
  kt_Place_bool : PySem.W.kitOne K (.ref (He.ga K "Place")) (.type "bool") = some false
  kt_Place_str : PySem.W.kitOne K (.ref (He.ga K "Place")) (.type "str") = some false
  kt_Place_list : PySem.W.kitOne K (.ref (He.ga K "Place")) (.type "list") = some false
  kt_Place_tuple : PySem.W.kitOne K (.ref (He.ga K "Place")) (.type "tuple") = some false
  kt_Place_dict : PySem.W.kitOne K (.ref (He.ga K "Place")) (.type "dict") = some false
  ko_Place_Place : PySem.W.kitOne K (.ref (He.ga K "Place")) (.ref (He.ga K "Place")) = some true
  kb_Place_int : PySem.W.kitOne K (.type "int") (.ref (He.ga K "Place")) = some false
  kb_Place_bool : PySem.W.kitOne K (.type "bool") (.ref (He.ga K "Place")) = some false
  kb_Place_str : PySem.W.kitOne K (.type "str") (.ref (He.ga K "Place")) = some false
  kb_Place_list : PySem.W.kitOne K (.type "list") (.ref (He.ga K "Place")) = some false
  kb_Place_tuple : PySem.W.kitOne K (.type "tuple") (.ref (He.ga K "Place")) = some false
  kb_Place_dict : PySem.W.kitOne K (.type "dict") (.ref (He.ga K "Place")) = some false
  kb_Place_NoneType : PySem.W.kitOne K (.type "NoneType") (.ref (He.ga K "Place")) = some false
theorem txt_of {K : S.Frag} {h : Heap} {mg : Str → Option Value} (X : K.In h) (G : h.Ns mainGlobals mg) (c : S.SaysX cks fns K) : Txt K mg where
  F_is_integer := c.def_ 0
  F_is_within := c.def_ 1
  F_is_name := c.def_ 2
  F_BadPlace___init__ := c.def_ 3
  F_BadProgram___init__ := c.def_ 4
  F_Place___init__ := c.def_ 5
  F_Place_place_key := c.def_ 6
  F_Place___eq__ := c.def_ 7
  F__law_cell := c.def_ 8
  F__law_take := c.def_ 9
  F__law_is_integer := c.def_ 10
  F__law_name := c.def_ 11
  F__law_bad_name := c.def_ 12
  F__law_number := c.def_ 13
  F__law_made := c.def_ 14
  F__law_due := c.def_ 15
  F__law_is_place := c.def_ 16
  F_law := c.def_ 17
  g_is_integer := He.glo_ok X G (c.fact 0)
  g_is_within := He.glo_ok X G (c.fact 1)
  g_is_name := He.glo_ok X G (c.fact 2)
  g__law_cell := He.glo_ok X G (c.fact 3)
  g__law_take := He.glo_ok X G (c.fact 4)
  g__law_is_integer := He.glo_ok X G (c.fact 5)
  g__law_name := He.glo_ok X G (c.fact 6)
  g__law_bad_name := He.glo_ok X G (c.fact 7)
  g__law_number := He.glo_ok X G (c.fact 8)
  g__law_made := He.glo_ok X G (c.fact 9)
  g__law_due := He.glo_ok X G (c.fact 10)
  g__law_is_place := He.glo_ok X G (c.fact 11)
  g_law := He.glo_ok X G (c.fact 12)
  g_SeenError := He.glo_ok X G (c.fact 13)
  g_BadPlace := He.glo_ok X G (c.fact 14)
  g_BadProgram := He.glo_ok X G (c.fact 15)
  g_Place := He.glo_ok X G (c.fact 16)
  n_int := He.free_ok X G (c.fact 17)
  n_bool := He.free_ok X G (c.fact 18)
  n_str := He.free_ok X G (c.fact 19)
  n_isinstance := He.free_ok X G (c.fact 20)
  n_len := He.free_ok X G (c.fact 21)
  n_range := He.free_ok X G (c.fact 22)
  c_LETTERS := He.str_ok X G (c.fact 23)
  g_KEPT_WORDS := He.glo_ok X G (c.fact 24)
  t_KEPT_WORDS := He.tupB_ok (c.fact 25)
  c_MOST_TICKS := He.int_ok X G (c.fact 26)
  ox_SeenError := S.oexB_ok (c.fact 27)
  xc_SeenError := S.excB_ok (c.fact 28)
  xf_SeenError := xfB_ok (c.fact 29)
  xm_SeenError_SeenError := He.exm_ok (c.fact 30)
  xk_SeenError_SeenError := of_decide_eq_true (c.fact 31)
  xm_SeenError_BadPlace := He.exm_ok (c.fact 32)
  xk_SeenError_BadPlace := of_decide_eq_true (c.fact 33)
  xm_SeenError_BadProgram := He.exm_ok (c.fact 34)
  xk_SeenError_BadProgram := of_decide_eq_true (c.fact 35)
  ox_BadPlace := S.oexB_ok (c.fact 36)
  xc_BadPlace := S.excB_ok (c.fact 37)
  xf_BadPlace := xfB_ok (c.fact 38)
  xi_BadPlace := He.eqO_ok (c.fact 39)
  xt_BadPlace := of_decide_eq_true (c.fact 40)
  xn_BadPlace_why := He.eqO_ok (c.fact 41)
  xm_BadPlace_SeenError := He.exm_ok (c.fact 42)
  xk_BadPlace_SeenError := of_decide_eq_true (c.fact 43)
  xm_BadPlace_BadPlace := He.exm_ok (c.fact 44)
  xk_BadPlace_BadPlace := of_decide_eq_true (c.fact 45)
  xm_BadPlace_BadProgram := He.exm_ok (c.fact 46)
  xk_BadPlace_BadProgram := of_decide_eq_true (c.fact 47)
  ox_BadProgram := S.oexB_ok (c.fact 48)
  xc_BadProgram := S.excB_ok (c.fact 49)
  xf_BadProgram := xfB_ok (c.fact 50)
  xi_BadProgram := He.eqO_ok (c.fact 51)
  xt_BadProgram := of_decide_eq_true (c.fact 52)
  xn_BadProgram_why := He.eqO_ok (c.fact 53)
  xm_BadProgram_SeenError := He.exm_ok (c.fact 54)
  xk_BadProgram_SeenError := of_decide_eq_true (c.fact 55)
  xm_BadProgram_BadPlace := He.exm_ok (c.fact 56)
  xk_BadProgram_BadPlace := of_decide_eq_true (c.fact 57)
  xm_BadProgram_BadProgram := He.exm_ok (c.fact 58)
  xk_BadProgram_BadProgram := of_decide_eq_true (c.fact 59)
  cl_Place := He.cls_ok (c.fact 60)
  mk_Place := He.mkr_ok (c.fact 61)
  na_Place_name := He.noat_ok (c.fact 62)
  na_Place_least := He.noat_ok (c.fact 63)
  na_Place_most := He.noat_ok (c.fact 64)
  na_Place_let := He.noat_ok (c.fact 65)
  me_Place___init__ := He.meth_ok (c.fact 66)
  me_Place_place_key := He.meth_ok (c.fact 67)
  me_Place___eq__ := He.meth_ok (c.fact 68)
  is_Place := S.insB_ok (c.fact 69)
  kt_Place_int := of_decide_eq_true (c.fact 70)
  kt_Place_bool := of_decide_eq_true (c.fact 71)
  kt_Place_str := of_decide_eq_true (c.fact 72)
  kt_Place_list := of_decide_eq_true (c.fact 73)
  kt_Place_tuple := of_decide_eq_true (c.fact 74)
  kt_Place_dict := of_decide_eq_true (c.fact 75)
  ko_Place_Place := of_decide_eq_true (c.fact 76)
  kb_Place_int := of_decide_eq_true (c.fact 77)
  kb_Place_bool := of_decide_eq_true (c.fact 78)
  kb_Place_str := of_decide_eq_true (c.fact 79)
  kb_Place_list := of_decide_eq_true (c.fact 80)
  kb_Place_tuple := of_decide_eq_true (c.fact 81)
  kb_Place_dict := of_decide_eq_true (c.fact 82)
  kb_Place_NoneType := of_decide_eq_true (c.fact 83)
theorem kb_is_integer_1 {K : S.Frag} {mg : Str → Option Value} (T : Txt K mg) : KBn K (S.fdA K ("is_integer", none)) ["value"] 1 [] (fun us _ => us ++ []) (fun vs _ => vs ++ []) :=
  S.kb_of_binds (T.F_is_integer.bindsN fun _ _ _ _ _ _ us hl => match us, hl with | [_], _ => rfl) .nil rfl
theorem kb_is_name_1 {K : S.Frag} {mg : Str → Option Value} (T : Txt K mg) : KBn K (S.fdA K ("is_name", none)) ["value"] 1 [] (fun us _ => us ++ []) (fun vs _ => vs ++ []) :=
  S.kb_of_binds (T.F_is_name.bindsN fun _ _ _ _ _ _ us hl => match us, hl with | [_], _ => rfl) .nil rfl
theorem kb_BadPlace___init___2 {K : S.Frag} {mg : Str → Option Value} (T : Txt K mg) : KBn K (S.fdA K ("BadPlace", some "__init__")) ["self", "why"] 2 [] (fun us _ => us ++ []) (fun vs _ => vs ++ []) :=
  S.kb_of_binds (T.F_BadPlace___init__.bindsN fun _ _ _ _ _ _ us hl => match us, hl with | [_, _], _ => rfl) .nil rfl
theorem kb_is_within_3 {K : S.Frag} {mg : Str → Option Value} (T : Txt K mg) : KBn K (S.fdA K ("is_within", none)) ["value", "low", "high"] 3 [] (fun us _ => us ++ []) (fun vs _ => vs ++ []) :=
  S.kb_of_binds (T.F_is_within.bindsN fun _ _ _ _ _ _ us hl => match us, hl with | [_, _, _], _ => rfl) .nil rfl
theorem kb_Place_place_key_1 {K : S.Frag} {mg : Str → Option Value} (T : Txt K mg) : KBn K (S.fdA K ("Place", some "place_key")) ["self"] 1 [] (fun us _ => us ++ []) (fun vs _ => vs ++ []) :=
  S.kb_of_binds (T.F_Place_place_key.bindsN fun _ _ _ _ _ _ us hl => match us, hl with | [_], _ => rfl) .nil rfl
theorem kb__law_take_2 {K : S.Frag} {mg : Str → Option Value} (T : Txt K mg) : KBn K (S.fdA K ("_law_take", none)) ["_law_draw", "_law_size"] 2 [] (fun us _ => us ++ []) (fun vs _ => vs ++ []) :=
  S.kb_of_binds (T.F__law_take.bindsN fun _ _ _ _ _ _ us hl => match us, hl with | [_, _], _ => rfl) .nil rfl
theorem kb_Place___init___4_let {K : S.Frag} {mg : Str → Option Value} (T : Txt K mg) : ∃ g, KBn K (S.fdA K ("Place", some "__init__")) ["self", "name", "least", "most", "let"] 4 ["let"] g (fun vs zs => vs ++ ((zs.drop 0).take 1)) := by
  obtain ⟨_, _, h⟩ := T.F_Place___init__.kbinds (ps := ["self", "name", "least", "most", "let"]) 4 ["let"] [] (fun us its mv ws => us ++ ((ws.drop 0).take 1)) (List.cons_ne_nil _ _) (List.cons_ne_nil _ _) (by simp [He.DefD.kws, He.Dv.v]) (fun a b c d => (a.append ((d.drop 0).take 1)))
    (fun _ _ _ _ _ _ _ us its mv ws l1 l2 l3 l4 => match us, its, mv, ws, l1, l2, l3, l4 with | [_, _, _, _], [_, _], [], [_], _, _, _, _ => ⟨_, rfl, rfl⟩)
  exact ⟨_, h⟩
theorem kb__law_is_integer_1 {K : S.Frag} {mg : Str → Option Value} (T : Txt K mg) : KBn K (S.fdA K ("_law_is_integer", none)) ["_law_value"] 1 [] (fun us _ => us ++ []) (fun vs _ => vs ++ []) :=
  S.kb_of_binds (T.F__law_is_integer.bindsN fun _ _ _ _ _ _ us hl => match us, hl with | [_], _ => rfl) .nil rfl
theorem kb__law_cell_2 {K : S.Frag} {mg : Str → Option Value} (T : Txt K mg) : KBn K (S.fdA K ("_law_cell", none)) ["_law_script", "_law_k"] 2 [] (fun us _ => us ++ []) (fun vs _ => vs ++ []) :=
  S.kb_of_binds (T.F__law_cell.bindsN fun _ _ _ _ _ _ us hl => match us, hl with | [_, _], _ => rfl) .nil rfl
theorem kb__law_number_1 {K : S.Frag} {mg : Str → Option Value} (T : Txt K mg) : KBn K (S.fdA K ("_law_number", none)) ["_law_draw"] 1 [] (fun us _ => us ++ []) (fun vs _ => vs ++ []) :=
  S.kb_of_binds (T.F__law_number.bindsN fun _ _ _ _ _ _ us hl => match us, hl with | [_], _ => rfl) .nil rfl
theorem kb__law_name_2 {K : S.Frag} {mg : Str → Option Value} (T : Txt K mg) : KBn K (S.fdA K ("_law_name", none)) ["_law_draw", "_law_used"] 2 [] (fun us _ => us ++ []) (fun vs _ => vs ++ []) :=
  S.kb_of_binds (T.F__law_name.bindsN fun _ _ _ _ _ _ us hl => match us, hl with | [_, _], _ => rfl) .nil rfl
theorem kb__law_bad_name_2 {K : S.Frag} {mg : Str → Option Value} (T : Txt K mg) : KBn K (S.fdA K ("_law_bad_name", none)) ["_law_draw", "_law_word"] 2 [] (fun us _ => us ++ []) (fun vs _ => vs ++ []) :=
  S.kb_of_binds (T.F__law_bad_name.bindsN fun _ _ _ _ _ _ us hl => match us, hl with | [_, _], _ => rfl) .nil rfl
theorem kb__law_due_4 {K : S.Frag} {mg : Str → Option Value} (T : Txt K mg) : KBn K (S.fdA K ("_law_due", none)) ["_law_bad", "_law_low", "_law_high", "_law_looked"] 4 [] (fun us _ => us ++ []) (fun vs _ => vs ++ []) :=
  S.kb_of_binds (T.F__law_due.bindsN fun _ _ _ _ _ _ us hl => match us, hl with | [_, _, _, _], _ => rfl) .nil rfl
theorem kb__law_made_4 {K : S.Frag} {mg : Str → Option Value} (T : Txt K mg) : KBn K (S.fdA K ("_law_made", none)) ["_law_word", "_law_low", "_law_high", "_law_looked"] 4 [] (fun us _ => us ++ []) (fun vs _ => vs ++ []) :=
  S.kb_of_binds (T.F__law_made.bindsN fun _ _ _ _ _ _ us hl => match us, hl with | [_, _, _, _], _ => rfl) .nil rfl
theorem kb__law_is_place_5 {K : S.Frag} {mg : Str → Option Value} (T : Txt K mg) : KBn K (S.fdA K ("_law_is_place", none)) ["_law_place", "_law_word", "_law_low", "_law_high", "_law_looked"] 5 [] (fun us _ => us ++ []) (fun vs _ => vs ++ []) :=
  S.kb_of_binds (T.F__law_is_place.bindsN fun _ _ _ _ _ _ us hl => match us, hl with | [_, _, _, _, _], _ => rfl) .nil rfl
theorem kb_Place___init___3 {K : S.Frag} {mg : Str → Option Value} (T : Txt K mg) : ∃ g, KBn K (S.fdA K ("Place", some "__init__")) ["self", "name", "least", "most", "let"] 3 [] g (fun vs zs => vs ++ (([V.int 1, V.non] : List V).drop 1) ++ ((([V.bl true] : List V).drop 0).take 1)) := by
  obtain ⟨_, _, h⟩ := T.F_Place___init__.kbinds (ps := ["self", "name", "least", "most", "let"]) 3 [] [("let", V.bl true)] (fun us its mv ws => us ++ (its.drop 1) ++ ((mv.drop 0).take 1)) (List.cons_ne_nil _ _) (List.cons_ne_nil _ _) (by simp [He.DefD.kws, He.Dv.v]) (fun a b c d => ((a.append (b.drop 1)).append ((c.drop 0).take 1)))
    (fun _ _ _ _ _ _ _ us its mv ws l1 l2 l3 l4 => match us, its, mv, ws, l1, l2, l3, l4 with | [_, _, _], [_, _], [_], [], _, _, _, _ => ⟨_, rfl, ⟨_, _, _, _, _, _, rfl, rfl, rfl⟩⟩)
  exact ⟨_, h⟩
theorem kb_Place___init___2 {K : S.Frag} {mg : Str → Option Value} (T : Txt K mg) : ∃ g, KBn K (S.fdA K ("Place", some "__init__")) ["self", "name", "least", "most", "let"] 2 [] g (fun vs zs => vs ++ (([V.int 1, V.non] : List V).drop 0) ++ ((([V.bl true] : List V).drop 0).take 1)) := by
  obtain ⟨_, _, h⟩ := T.F_Place___init__.kbinds (ps := ["self", "name", "least", "most", "let"]) 2 [] [("let", V.bl true)] (fun us its mv ws => us ++ (its.drop 0) ++ ((mv.drop 0).take 1)) (List.cons_ne_nil _ _) (List.cons_ne_nil _ _) (by simp [He.DefD.kws, He.Dv.v]) (fun a b c d => ((a.append (b.drop 0)).append ((c.drop 0).take 1)))
    (fun _ _ _ _ _ _ _ us its mv ws l1 l2 l3 l4 => match us, its, mv, ws, l1, l2, l3, l4 with | [_, _], [_, _], [_], [], _, _, _, _ => ⟨_, rfl, ⟨_, _, _, _, _, _, rfl, rfl, rfl⟩⟩)
  exact ⟨_, h⟩
theorem kb_Place___eq___2 {K : S.Frag} {mg : Str → Option Value} (T : Txt K mg) : KBn K (S.fdA K ("Place", some "__eq__")) ["self", "other"] 2 [] (fun us _ => us ++ []) (fun vs _ => vs ++ []) :=
  S.kb_of_binds (T.F_Place___eq__.bindsN fun _ _ _ _ _ _ us hl => match us, hl with | [_, _], _ => rfl) .nil rfl
end W

namespace W
open PySem PySem.Spec PyProof.Rows L2
section
variable {P : Program} {w : World} {K : S.Frag} {mg : Str → Option Value} {base : Heap}
open S
theorem isi_true {H : Hp} {i : Int} : TyX K H (.int i) (.type "int") := .base (.int i)
def sp_isint (K : S.Frag) : Sp := Sp1 fun x H Q _ => ∃ b, IsI K H x b ∧ Q (.bl b) H
theorem ok_is_integer (T : Txt K mg) : FnOk P w K mg base (L2.CX P w) 1 (He.fAd K ("is_integer", none)) (S.fdA K ("is_integer", none)) ["value"] (sp_isint K) := by
  refine FunD.ok T.F_is_integer sc_is_integer (fun vs H Q E h => S.splen1 h) (fun cdv A outer s H vs Q E hr h => ?_)
  have hu := hu_of hr
  refine ⟨_, (pss_one (ps_ret (pe_and (pe_callB (S.isiK (K := K) rfl) rfl T.n_isinstance S.boot_isinstance (pa_cons (pv 0) (pa_cons (pe_bltn (v := .ty "int") rfl T.n_int S.boot_int rfl) pa_nil))) (pe_one (pe_not (pe_callB (S.isiK (K := K) rfl) rfl T.n_isinstance S.boot_isinstance (pa_cons (pv 0) (pa_cons (pe_bltn (v := .ty "bool") rfl T.n_bool S.boot_bool rfl) pa_nil)))))))), ?_⟩
  obtain ⟨x, rfl, b, hb, q⟩ := h
  cases hb with
  | int i => exact ⟨_, rfl, _, _, _, _, true, rfl, .ty _, isi_true, kit_ty (by decide +kernel), _, rfl, _, rfl, _, _, _, _, false, rfl, .ty _, isi_true, kit_ty (by decide +kernel), _, rfl, q⟩
  | bl b => exact ⟨_, rfl, _, _, _, _, true, rfl, .ty _, .base (.bl b), kit_ty (by decide +kernel), _, rfl, _, rfl, _, _, _, _, true, rfl, .ty _, .base (.bl b), kit_ty (by decide +kernel), _, rfl, q⟩
  | oth h e => exact ⟨_, rfl, _, _, _, _, false, rfl, .ty _, h, e, _, rfl, q⟩
/-- x is an integer from a to c, or not, as b says -/
def Win (K : S.Frag) (H : Hp) (x : V) (a c : Int) (b : Bool) : Prop := (∃ i, x = .int i ∧ b = (decide (a ≤ i) && decide (i ≤ c))) ∨ (IsI K H x false ∧ b = false)
def sp_within (K : S.Frag) : Sp := Sp3 fun x lo hi H Q _ => ∃ a c b, lo = .int a ∧ hi = .int c ∧ Win K H x a c b ∧ Q (.bl b) H
theorem ok_is_within (T : Txt K mg) : FnOk P w K mg base (L2.CX P w) 2 (He.fAd K ("is_within", none)) (S.fdA K ("is_within", none)) ["value", "low", "high"] (sp_within K) := by
  have G_is_integer := ok_is_integer (P := P) (w := w) (base := base) T
  refine FunD.ok T.F_is_within sc_is_within (fun vs H Q E h => S.splen3 h) (fun cdv A outer s H vs Q E hr h => ?_)
  have hu := hu_of hr
  refine ⟨_, (pss_one (ps_ret (pe_and (S.pe_fnS G_is_integer (hr.mono (by decide)) rfl T.g_is_integer T.F_is_integer.kp (kb_is_integer_1 T) S.pas0 (pa_cons (pv 0) pa_nil) pk_nil rfl rfl) (pe_one (pe_chain op_le op_le (pv 1) (pv 0) (pv 2)))))), ?_⟩
  obtain ⟨x, _, _, rfl, a, c, b, rfl, rfl, h, q⟩ := h
  rcases h with ⟨i, rfl, rfl⟩ | ⟨hb, rfl⟩
  · refine ⟨_, rfl, rfl, rfl, _, rfl, true, .int i, _, rfl, _, rfl, _, rfl, _, _, rfl, rfl, _, rfl, ?_⟩
    by_cases e : a ≤ i
    · rw [if_pos (decide_eq_true e)]
      refine ⟨_, rfl, _, _, rfl, rfl, ?_⟩
      simpa [e] using q
    · rw [if_neg (by simpa using e)]
      simpa [e] using q
  · exact ⟨_, rfl, rfl, rfl, _, rfl, false, hb, _, rfl, q⟩
end
end W

namespace W
open PySem PySem.Spec PyProof.Rows L2
section
variable {P : Program} {w : World} {K : S.Frag} {mg : Str → Option Value} {base : Heap}
open S
/-- the values that the law hands about -/
inductive Od (H : Hp) : V → Prop where
  | int (i : Int) : Od H (.int i)
  | non : Od H .non
  | bl (b : Bool) : Od H (.bl b)
  | str (z : Str) : Od H (.str z)
  | tup {a : Addr} {xs : List V} (h : H a = some (.tup xs)) : Od H (.ref a)
  | lst {a : Addr} {xs : List V} (h : H a = some (.lst xs)) : Od H (.ref a)
  | dK {a : Addr} {xs : List (Key × V)} (h : H a = some (.dK xs)) : Od H (.ref a)
theorem Od.mono {H H' : Hp} {x : V} (h : Od H x) (s : Same H H') : Od H' x := by
  cases h with
  | int i => exact .int i
  | non => exact .non
  | bl b => exact .bl b
  | str z => exact .str z
  | tup h => exact .tup (s _ _ h)
  | lst h => exact .lst (s _ _ h)
  | dK h => exact .dK (s _ _ h)
def isInt : V → Bool
  | .int _ => true
  | _ => false
theorem Od.isi {H : Hp} {x : V} (h : Od H x) : IsI K H x (isInt x) := by
  cases h with
  | int i => exact .int i
  | non => exact .oth (.base .non) (kit_ty (by decide +kernel))
  | bl b => exact .bl b
  | str z => exact .oth (.base (.str z)) (kit_ty (by decide +kernel))
  | tup h => exact .oth (.base (.tup h)) (kit_ty (by decide +kernel))
  | lst h => exact .oth (.base (.lst h)) (kit_ty (by decide +kernel))
  | dK h => exact .oth (.base (.dK h)) (kit_ty (by decide +kernel))
/-- an integer from a to b -/
def inR (a b : Int) : V → Bool
  | .int i => decide (a ≤ i) && decide (i ≤ b)
  | _ => false
theorem Od.within {H : Hp} {x : V} {a b : Int} (h : Od H x) : Win K H x a b (inR a b x) := by
  cases h with
  | int i => exact .inl ⟨i, rfl, rfl⟩
  | non => exact .inr ⟨Od.isi .non, rfl⟩
  | bl b => exact .inr ⟨Od.isi (.bl b), rfl⟩
  | str z => exact .inr ⟨Od.isi (.str z), rfl⟩
  | tup h => exact .inr ⟨Od.isi (.tup h), rfl⟩
  | lst h => exact .inr ⟨Od.isi (.lst h), rfl⟩
  | dK h => exact .inr ⟨Od.isi (.dK h), rfl⟩
end
end W

namespace W
open PySem PySem.Spec PyProof.Rows L2
section
variable {P : Program} {w : World} {K : S.Frag} {mg : Str → Option Value} {base : Heap}
open S
theorem ok__law_cell (T : Txt K mg) : FnOk P w K mg base (L2.CX P w) 1 (He.fAd K ("_law_cell", none)) (S.fdA K ("_law_cell", none)) ["_law_script", "_law_k"] (spCellN K) := by
  refine FunD.ok T.F__law_cell sc__law_cell (fun vs H Q E h => S.splen2 h) (fun cdv A outer s H vs Q E hr h => ?_)
  have hu := hu_of hr
  refine ⟨_, (pss_cons (ps_set (i := 2) sc__law_cell.nd rfl (by first | exact Or.inl rfl | exact Or.inr rfl) pe_int)
      (S.pss_cut (ps_if (pt_cmpR op_lt (pv 1) (pe_callB (S.lenK (K := K) rfl) rfl T.n_len S.boot_len (pa_cons (pv 0) pa_nil)) (nomark _)) (pss_one (ps_set (i := 2) sc__law_cell.nd rfl (by first | exact Or.inl rfl | exact Or.inr rfl) (pe_ix (S.ixK (K := K) rfl) (pv 0) (pv 1) (fun _ _ => rfl)))) pss_nil)
      (pss_cons (ps_if (pt_cmpR op_ge (pv 2) (pe_op op_pow pe_int pe_int) (nomark _)) (pss_one (ps_ret (pv 2))) pss_nil)
      (pss_cons (ps_set (i := 3) sc__law_cell.nd rfl (by first | exact Or.inl rfl | exact Or.inr rfl) (pe_op op_mod (pe_callTy call_int1 rfl T.n_int S.boot_int (pa_cons (pe_op op_add (pe_op op_add (pe_op S.op_mulA (pv 2) pe_int) (pe_op S.op_mulA (pv 1) pe_int)) pe_int) pa_nil)) pe_int))
      (pss_cons (ps_set (i := 4) sc__law_cell.nd rfl (by first | exact Or.inl rfl | exact Or.inr rfl) pe_int)
      (pss_cons (ps_for (S.own_of rfl) rfl (pi_range1 rfl T.n_range (pa_cons pe_int pa_nil)) (pg_name (i := 5) sc__law_cell.nd rfl (by first | exact Or.inl rfl | exact Or.inr rfl))
        (pss_cons (ps_set (i := 3) sc__law_cell.nd rfl (by first | exact Or.inl rfl | exact Or.inr rfl) (pe_op op_mod (pe_callTy call_int1 rfl T.n_int S.boot_int (pa_cons (pe_op op_add (pe_op op_add (pe_op S.op_mulA (pv 3) pe_int) (pe_op S.op_mulA (pv 5) pe_int)) pe_int) pa_nil)) pe_int))
      (pss_cons (ps_set (i := 3) sc__law_cell.nd rfl (by first | exact Or.inl rfl | exact Or.inr rfl) (pe_op op_mod (pe_callTy call_int1 rfl T.n_int S.boot_int (pa_cons (pe_op S.op_mulA (pv 3) (pe_op op_add (pe_op op_fdivW (pv 3) pe_int) pe_int)) pa_nil)) pe_int))
      (pss_one (ps_set (i := 4) sc__law_cell.nd rfl (by first | exact Or.inl rfl | exact Or.inr rfl) (pe_op op_add (pe_op S.op_mulA (pv 4) pe_int) (pv 3)))))))
      (pss_one (ps_ret (pv 4))))))))), ?_⟩
  obtain ⟨_, _, rfl, a, ns, k, rfl, rfl, hk, hS, q⟩ := h
  refine ⟨fun τ J => J = H ∧ ∃ c : Int, τ = [some (.ref a), some (.int k), some (.int c), none, none, none], ?_, ?_⟩
  · refine ⟨_, rfl, _, rfl, _, (ns.map V.int).length, rfl, .inl ⟨_, hS, rfl⟩, _, _, rfl, rfl, _, rfl, ?_⟩
    by_cases c : k < ((ns.map V.int).length : Int)
    · obtain ⟨m, rfl⟩ : ∃ m : Nat, k = (m : Int) := ⟨k.toNat, by omega⟩
      rw [List.length_map] at c
      exact iteY (by simpa using c) ⟨_, rfl, _, rfl, .inl ⟨a, _, _, _, rfl, rfl, hS, int_at (by omega), rfl, _, rfl⟩⟩
    · exact iteN (by simpa using c) ⟨rfl, _, rfl⟩
  · rintro τ J ⟨rfl, c, rfl⟩
    refine ⟨_, rfl, _, _, rfl, rfl, ⟨by decide, by decide, by decide⟩, _, _, rfl, rfl, _, rfl, ?_⟩
    refine ite2 (fun h => ⟨_, rfl, q _ ?_⟩) (fun _ => ?_)
    · have h2 : (10 : Int) ^ 18 ≤ c := by simpa using h
      omega
    refine ⟨_, rfl, _, _, rfl, rfl, mul_small (by decide), _, rfl, _, _, rfl, rfl, mul_small (by decide), _, _, rfl, rfl, _, _, rfl, rfl, .inl ⟨_, rfl, _, _, rfl, rfl, (by show (0 : Int) < 2147483647; decide), ?_⟩⟩
    refine ⟨8, rfl, by decide, by decide, for_range (n := 8) (fun i σ J2 => J2 = J ∧ ∃ (x y : Int) (st : Option V), 0 ≤ x ∧ x < 2147483647 ∧ 0 ≤ y ∧ σ = [some (.ref a), some (.int k), some (.int c), some (.int x), some (.int y), st]) ⟨rfl, _, _, none, Int.emod_nonneg _ (by decide), Int.emod_lt_of_pos _ (by decide), Int.le_refl 0, rfl⟩ ?_ ?_⟩
    · rintro i σ J2 hi ⟨rfl, x, y, st, h0, h1, hy, rfl⟩
      refine ⟨_, rfl, _, _, rfl, rfl, mul_small (by decide), _, rfl, _, _, rfl, rfl, mul_small (by decide), _, _, rfl, rfl, _, _, rfl, rfl, .inl ⟨_, rfl, _, _, rfl, rfl, (by show (0 : Int) < 2147483647; decide), ?_⟩⟩
      refine ⟨_, rfl, _, rfl, _, _, rfl, rfl, div_small (by decide) (by decide), _, _, rfl, rfl, _, _, rfl, rfl, mul_smallL (mod_small _ (by decide) (by decide)), .inl ⟨_, rfl, _, _, rfl, rfl, (by show (0 : Int) < 2147483629; decide), ?_⟩⟩
      refine ⟨_, rfl, _, _, rfl, rfl, mul_small (by decide), _, rfl, _, _, rfl, rfl, rfl, _, _, some (.int (0 + (i : Int))), mod_lo _ (by decide), Int.lt_trans (mod_hi _ (by decide)) (by decide), ?_, rfl⟩
      exact Int.add_nonneg (Int.mul_nonneg hy (by decide)) (mod_lo _ (by decide))
    · rintro σ J2 ⟨rfl, x, y, st, _, _, hy, rfl⟩
      exact ⟨_, rfl, q y hy⟩
def spTake : Sp := Sp2 fun x y H Q _ => ∃ (a : Addr) (n m : Int), x = .ref a ∧ H a = some (.lst [.int n]) ∧ y = .int m ∧ 0 < m ∧ m < 2 ^ 64 ∧ ∀ t n', 0 ≤ t → t < m → Q (.int t) (upd H a (.lst [.int n']))
theorem ok__law_take (T : Txt K mg) : FnOk P w K mg base (L2.CX P w) 1 (He.fAd K ("_law_take", none)) (S.fdA K ("_law_take", none)) ["_law_draw", "_law_size"] (spTake) := by
  refine FunD.ok T.F__law_take sc__law_take (fun vs H Q E h => S.splen2 h) (fun cdv A outer s H vs Q E hr h => ?_)
  have hu := hu_of hr
  refine ⟨_, (pss_cons (ps_set (i := 2) sc__law_take.nd rfl (by first | exact Or.inl rfl | exact Or.inr rfl) (pe_op op_mod (pe_callTy call_int1 rfl T.n_int S.boot_int (pa_cons (pe_ix (S.ixK (K := K) rfl) (pv 0) pe_int (fun _ _ => rfl)) pa_nil)) (pv 1)))
      (pss_cons (ps_asg (pe_op op_fdivW (pe_ix (S.ixK (K := K) rfl) (pv 0) pe_int (fun _ _ => rfl)) (pv 1)) (pg_sub (pv 0) pe_int set_list))
      (pss_one (ps_ret (pv 2))))), ?_⟩
  obtain ⟨_, _, rfl, a, n, m, rfl, ha, rfl, h0, h1, q⟩ := h
  refine ⟨_, rfl, .inl ⟨a, _, 0, _, rfl, rfl, .inl (.inl ha), rfl, .inl ⟨_, rfl, _, rfl, _, _, rfl, rfl, h0, ?_⟩⟩⟩
  refine ⟨_, rfl, .inl ⟨a, _, 0, _, rfl, rfl, .inl (.inl ha), rfl, _, rfl, _, _, rfl, rfl, div_small h0 h1, ?_⟩⟩
  exact ⟨_, rfl, a, _, 0, 0, rfl, rfl, ha, rfl, _, rfl, q _ _ (mod_lo _ h0) (mod_hi _ h0)⟩
end
end W

namespace W
open PySem PySem.Spec PyProof.Rows L2
section
variable {P : Program} {w : World} {K : S.Frag} {mg : Str → Option Value} {base : Heap}
open S
/-- the draws at a went on, all else stands -/
structure Dr (a : Addr) (H H' : Hp) : Prop where
  at_ : ∃ m : Int, H' a = some (.lst [.int m])
  kp : ∀ b o, b ≠ a → H b = some o → H' b = some o
theorem Dr.trans {a : Addr} {H H1 H2 : Hp} (x : Dr a H H1) (y : Dr a H1 H2) : Dr a H H2 := ⟨y.at_, fun b o n h => y.kp b o n (x.kp b o n h)⟩
theorem Dr.upd {a : Addr} {H : Hp} {n : Int} : Dr a H (upd H a (.lst [.int n])) := ⟨⟨n, upd_same⟩, fun b o nb h => by rw [upd_ne nb]; exact h⟩
theorem Dr.same {a : Addr} {H H' : Hp} {n : Int} (h : H a = some (.lst [.int n])) (s : Same H H') : Dr a H H' := ⟨⟨n, s _ _ h⟩, fun b o _ h => s b o h⟩
/-- values that do not lean on the draws -/
inductive Oa (a : Addr) (H : Hp) : V → Prop where
  | int (i : Int) : Oa a H (.int i)
  | non : Oa a H .non
  | bl (b : Bool) : Oa a H (.bl b)
  | str (z : Str) : Oa a H (.str z)
  | tup {c : Addr} {xs : List V} (n : c ≠ a) (h : H c = some (.tup xs)) : Oa a H (.ref c)
  | lst {c : Addr} {xs : List V} (n : c ≠ a) (h : H c = some (.lst xs)) : Oa a H (.ref c)
  | dK {c : Addr} {xs : List (Key × V)} (n : c ≠ a) (h : H c = some (.dK xs)) : Oa a H (.ref c)
theorem Oa.od {a : Addr} {H : Hp} {x : V} (h : Oa a H x) : Od H x := by
  cases h with
  | int i => exact .int i
  | non => exact .non
  | bl b => exact .bl b
  | str z => exact .str z
  | tup n h => exact .tup h
  | lst n h => exact .lst h
  | dK n h => exact .dK h
theorem Oa.dr {a : Addr} {H H' : Hp} {x : V} (h : Oa a H x) (d : Dr a H H') : Oa a H' x := by
  cases h with
  | int i => exact .int i
  | non => exact .non
  | bl b => exact .bl b
  | str z => exact .str z
  | tup n h => exact .tup n (d.kp _ _ n h)
  | lst n h => exact .lst n (d.kp _ _ n h)
  | dK n h => exact .dK n (d.kp _ _ n h)
theorem ix3 {H : Hp} {a : Addr} {xs : List V} {v : V} {i : Int} {Q : VK} (ha : H a = some (.lst xs)) (e : atI xs i = some v) (q : Q v H) : rIx K (.ref a) (.int i) H Q := .inl ⟨a, _, _, _, rfl, rfl, .inl (.inl ha), e, q⟩
theorem ixT {H : Hp} {a : Addr} {xs : List V} {v : V} {i : Int} {Q : VK} (ha : H a = some (.tup xs)) (e : atI xs i = some v) (q : Q v H) : rIx K (.ref a) (.int i) H Q := .inr (.inl ⟨a, _, _, _, rfl, rfl, .inl (.inl ha), e, q⟩)
theorem isInt_int {x : V} (h : isInt x = true) : ∃ i, x = .int i := by cases x <;> first | exact ⟨_, rfl⟩ | cases h
theorem inR_not {x : V} {a b : Int} (h : isInt x = false) : inR a b x = false := by cases x <;> first | rfl | cases h
/-- one new thing at r beside what stood -/
theorem dr_same {r : Addr} {H H1 H2 : Hp} (h : Same H H1) (n : H r = none) (d : Dr r H1 H2) : Same H H2 := fun b o e => d.kp b o (ne_of_none e n) (h b o e)
end
end W

namespace W
open PySem PySem.Spec PyProof.Rows L2
section
variable {P : Program} {w : World} {K : S.Frag} {mg : Str → Option Value} {base : Heap}
open S
theorem ok__law_is_integer (T : Txt K mg) : FnOk P w K mg base (L2.CX P w) 1 (He.fAd K ("_law_is_integer", none)) (S.fdA K ("_law_is_integer", none)) ["_law_value"] (sp_isint K) := by
  refine FunD.ok T.F__law_is_integer sc__law_is_integer (fun vs H Q E h => S.splen1 h) (fun cdv A outer s H vs Q E hr h => ?_)
  have hu := hu_of hr
  refine ⟨_, (pss_one (ps_ret (pe_and (pe_callB (S.isiK (K := K) rfl) rfl T.n_isinstance S.boot_isinstance (pa_cons (pv 0) (pa_cons (pe_bltn (v := .ty "int") rfl T.n_int S.boot_int rfl) pa_nil))) (pe_one (pe_not (pe_callB (S.isiK (K := K) rfl) rfl T.n_isinstance S.boot_isinstance (pa_cons (pv 0) (pa_cons (pe_bltn (v := .ty "bool") rfl T.n_bool S.boot_bool rfl) pa_nil)))))))), ?_⟩
  obtain ⟨x, rfl, b, hb, q⟩ := h
  cases hb with
  | int i => exact ⟨_, rfl, _, _, _, _, true, rfl, .ty _, isi_true, kit_ty (by decide +kernel), _, rfl, _, rfl, _, _, _, _, false, rfl, .ty _, isi_true, kit_ty (by decide +kernel), _, rfl, q⟩
  | bl b => exact ⟨_, rfl, _, _, _, _, true, rfl, .ty _, .base (.bl b), kit_ty (by decide +kernel), _, rfl, _, rfl, _, _, _, _, true, rfl, .ty _, .base (.bl b), kit_ty (by decide +kernel), _, rfl, q⟩
  | oth h e => exact ⟨_, rfl, _, _, _, _, false, rfl, .ty _, h, e, _, rfl, q⟩
end
end W

namespace W
open PySem PySem.Spec PyProof.Rows L2
section
variable {P : Program} {w : World} {K : S.Frag} {mg : Str → Option Value} {base : Heap}
open S
/-! names -/
abbrev abc : Str := "abcdefghijklmnopqrstuvwxyz"
abbrev keptW : List V := [.str "any", .str "closed", .str "end", .str "open", .str "to"]
def isNm (z : Str) : Bool := (decide (1 ≤ z.length) && decide (z.length ≤ 8)) && (!inV (.str z) keptW && z.cps.toList.all fun c => decide (c ∈ abc.cps.toList))
def nmV : V → Bool
  | .str z => isNm z
  | _ => false
def isStr : V → Bool
  | .str _ => true
  | _ => false
def isBl : V → Bool
  | .bl _ => true
  | _ => false
/-- a text of bounded length, or none -/
def sml : V → Prop
  | .str z => z.length ≤ 1000
  | _ => True
theorem Od.str? {H : Hp} {x : V} (h : Od H x) : ∃ t, TyX K H x t ∧ PySem.W.kitOne K t (.type "str") = some (isStr x) := by
  cases h with
  | int i => exact ⟨_, .base (.int i), kit_ty (r := false) (by decide +kernel)⟩
  | non => exact ⟨_, .base .non, kit_ty (r := false) (by decide +kernel)⟩
  | bl b => exact ⟨_, .base (.bl b), kit_ty (r := false) (by decide +kernel)⟩
  | str z => exact ⟨_, .base (.str z), kit_ty (r := true) (by decide +kernel)⟩
  | tup h => exact ⟨_, .base (.tup h), kit_ty (r := false) (by decide +kernel)⟩
  | lst h => exact ⟨_, .base (.lst h), kit_ty (r := false) (by decide +kernel)⟩
  | dK h => exact ⟨_, .base (.dK h), kit_ty (r := false) (by decide +kernel)⟩
theorem Od.bl? {H : Hp} {x : V} (h : Od H x) : ∃ t, TyX K H x t ∧ PySem.W.kitOne K t (.type "bool") = some (isBl x) := by
  cases h with
  | int i => exact ⟨_, .base (.int i), kit_ty (r := false) (by decide +kernel)⟩
  | non => exact ⟨_, .base .non, kit_ty (r := false) (by decide +kernel)⟩
  | bl b => exact ⟨_, .base (.bl b), kit_ty (r := true) (by decide +kernel)⟩
  | str z => exact ⟨_, .base (.str z), kit_ty (r := false) (by decide +kernel)⟩
  | tup h => exact ⟨_, .base (.tup h), kit_ty (r := false) (by decide +kernel)⟩
  | lst h => exact ⟨_, .base (.lst h), kit_ty (r := false) (by decide +kernel)⟩
  | dK h => exact ⟨_, .base (.dK h), kit_ty (r := false) (by decide +kernel)⟩
theorem all_take {z : Str} {i c : Nat} (h : z.cps[i]? = some c) : z.cps.toList.take (i + 1) = z.cps.toList.take i ++ [c] := by
  rw [List.take_succ, ← Array.getElem?_toList] at *
  rw [h]
  rfl
def spNm (K : S.Frag) : Sp := Sp1 fun x H Q _ => Od H x ∧ sml x ∧ Q (.bl (nmV x)) H
theorem ok_is_name (T : Txt K mg) : FnOk P w K mg base (L2.CX P w) 1 (He.fAd K ("is_name", none)) (S.fdA K ("is_name", none)) ["value"] (spNm K) := by
  refine FunD.ok T.F_is_name sc_is_name (fun vs H Q E h => S.splen1 h) (fun cdv A outer s H vs Q E hr h => ?_)
  have hu := hu_of hr
  refine ⟨_, (pss_cons (ps_if (PW.pt (pw_or (pt_not (pt_val (pe_callB (S.isiK (K := K) rfl) rfl T.n_isinstance S.boot_isinstance (pa_cons (pv 0) (pa_cons (pe_bltn (v := .ty "str") rfl T.n_str S.boot_str rfl) pa_nil))))) (pw_or (pt_not (pt_chain op_le op_le pe_int (pe_callB (S.lenK (K := K) rfl) rfl T.n_len S.boot_len (pa_cons (pv 0) pa_nil)) pe_int)) (pw_or1 (pt_cmpR (S.inK (K := K) rfl) (pv 0) (pe_glob (v := .ref _) rfl T.g_KEPT_WORDS rfl) rfl))))) (pss_one (ps_ret pe_bl)) pss_nil)
      (pss_cons (ps_for (S.own_of rfl) rfl (pi_str (pv 0)) (pg_name (i := 1) sc_is_name.nd rfl (by first | exact Or.inl rfl | exact Or.inr rfl))
        (pss_one (ps_if (pt_cmpR op_notIn_sign (pv 1) (S.pe_globS rfl T.c_LETTERS) rfl) (pss_one (ps_ret pe_bl)) pss_nil)))
      (pss_one (ps_ret pe_bl)))), ?_⟩
  obtain ⟨x, rfl, ox, sx, q⟩ := h
  obtain ⟨t, ty, kt⟩ := ox.str? (K := K)
  refine ⟨_, rfl, _, _, _, _, _, rfl, .ty _, ty, kt, _, rfl, ?_⟩
  cases c1 : isStr x with
  | false =>
    have e : nmV x = false := by cases x <;> first | rfl | cases c1
    rw [e] at q
    exact iteT (iteT q)
  | true =>
    obtain ⟨z, rfl⟩ : ∃ z, x = .str z := by cases x <;> first | exact ⟨_, rfl⟩ | cases c1
    have sz : z.length ≤ 1000 := sx
    have bad : isNm z = false → Q (.bl false) H := fun e => by
      have e2 : nmV (.str z) = false := e
      rw [e2] at q
      exact q
    have q1 : ((1 : Int) ≤ (z.length : Int)) ↔ 1 ≤ z.length := by omega
    have q2 : ((z.length : Int) ≤ 8) ↔ z.length ≤ 8 := by omega
    refine iteF ⟨_, rfl, _, z.length, rfl, ⟨Nat.le_trans sz (by decide), rfl⟩, _, _, rfl, rfl, _, rfl, ?_⟩
    by_cases d1 : 1 ≤ z.length
    · refine iteY (decide_eq_true (by omega)) ⟨_, _, rfl, rfl, _, rfl, ?_⟩
      by_cases d2 : z.length ≤ 8
      · refine iteN (by simpa [q2] using d2) ⟨_, rfl, _, _, rfl, .inr (T.t_KEPT_WORDS H), rfl, rfl, _, rfl, ?_⟩
        cases d3 : inV (.str z) keptW with
        | true => exact iteY rfl (bad (by simp [isNm, d3]))
        | false =>
          refine iteN (by decide) ?_
          refine ⟨_, rfl, z, rfl, for_str (fun i σ J => J = H ∧ (∃ t, σ = [some (.str z), t]) ∧ (z.cps.toList.take i).all (fun c => decide (c ∈ abc.cps.toList)) = true) ⟨rfl, ⟨_, rfl⟩, rfl⟩ ?_ ?_⟩
          · rintro i c σ J hc ⟨rfl, ⟨t, rfl⟩, ha⟩
            refine ⟨_, rfl, _, _, rfl, rfl, _, rfl, ?_⟩
            by_cases d4 : c ∈ abc.cps.toList
            · refine iteN (by simp [d4]) ⟨rfl, ⟨_, rfl⟩, ?_⟩
              rw [all_take hc, List.all_append, ha, List.all_cons, decide_eq_true d4]
              rfl
            · refine iteY (by simp [d4]) (bad ?_)
              have m : c ∈ z.cps.toList := by
                rw [← Array.getElem?_toList] at hc
                exact List.mem_of_getElem? hc
              have e : (z.cps.toList.all fun c => decide (c ∈ abc.cps.toList)) = false := by
                rw [List.all_eq_false]
                exact ⟨c, m, by simp [d4]⟩
              simp only [isNm, e, Bool.and_false]
          · rintro σ J ⟨rfl, ⟨t, rfl⟩, ha⟩
            have e : nmV (.str z) = true := by
              have ha2 : (z.cps.toList.all fun c => decide (c ∈ abc.cps.toList)) = true := by
                rw [show z.cps.size = z.cps.toList.length by simp, List.take_length] at ha
                exact ha
              show isNm z = true
              simp only [isNm, ha2, d3, decide_eq_true d1, decide_eq_true d2]
              rfl
            rw [e] at q
            exact q
      · exact iteY (by simpa [q2] using d2) (bad (by simp [isNm, d2]))
    · exact iteN (fun c => d1 (by have := of_decide_eq_true c; omega)) ⟨_, rfl, iteT (bad (by simp [isNm, d1]))⟩
theorem ok_BadPlace___init__ (T : Txt K mg) : FnOk P w K mg base (L2.CX P w) 1 (He.fAd K ("BadPlace", some "__init__")) (S.fdA K ("BadPlace", some "__init__")) ["self", "why"] (sp_err (He.ga K "BadPlace") "why") := by
  refine FunD.ok T.F_BadPlace___init__ sc_BadPlace___init__ (fun vs H Q E h => S.splen2 h) (fun cdv A outer s H vs Q E hr h => ?_)
  have hu := hu_of hr
  refine ⟨_, (pss_one (S.ps_ostK (K := K) rfl (pv 0) (pv 1) rfl)), ?_⟩
  obtain ⟨_, y, rfl, a, rfl, ha, k⟩ := h
  exact ⟨_, rfl, _, rfl, a, _, rfl, T.ox_BadPlace, T.xn_BadPlace_why, .inl ⟨ha, k⟩⟩
def intOf : V → Int
  | .int i => i
  | _ => 0
def mostV (l m : V) : V := if m = .non then l else m
/-- what is wrong with these four, or "" -/
def dueP (n l m t : V) : Str := if !nmV n then "name" else if !inR 1 6 l then "least" else if !inR (intOf l) 6 (mostV l m) then "most" else if !isBl t then "let" else ""
def fldP (n l m t : V) : List (Str × V) := [("name", n), ("least", l), ("most", m), ("let", t)]
theorem inR_int {a b : Int} {x : V} (h : inR a b x = true) : ∃ i, x = .int i ∧ a ≤ i ∧ i ≤ b := by
  cases x with
  | int i => simp [inR] at h; exact ⟨i, rfl, h⟩
  | _ => cases h
def spPlace (K : S.Frag) : Sp := Sp5 fun self n l m t H Q E => ∃ p dx, self = .ref p ∧ H p = some (.ins (He.ga K "Place") dx []) ∧ Od H n ∧ sml n ∧ Od H l ∧ Od H m ∧ Od H t ∧
  (dueP n l m t = "" → ∀ H', (∀ b o, H b = some o → b ≠ p → H' b = some o) → H' p = some (.ins (He.ga K "Place") dx (fldP n l (mostV l m) t)) → Q .non H') ∧
  (dueP n l m t ≠ "" → ∀ d H', H d = none → Same H H' → H' d = some (.xd [("why", .str (dueP n l m t))]) → E (.ref (He.ga K "BadPlace")) (some d) H')
theorem ok_Place___init__ (T : Txt K mg) : FnOk P w K mg base (L2.CX P w) 3 (He.fAd K ("Place", some "__init__")) (S.fdA K ("Place", some "__init__")) ["self", "name", "least", "most", "let"] (spPlace K) := by
  have G_is_name := ok_is_name (P := P) (w := w) (base := base) T
  have G_BadPlace___init__ := ok_BadPlace___init__ (P := P) (w := w) (base := base) T
  have G_is_within := ok_is_within (P := P) (w := w) (base := base) T
  refine FunD.ok T.F_Place___init__ sc_Place___init__ (fun vs H Q E h => S.splen5 h) (fun cdv A outer s H vs Q E hr h => ?_)
  have hu := hu_of hr
  refine ⟨_, (pss_cons (ps_if (pt_not (pt_val (S.pe_fnS G_is_name (hr.mono (by decide)) rfl T.g_is_name T.F_is_name.kp (kb_is_name_1 T) S.pas0 (pa_cons (pv 1) pa_nil) pk_nil rfl rfl))) (pss_one (S.ps_raiseO rfl (takes_of rfl rfl rfl rfl) T.ox_BadPlace T.xi_BadPlace T.xt_BadPlace G_BadPlace___init__ (hr.mono (by decide)) (kb_BadPlace___init___2 T) rfl T.g_BadPlace (pa_cons pe_str pa_nil))) pss_nil)
      (pss_cons (ps_if (pt_not (pt_val (S.pe_fnS G_is_within (hr.mono (by decide)) rfl T.g_is_within T.F_is_within.kp (kb_is_within_3 T) S.pas0 (pa_cons (pv 2) (pa_cons pe_int (pa_cons (S.pe_globI rfl T.c_MOST_TICKS) pa_nil))) pk_nil rfl rfl))) (pss_one (S.ps_raiseO rfl (takes_of rfl rfl rfl rfl) T.ox_BadPlace T.xi_BadPlace T.xt_BadPlace G_BadPlace___init__ (hr.mono (by decide)) (kb_BadPlace___init___2 T) rfl T.g_BadPlace (pa_cons pe_str pa_nil))) pss_nil)
      (S.pss_cut (ps_if (pt_cmpR op_isN (pv 3) pe_non (nomark _)) (pss_one (ps_set (i := 3) sc_Place___init__.nd rfl (by first | exact Or.inl rfl | exact Or.inr rfl) (pv 2))) pss_nil)
      (pss_cons (ps_if (pt_not (pt_val (S.pe_fnS G_is_within (hr.mono (by decide)) rfl T.g_is_within T.F_is_within.kp (kb_is_within_3 T) S.pas0 (pa_cons (pv 3) (pa_cons (pv 2) (pa_cons (S.pe_globI rfl T.c_MOST_TICKS) pa_nil))) pk_nil rfl rfl))) (pss_one (S.ps_raiseO rfl (takes_of rfl rfl rfl rfl) T.ox_BadPlace T.xi_BadPlace T.xt_BadPlace G_BadPlace___init__ (hr.mono (by decide)) (kb_BadPlace___init___2 T) rfl T.g_BadPlace (pa_cons pe_str pa_nil))) pss_nil)
      (pss_cons (ps_if (pt_not (pt_val (pe_callB (S.isiK (K := K) rfl) rfl T.n_isinstance S.boot_isinstance (pa_cons (pv 4) (pa_cons (pe_bltn (v := .ty "bool") rfl T.n_bool S.boot_bool rfl) pa_nil))))) (pss_one (S.ps_raiseO rfl (takes_of rfl rfl rfl rfl) T.ox_BadPlace T.xi_BadPlace T.xt_BadPlace G_BadPlace___init__ (hr.mono (by decide)) (kb_BadPlace___init___2 T) rfl T.g_BadPlace (pa_cons pe_str pa_nil))) pss_nil)
      (pss_cons (S.ps_fldK (K := K) rfl (pv 0) (pv 1) rfl)
      (pss_cons (S.ps_fldK (K := K) rfl (pv 0) (pv 2) rfl)
      (pss_cons (S.ps_fldK (K := K) rfl (pv 0) (pv 3) rfl)
      (pss_one (S.ps_fldK (K := K) rfl (pv 0) (pv 4) rfl)))))))))), ?_⟩
  obtain ⟨_, n, l, m, t, rfl, p, dx, rfl, hp, on, sn, ol, om, ot, k1, k2⟩ := h
  refine ⟨_, rfl, rfl, rfl, n, rfl, on, sn, _, rfl, ?_⟩
  cases c1 : nmV n with
  | false =>
    have e : dueP n l m t = "name" := by simp [dueP, c1]
    rw [e] at k2
    exact iteT (raise_err (.str "name") (k2 (by decide +kernel)))
  | true =>
    refine iteF ⟨_, rfl, rfl, rfl, l, _, _, rfl, 1, 6, _, rfl, rfl, ol.within, _, rfl, ?_⟩
    cases c2 : inR 1 6 l with
    | false =>
      have e : dueP n l m t = "least" := by simp [dueP, c1, c2]
      rw [e] at k2
      exact iteT (raise_err (.str "least") (k2 (by decide +kernel)))
    | true =>
      obtain ⟨i, rfl, i1, i2⟩ := inR_int c2
      refine iteF ⟨fun τ J => J = H ∧ τ = [some (.ref p), some n, some (.int i), some (mostV (.int i) m), some t], ?_, ?_⟩
      · refine ⟨_, rfl, rfl, _, rfl, ?_⟩
        by_cases hm : m = .non
        · exact iteY (by simp [hm]) ⟨_, rfl, rfl, by simp [mostV, hm]; rfl⟩
        · exact iteN (by simp [hm]) ⟨rfl, by simp [mostV, hm]; rfl⟩
      · rintro τ J ⟨rfl, rfl⟩
        have om2 : Od J (mostV (.int i) m) := by
          unfold mostV
          split
          · exact .int i
          · exact om
        refine ⟨_, rfl, _, rfl, rfl, rfl, _, _, _, rfl, i, 6, _, rfl, rfl, om2.within, _, rfl, ?_⟩
        cases c3 : inR i 6 (mostV (.int i) m) with
        | false =>
          have e : dueP n (.int i) m t = "most" := by simp [dueP, c1, c2, c3, intOf]
          rw [e] at k2
          exact iteT (raise_err (.str "most") (k2 (by decide +kernel)))
        | true =>
          obtain ⟨ty, h1, h2⟩ := ot.bl? (K := K)
          refine iteF ⟨_, rfl, _, _, _, _, _, rfl, .ty _, h1, h2, _, rfl, ?_⟩
          cases c4 : isBl t with
          | false =>
            have e : dueP n (.int i) m t = "let" := by simp [dueP, c1, c2, c3, c4, intOf]
            rw [e] at k2
            exact iteT (raise_err (.str "let") (k2 (by decide +kernel)))
          | true =>
            refine iteF ⟨_, rfl, _, rfl, p, _, dx, _, rfl, hp, T.cl_Place, T.na_Place_name, (by show 0 < 1000; decide), ?_⟩
            refine ⟨_, rfl, _, rfl, p, _, dx, _, rfl, upd_same, T.cl_Place, T.na_Place_least, (by show 1 < 1000; decide), ?_⟩
            refine ⟨_, rfl, _, rfl, p, _, dx, _, rfl, upd_same, T.cl_Place, T.na_Place_most, (by show 2 < 1000; decide), ?_⟩
            refine ⟨_, rfl, _, rfl, p, _, dx, _, rfl, upd_same, T.cl_Place, T.na_Place_let, (by show 3 < 1000; decide), ?_⟩
            exact k1 (by simp [dueP, c1, c2, c3, c4, intOf]) _ (fun b o q nb => by rw [upd_ne nb, upd_ne nb, upd_ne nb, upd_ne nb]; exact q) upd_same
section
variable (n l m t : V)
theorem lk_name : (fldP n l m t).lookup ("name" : Str) = some n := by
  unfold fldP
  rw [lookup_put, if_pos rfl]
theorem lk_least : (fldP n l m t).lookup ("least" : Str) = some l := by
  unfold fldP
  rw [lookup_put, if_neg (by decide +kernel), lookup_put, if_pos rfl]
theorem lk_most : (fldP n l m t).lookup ("most" : Str) = some m := by
  unfold fldP
  rw [lookup_put, if_neg (by decide +kernel), lookup_put, if_neg (by decide +kernel), lookup_put, if_pos rfl]
theorem lk_let : (fldP n l m t).lookup ("let" : Str) = some t := by
  unfold fldP
  rw [lookup_put, if_neg (by decide +kernel), lookup_put, if_neg (by decide +kernel), lookup_put, if_neg (by decide +kernel), lookup_put, if_pos rfl]
theorem lk_key : (fldP n l m t).lookup ("place_key" : Str) = none := by
  unfold fldP
  rw [lookup_put, if_neg (by decide +kernel), lookup_put, if_neg (by decide +kernel), lookup_put, if_neg (by decide +kernel), lookup_put, if_neg (by decide +kernel)]
  rfl
end
/-- a place stands at p -/
def PlAt (K : S.Frag) (H : Hp) (p : Addr) (n l m t : V) : Prop := ∃ dx, H p = some (.ins (He.ga K "Place") dx (fldP n l m t))
theorem PlAt.same {H H' : Hp} {p : Addr} {n l m t : V} (h : PlAt K H p n l m t) (s : Same H H') : PlAt K H' p n l m t := let ⟨dx, e⟩ := h; ⟨dx, s _ _ e⟩
def spKey (K : S.Frag) : Sp := Sp1 fun x H Q _ => ∃ p n l m t, x = .ref p ∧ PlAt K H p n l m t ∧ ∀ k, H k = none → Q (.ref k) (upd H k (.tup [n, l, m, t]))
theorem ok_Place_place_key (T : Txt K mg) : FnOk P w K mg base (L2.CX P w) 1 (He.fAd K ("Place", some "place_key")) (S.fdA K ("Place", some "place_key")) ["self"] (spKey K) := by
  refine FunD.ok T.F_Place_place_key sc_Place_place_key (fun vs H Q E h => S.splen1 h) (fun cdv A outer s H vs Q E hr h => ?_)
  have hu := hu_of hr
  refine ⟨_, (pss_one (ps_ret (pe_tup (pa_cons (S.pe_fldK (K := K) rfl (pv 0) rfl) (pa_cons (S.pe_fldK (K := K) rfl (pv 0) rfl) (pa_cons (S.pe_fldK (K := K) rfl (pv 0) rfl) (pa_cons (S.pe_fldK (K := K) rfl (pv 0) rfl) pa_nil))))))), ?_⟩
  obtain ⟨_, rfl, p, n, l, m, t, rfl, ⟨dx, hp⟩, q⟩ := h
  refine ⟨_, rfl, p, _, dx, _, _, rfl, hp, T.cl_Place, T.na_Place_name, lk_name _ _ _ _, ?_⟩
  refine ⟨_, rfl, p, _, dx, _, _, rfl, hp, T.cl_Place, T.na_Place_least, lk_least _ _ _ _, ?_⟩
  refine ⟨_, rfl, p, _, dx, _, _, rfl, hp, T.cl_Place, T.na_Place_most, lk_most _ _ _ _, ?_⟩
  refine ⟨_, rfl, p, _, dx, _, _, rfl, hp, T.cl_Place, T.na_Place_let, lk_let _ _ _ _, ?_⟩
  exact ⟨by show 4 ≤ sizeLine; decide, q⟩
def spPEq (K : S.Frag) : Sp := Sp2 fun x y H Q _ => ∃ p n l m t q n' l' m' t', x = .ref p ∧ y = .ref q ∧ PlAt K H p n l m t ∧ PlAt K H q n' l' m' t' ∧ [n, l, m, t].all sca = true ∧ [n', l', m', t'].all sca = true ∧
  ∀ H', Same H H' → Q (.bl (PyData.eqvAll ([n, l, m, t].map dat) ([n', l', m', t'].map dat))) H'
theorem ok_Place___eq__ (T : Txt K mg) : FnOk P w K mg base (L2.CX P w) 2 (He.fAd K ("Place", some "__eq__")) (S.fdA K ("Place", some "__eq__")) ["self", "other"] (spPEq K) := by
  have G_Place_place_key := ok_Place_place_key (P := P) (w := w) (base := base) T
  refine FunD.ok T.F_Place___eq__ sc_Place___eq__ (fun vs H Q E h => S.splen2 h) (fun cdv A outer s H vs Q E hr h => ?_)
  have hu := hu_of hr
  refine ⟨_, (pss_one (ps_ret (pe_and (pe_callB (S.isiK (K := K) rfl) rfl T.n_isinstance S.boot_isinstance (pa_cons (pv 1) (pa_cons (pe_glob (v := .ref _) rfl T.g_Place rfl) pa_nil))) (pe_one (pe_cmpR (S.eqDK (K := K) rfl (S.hu64 hr)) (S.pe_mtS0 (pv 0) T.cl_Place T.me_Place_place_key G_Place_place_key (hr.mono (by decide)) (kb_Place_place_key_1 T) S.pas0  pk_nil rfl rfl) (S.pe_mtS0 (pv 1) T.cl_Place T.me_Place_place_key G_Place_place_key (hr.mono (by decide)) (kb_Place_place_key_1 T) S.pas0  pk_nil rfl rfl) (nomark _)))))), ?_⟩
  obtain ⟨_, _, rfl, p, n, l, m, t, q, n', l', m', t', rfl, rfl, hp, hq, h1, h2, k⟩ := h
  obtain ⟨dp, ep⟩ := id hp
  obtain ⟨dq, eq⟩ := id hq
  refine ⟨_, rfl, _, _, _, _, true, rfl, .own _, T.is_Place.ty T.cl_Place eq, T.ko_Place_Place, _, rfl, ?_⟩
  refine ⟨_, rfl, p, dp, _, rfl, ep, lk_key _ _ _ _, rfl, rfl, _, rfl, p, n, l, m, t, rfl, hp, fun a ha => ?_⟩
  have s1 := Same.new (o := .tup [n, l, m, t]) ha
  refine ⟨_, rfl, q, dq, _, rfl, s1 _ _ eq, lk_key _ _ _ _, rfl, rfl, _, rfl, q, n', l', m', t', rfl, hq.same s1, fun b hb => ?_⟩
  have s2 := Same.new (o := .tup [n', l', m', t']) hb
  exact rEqT (.inl (.inl (s2 _ _ upd_same))) (.inl (.inl upd_same)) h1 h2 (k _ (s1.trans s2))
end
end W

namespace W
open PySem PySem.Spec PyProof.Rows L2
section
variable {P : Program} {w : World} {K : S.Frag} {mg : Str → Option Value} {base : Heap}
open S
/-! drawn names -/
theorem str_len (z : Str) : z.length = z.cps.toList.length := by simp [Str.length]
theorem app_cps (x y : Str) : (x ++ y).cps.toList = x.cps.toList ++ y.cps.toList := by
  show ((⟨x.cps ++ y.cps⟩ : Str)).cps.toList = _
  simp
theorem app_len (x y : Str) : (x ++ y).length = x.length + y.length := by rw [str_len, str_len, str_len, app_cps, List.length_append]
theorem eqV_str (a b : Str) : eqV (.str a) (.str b) = decide (a = b) := by
  show (a == b) = _
  rw [Bool.eq_iff_iff]
  simp
theorem inV_str (z : Str) (ws : List Str) : inV (.str z) (ws.map V.str) = decide (z ∈ ws) := by
  unfold inV
  rw [List.any_map, Bool.eq_iff_iff]
  simp only [List.any_eq_true, Function.comp, eqV_str, decide_eq_true_eq]
  constructor
  · rintro ⟨x, h, rfl⟩
    exact h
  · intro h
    exact ⟨z, h, rfl⟩
theorem flat_strs (ws : List Str) : (ws.map V.str).all flatV = true := by
  rw [List.all_map, List.all_eq_true]
  exact fun _ _ => rfl
/-- as many holes as pigeons -/
theorem nodup_le {α : Type} [DecidableEq α] : ∀ {l m : List α}, l.Nodup → (∀ x ∈ l, x ∈ m) → l.length ≤ m.length
  | [], m, _, _ => Nat.zero_le _
  | a :: l, m, h, s => by
    have ha : a ∈ m := s a List.mem_cons_self
    have hn := List.nodup_cons.mp h
    have e : (m.erase a).length = m.length - 1 := List.length_erase_of_mem ha
    have p : 0 < m.length := List.length_pos_of_mem ha
    have r : l.length ≤ (m.erase a).length := nodup_le hn.2 fun x hx => by
      have hx2 := s x (List.mem_cons_of_mem _ hx)
      have ne : x ≠ a := fun z => hn.1 (z ▸ hx)
      exact (List.mem_erase_of_ne ne).mpr hx2
    rw [List.length_cons]
    omega
theorem atI_lt {α : Type} {xs : List α} {i : Int} {v : α} (h0 : 0 ≤ i) (h : xs[i.toNat]? = some v) : atI xs i = some v := by
  obtain ⟨k, rfl⟩ : ∃ k : Nat, i = (k : Int) := ⟨i.toNat, by omega⟩
  exact atI_nat (by simpa using h)
def signs : List Str := abc.cps.toList.map fun c => ⟨#[c]⟩
theorem signs_nd : signs.Nodup := by decide +kernel
theorem signs_len : signs.length = 26 := by decide +kernel
theorem signs_nm : signs.all isNm = true := by decide +kernel
/-- used at u: the texts ws, fewer than the letters -/
def spName (K : S.Frag) : Sp := Sp2 fun x y H Q _ => ∃ (a u : Addr) (n : Int) (ws : List Str), x = .ref a ∧ y = .ref u ∧ a ≠ u ∧ H a = some (.lst [.int n]) ∧ H u = some (.lst (ws.map V.str)) ∧ ws.length < 26 ∧
  ∀ z H', isNm z = true → z ∉ ws → Dr a H H' → Q (.str z) H'
theorem ok__law_name (T : Txt K mg) : FnOk P w K mg base (L2.CX P w) 2 (He.fAd K ("_law_name", none)) (S.fdA K ("_law_name", none)) ["_law_draw", "_law_used"] (spName K) := by
  have G__law_take := ok__law_take (P := P) (w := w) (base := base) T
  refine FunD.ok T.F__law_name sc__law_name (fun vs H Q E h => S.splen2 h) (fun cdv A outer s H vs Q E hr h => ?_)
  have hu := hu_of hr
  refine ⟨_, (pss_cons (ps_set (i := 2) sc__law_name.nd rfl (by first | exact Or.inl rfl | exact Or.inr rfl) pe_str)
      (pss_cons (ps_set (i := 3) sc__law_name.nd rfl (by first | exact Or.inl rfl | exact Or.inr rfl) pe_str)
      (pss_cons (ps_for (S.own_of rfl) rfl (pi_range1 rfl T.n_range (pa_cons (pe_op op_add pe_int (S.pe_fnS G__law_take (hr.mono (by decide)) rfl T.g__law_take T.F__law_take.kp (kb__law_take_2 T) S.pas0 (pa_cons (pv 0) (pa_cons pe_int pa_nil)) pk_nil rfl rfl)) pa_nil)) (pg_name (i := 4) sc__law_name.nd rfl (by first | exact Or.inl rfl | exact Or.inr rfl))
        (pss_one (ps_set (i := 3) sc__law_name.nd rfl (by first | exact Or.inl rfl | exact Or.inr rfl) (pe_op op_add_str (pv 3) (pe_ix (S.ixK (K := K) rfl) (pv 2) (S.pe_fnS G__law_take (hr.mono (by decide)) rfl T.g__law_take T.F__law_take.kp (kb__law_take_2 T) S.pas0 (pa_cons (pv 0) (pa_cons pe_int pa_nil)) pk_nil rfl rfl) (fun _ _ => rfl))))))
      (S.pss_cut (ps_if (PW.pt (pw_and (pt_cmpR (S.notInK (K := K) rfl) (pv 3) (pv 1) rfl) (pw_and1 (pt_cmpR (S.notInK (K := K) rfl) (pv 3) (pe_lst (pa_cons pe_str (pa_cons pe_str (pa_cons pe_str (pa_cons pe_str (pa_cons pe_str pa_nil)))))) rfl)))) (pss_one (ps_ret (pv 3))) pss_nil)
      (pss_cons (ps_for (S.own_of rfl) rfl (pi_str (pv 2)) (pg_name (i := 5) sc__law_name.nd rfl (by first | exact Or.inl rfl | exact Or.inr rfl))
        (pss_one (ps_if (pt_cmpR (S.notInK (K := K) rfl) (pv 5) (pv 1) rfl) (pss_one (ps_ret (pv 5))) pss_nil)))
      (pss_one (ps_ret (pv 3)))))))), ?_⟩
  obtain ⟨_, _, rfl, a, u, n, ws, rfl, rfl, nau, ha, hu0, hw, q⟩ := h
  refine ⟨_, rfl, rfl, rfl, _, _, rfl, a, n, 8, rfl, ha, rfl, by decide, by decide, fun t n' t0 t1 => ⟨_, _, rfl, rfl, _, rfl, by omega, by omega, ?_⟩⟩
  refine for_range (n := (1 + t).toNat) (fun i σ J => Dr a H J ∧ ∃ z : Str, ∃ v, σ = [some (.ref a), some (.ref u), some (.str abc), some (.str z), v, none] ∧ z.length = i ∧ (z.cps.toList.all fun c => decide (c ∈ abc.cps.toList)) = true) ⟨Dr.upd, _, _, rfl, rfl, rfl⟩ ?_ ?_
  · rintro i σ J hi ⟨d, z, v, rfl, hz, hall⟩
    obtain ⟨m, em⟩ := d.at_
    refine ⟨_, rfl, _, rfl, _, rfl, rfl, rfl, _, _, rfl, a, m, 26, rfl, em, rfl, by decide, by decide, fun c n2 c0 c1 => ?_⟩
    have h26 : abc.cps.toList.length = 26 := by decide +kernel
    have hlt : c.toNat < abc.cps.toList.length := by omega
    have hmem : abc.cps.toList[c.toNat] ∈ abc.cps.toList := List.getElem_mem hlt
    refine .inr (.inr ⟨abc, c, abc.cps.toList[c.toNat], rfl, rfl, by decide +kernel, atI_lt (by omega) (List.getElem?_eq_getElem hlt), z, _, rfl, rfl, ?_, d.trans Dr.upd, _, _, rfl, ?_, ?_⟩)
    · have e1 : (⟨#[abc.cps.toList[c.toNat]]⟩ : Str).length = 1 := rfl
      rw [e1]
      exact Nat.le_trans (show z.length + 1 ≤ 1000 by omega) (by decide)
    · rw [app_len, hz]
      rfl
    · rw [app_cps, List.all_append, hall]
      show (true && List.all [abc.cps.toList[c.toNat]] _) = true
      rw [List.all_cons, decide_eq_true hmem]
      rfl
  · rintro σ J ⟨d, z, v, rfl, hz, hall⟩
    have hz1 : 1 ≤ z.length := by omega
    have hz8 : z.length ≤ 8 := by omega
    have hu1 : J u = some (.lst (ws.map V.str)) := d.kp u _ nau.symm hu0
    refine ⟨fun τ J2 => Dr a H J2 ∧ τ = [some (.ref a), some (.ref u), some (.str abc), some (.str z), v, none], ?_, ?_⟩
    · refine ⟨_, rfl, _, rfl, u, _, rfl, .inl (.inl (.inl hu1)), rfl, flat_strs ws, _, rfl, ?_⟩
      by_cases c1 : z ∈ ws
      · refine iteN (by rw [inV_str, decide_eq_true c1]; decide) (iteF ⟨d, rfl⟩)
      · refine iteY (by rw [inV_str, decide_eq_false c1]; rfl) ⟨_, rfl, by show 5 ≤ sizeLine; decide, fun p hp => ?_⟩
        have s1 := Same.new (o := .lst keptW) hp
        have d1 : Dr a H (upd J p (.lst keptW)) := d.trans (let ⟨m, e⟩ := d.at_; Dr.same e s1)
        refine ⟨p, _, rfl, .inl (.inl (.inl upd_same)), rfl, rfl, _, rfl, ?_⟩
        cases c2 : inV (.str z) keptW with
        | true => exact iteN (by decide) ⟨d1, rfl⟩
        | false =>
          refine iteY rfl ⟨_, rfl, q z _ ?_ c1 d1⟩
          simp only [isNm, hall, c2, decide_eq_true hz1, decide_eq_true hz8]
          rfl
    · rintro τ J2 ⟨d2, rfl⟩
      have hu2 : J2 u = some (.lst (ws.map V.str)) := d2.kp u _ nau.symm hu0
      refine ⟨_, rfl, abc, rfl, for_str (fun i σ J3 => J3 = J2 ∧ (∃ v6, σ = [some (.ref a), some (.ref u), some (.str abc), some (.str z), v, v6]) ∧ ∀ c ∈ abc.cps.toList.take i, (⟨#[c]⟩ : Str) ∈ ws) ⟨rfl, ⟨_, rfl⟩, fun c h => by simp at h⟩ ?_ ?_⟩
      · rintro i c σ J3 hc ⟨rfl, ⟨v6, rfl⟩, hin⟩
        have hm : c ∈ abc.cps.toList := by
          rw [← Array.getElem?_toList] at hc
          exact List.mem_of_getElem? hc
        refine ⟨_, rfl, _, rfl, u, _, rfl, .inl (.inl (.inl hu2)), rfl, flat_strs ws, _, rfl, ?_⟩
        by_cases c1 : (⟨#[c]⟩ : Str) ∈ ws
        · refine iteN (by rw [inV_str, decide_eq_true c1]; decide) ⟨rfl, ⟨_, rfl⟩, fun e he => ?_⟩
          rw [all_take hc] at he
          rcases List.mem_append.mp he with h | h
          · exact hin e h
          · rw [List.mem_singleton.mp h]
            exact c1
        · refine iteY (by rw [inV_str, decide_eq_false c1]; rfl) ⟨_, rfl, q _ _ ?_ c1 d2⟩
          exact List.all_eq_true.mp signs_nm _ (List.mem_map.mpr ⟨c, hm, rfl⟩)
      · rintro σ J3 ⟨rfl, ⟨v6, rfl⟩, hin⟩
        have full : ∀ x ∈ signs, x ∈ ws := fun x hx => by
          obtain ⟨c, hc, rfl⟩ := List.mem_map.mp hx
          refine hin c ?_
          rw [show abc.cps.size = abc.cps.toList.length by simp, List.take_length]
          exact hc
        have := nodup_le signs_nd full
        rw [signs_len] at this
        omega
end
end W

namespace W
open PySem PySem.Spec PyProof.Rows L2
section
variable {P : Program} {w : World} {K : S.Frag} {mg : Str → Option Value} {base : Heap}
open S
theorem Oa.mono {a : Addr} {H H' : Hp} {x : V} (h : Oa a H x) (s : Same H H') : Oa a H' x := by
  cases h with
  | int i => exact .int i
  | non => exact .non
  | bl b => exact .bl b
  | str z => exact .str z
  | tup n h => exact .tup n (s _ _ h)
  | lst n h => exact .lst n (s _ _ h)
  | dK n h => exact .dK n (s _ _ h)
/-- no names, none of them the draws -/
def BadL (a : Addr) (J : Hp) (L : List V) : Prop := ∀ v ∈ L, Oa a J v ∧ sml v ∧ nmV v = false
theorem BadL.cons {a : Addr} {J : Hp} {L : List V} {v : V} (h1 : Oa a J v) (h2 : sml v) (h3 : nmV v = false) (h : BadL a J L) : BadL a J (v :: L) := fun u hu => by
  rcases List.mem_cons.mp hu with rfl | hu
  · exact ⟨h1, h2, h3⟩
  · exact h u hu
theorem BadL.nil {a : Addr} {J : Hp} : BadL a J [] := fun _ h => by cases h
theorem BadL.dr {a : Addr} {J J' : Hp} {L : List V} (h : BadL a J L) (d : Dr a J J') : BadL a J' L := fun v hv => ⟨(h v hv).1.dr d, (h v hv).2⟩
theorem BadL.str {a : Addr} {J : Hp} {L : List V} {s : Str} (h1 : s.length ≤ 1000) (h2 : isNm s = false) (h : BadL a J L) : BadL a J (.str s :: L) := BadL.cons (.str s) h1 h2 h
def sgn : List Str := ["A", "0", " ", "-", "_", "\n"]
theorem sgn_ok : ∀ s ∈ sgn, s.length = 1 ∧ (s.cps.toList.all fun c => decide (c ∈ abc.cps.toList)) = false := by decide +kernel
theorem nm_len {z : Str} (h : isNm z = true) : 1 ≤ z.length ∧ z.length ≤ 8 := by
  simp only [isNm, Bool.and_eq_true, decide_eq_true_eq] at h
  exact h.1
def spBad (K : S.Frag) : Sp := Sp2 fun x y H Q _ => ∃ (a : Addr) (n : Int) (z : Str), x = .ref a ∧ H a = some (.lst [.int n]) ∧ y = .str z ∧ isNm z = true ∧ ∀ v H', Oa a H' v → sml v → nmV v = false → Dr a H H' → Q v H'
theorem ok__law_bad_name (T : Txt K mg) : FnOk P w K mg base (L2.CX P w) 2 (He.fAd K ("_law_bad_name", none)) (S.fdA K ("_law_bad_name", none)) ["_law_draw", "_law_word"] (spBad K) := by
  have G__law_take := ok__law_take (P := P) (w := w) (base := base) T
  refine FunD.ok T.F__law_bad_name sc__law_bad_name (fun vs H Q E h => S.splen2 h) (fun cdv A outer s H vs Q E hr h => ?_)
  have hu := hu_of hr
  refine ⟨_, (pss_cons (ps_set (i := 2) sc__law_bad_name.nd rfl (by first | exact Or.inl rfl | exact Or.inr rfl) (S.pe_fnS G__law_take (hr.mono (by decide)) rfl T.g__law_take T.F__law_take.kp (kb__law_take_2 T) S.pas0 (pa_cons (pv 0) (pa_cons (pe_op op_add (pe_callB (S.lenK (K := K) rfl) rfl T.n_len S.boot_len (pa_cons (pv 1) pa_nil)) pe_int) pa_nil)) pk_nil rfl rfl))
      (pss_cons (ps_set (i := 3) sc__law_bad_name.nd rfl (by first | exact Or.inl rfl | exact Or.inr rfl) (pe_ix (S.ixK (K := K) rfl) (pe_lst (pa_cons pe_str (pa_cons pe_str (pa_cons pe_str (pa_cons pe_str (pa_cons pe_str (pa_cons pe_str pa_nil))))))) (S.pe_fnS G__law_take (hr.mono (by decide)) rfl T.g__law_take T.F__law_take.kp (kb__law_take_2 T) S.pas0 (pa_cons (pv 0) (pa_cons pe_int pa_nil)) pk_nil rfl rfl) (fun _ _ => rfl)))
      (pss_cons (ps_set (i := 4) sc__law_bad_name.nd rfl (by first | exact Or.inl rfl | exact Or.inr rfl) (pe_lst (pa_cons pe_str (pa_cons pe_str (pa_cons pe_str (pa_cons pe_str (pa_cons pe_str (pa_cons pe_str (pa_cons (pe_op op_add_str (pv 1) pe_str) (pa_cons pe_non (pa_cons pe_int (pa_cons pe_bl (pa_cons (pe_tup (pa_cons pe_str pa_nil)) (pa_cons (pe_lst (pa_cons pe_str pa_nil)) (pa_cons pe_dnewK pa_nil)))))))))))))))
      (pss_cons (ps_if (pt_cmpR op_eq (S.pe_fnS G__law_take (hr.mono (by decide)) rfl T.g__law_take T.F__law_take.kp (kb__law_take_2 T) S.pas0 (pa_cons (pv 0) (pa_cons pe_int pa_nil)) pk_nil rfl rfl) pe_int (nomark _)) (pss_one (ps_ret (pe_ix (S.ixK (K := K) rfl) (pv 4) (S.pe_fnS G__law_take (hr.mono (by decide)) rfl T.g__law_take T.F__law_take.kp (kb__law_take_2 T) S.pas0 (pa_cons (pv 0) (pa_cons pe_int pa_nil)) pk_nil rfl rfl) (fun _ _ => rfl)))) pss_nil)
      (pss_one (ps_ret (pe_op op_add_str (pe_op op_add_str (pe_slice sl_str (pv 1) po_none (po_some (pv 2))) (pv 3)) (pe_slice sl_str (pv 1) (po_some (pv 2)) po_none)))))))), ?_⟩
  obtain ⟨_, _, rfl, a, n, z, rfl, ha, rfl, hz, q⟩ := h
  obtain ⟨z1, z8⟩ := nm_len hz
  have zs : z.length ≤ sizeLine := Nat.le_trans z8 (by decide)
  refine ⟨_, rfl, _, rfl, _, z.length, rfl, ⟨zs, rfl⟩, _, _, rfl, rfl, rfl, rfl, _, _, rfl, a, n, (z.length : Int) + 1, rfl, ha, rfl, by omega, by omega, fun at_ n1 at0 at1 => ?_⟩
  have d1 : Dr a H (upd H a (.lst [.int n1])) := Dr.upd
  -- the sign
  refine ⟨by show 6 ≤ sizeLine; decide, fun l1 hl1 => ?_⟩
  have na1 : a ≠ l1 := ne_of_none upd_same hl1
  refine ⟨_, rfl, rfl, rfl, _, _, rfl, a, n1, 6, rfl, Same.new hl1 _ _ upd_same, rfl, by decide, by decide, fun c n2 c0 c1 => ?_⟩
  have d2 : Dr a H (upd (upd (upd H a (.lst [.int n1])) l1 (.lst (sgn.map V.str))) a (.lst [.int n2])) := (d1.trans (Dr.same upd_same (Same.new hl1))).trans Dr.upd
  generalize hJ : upd (upd (upd H a (.lst [.int n1])) l1 (.lst (sgn.map V.str))) a (.lst [.int n2]) = J at d2
  have el : J l1 = some (.lst (sgn.map V.str)) := by rw [← hJ, upd_ne na1.symm, upd_same]
  have ea : J a = some (.lst [.int n2]) := by rw [← hJ, upd_same]
  have hlt : c.toNat < sgn.length := by
    have : sgn.length = 6 := rfl
    omega
  obtain ⟨sl, sc⟩ := sgn_ok _ (List.getElem_mem hlt)
  have eJ : ∀ Z : VK, Z (.str sgn[c.toNat]) J → rIx K (.ref l1) (.int c) J Z := fun Z hZ => ix3 el (atI_lt c0 (by rw [List.getElem?_map, List.getElem?_eq_getElem hlt]; rfl)) hZ
  generalize sgn[c.toNat] = sg at sl sc eJ
  rw [show upd (upd (upd H a (.lst [.int n1])) l1 (.lst [V.str "A", .str "0", .str " ", .str "-", .str "_", .str "\n"])) a (.lst [.int n2]) = J from hJ]
  refine eJ _ ?_
  -- the odd ones
  have w8 : (Str.ofString "abcdefgh").length = 8 := by decide +kernel
  refine ⟨_, rfl, z, _, rfl, rfl, Nat.le_trans (show z.length + (Str.ofString "abcdefgh").length ≤ 1000 by omega) (by decide), by show 1 ≤ sizeLine; decide, fun t ht => ⟨by show 1 ≤ sizeLine; decide, fun l hl d hd => ⟨by show 13 ≤ sizeLine; decide, fun r hr2 => ?_⟩⟩⟩
  have nat_ : a ≠ t := ne_of_none ea ht
  have s1 := Same.new (o := .tup [.str "a"]) ht
  have nal : a ≠ l := ne_of_none (s1 _ _ ea) hl
  have s2 := s1.trans (Same.new (o := .lst [.str "a"]) hl)
  have nad : a ≠ d := ne_of_none (s2 _ _ ea) hd
  have s3 := s2.trans (Same.new (o := .dK []) hd)
  have nar : a ≠ r := ne_of_none (s3 _ _ ea) hr2
  have s4 := s3.trans (Same.new (o := .lst [.str "any", .str "closed", .str "end", .str "open", .str "to", .str "", .str (z ++ "abcdefgh"), .non, .int 7, .bl true, .ref t, .ref l, .ref d]) hr2)
  have bl : BadL a (upd (upd (upd (upd J t (.tup [.str "a"])) l (.lst [.str "a"])) d (.dK [])) r (.lst [.str "any", .str "closed", .str "end", .str "open", .str "to", .str "", .str (z ++ "abcdefgh"), .non, .int 7, .bl true, .ref t, .ref l, .ref d])) [.str "any", .str "closed", .str "end", .str "open", .str "to", .str "", .str (z ++ "abcdefgh"), .non, .int 7, .bl true, .ref t, .ref l, .ref d] := by
    have big : isNm (z ++ "abcdefgh") = false := by
      have : ¬ (z ++ (Str.ofString "abcdefgh")).length ≤ 8 := by rw [app_len]; omega
      simp only [isNm, decide_eq_false this, Bool.and_false, Bool.false_and]
    have lt := Same.new (o := .lst [.str "any", .str "closed", .str "end", .str "open", .str "to", .str "", .str (z ++ "abcdefgh"), .non, .int 7, .bl true, .ref t, .ref l, .ref d]) hr2
    have e1 := lt _ _ (upd_same (o := .dK []))
    have e2 := lt _ _ (Same.new (o := .dK []) hd _ _ (upd_same (o := .lst [.str "a"])))
    have e3 := lt _ _ (Same.new (o := .dK []) hd _ _ (Same.new (o := .lst [.str "a"]) hl _ _ (upd_same (o := .tup [.str "a"]))))
    refine .str (by decide +kernel) (by decide +kernel) (.str (by decide +kernel) (by decide +kernel) (.str (by decide +kernel) (by decide +kernel) (.str (by decide +kernel) (by decide +kernel) (.str (by decide +kernel) (by decide +kernel) (.str (by decide +kernel) (by decide +kernel) (.str (by rw [app_len]; omega) big ?_))))))
    exact BadL.cons .non trivial rfl (BadL.cons (.int 7) trivial rfl (BadL.cons (.bl true) trivial rfl (BadL.cons (.tup nat_.symm e3) trivial rfl (BadL.cons (.lst nal.symm e2) trivial rfl (BadL.cons (.dK nad.symm e1) trivial rfl BadL.nil)))))
  have er : (upd (upd (upd (upd J t (.tup [.str "a"])) l (.lst [.str "a"])) d (.dK [])) r (.lst [.str "any", .str "closed", .str "end", .str "open", .str "to", .str "", .str (z ++ "abcdefgh"), .non, .int 7, .bl true, .ref t, .ref l, .ref d])) r = some (.lst [.str "any", .str "closed", .str "end", .str "open", .str "to", .str "", .str (z ++ "abcdefgh"), .non, .int 7, .bl true, .ref t, .ref l, .ref d]) := upd_same
  have ea4 := s4 _ _ ea
  have d4 := d2.trans (Dr.same ea s4)
  generalize hJ4 : upd (upd (upd (upd J t (.tup [.str "a"])) l (.lst [.str "a"])) d (.dK [])) r (.lst [.str "any", .str "closed", .str "end", .str "open", .str "to", .str "", .str (z ++ "abcdefgh"), .non, .int 7, .bl true, .ref t, .ref l, .ref d]) = J4 at bl er ea4 d4
  have len13 : ([V.str "any", .str "closed", .str "end", .str "open", .str "to", .str "", .str (z ++ "abcdefgh"), .non, .int 7, .bl true, .ref t, .ref l, .ref d] : List V).length = 13 := rfl
  generalize hL : ([V.str "any", .str "closed", .str "end", .str "open", .str "to", .str "", .str (z ++ "abcdefgh"), .non, .int 7, .bl true, .ref t, .ref l, .ref d] : List V) = L at bl er len13
  refine ⟨_, rfl, rfl, rfl, _, _, rfl, a, n2, 2, rfl, ea4, rfl, by decide, by decide, fun b n3 b0 b1 => ⟨rfl, _, rfl, ite2 (fun _ => ?_) (fun _ => ?_)⟩⟩
  · refine ⟨_, rfl, _, rfl, rfl, rfl, _, _, rfl, a, n3, 13, rfl, upd_same, rfl, by decide, by decide, fun i n4 i0 i1 => ?_⟩
    have hi : i.toNat < L.length := by omega
    have d6 := (d4.trans (Dr.upd (n := n3))).trans (Dr.upd (n := n4))
    obtain ⟨o1, o2, o3⟩ := (bl.dr (Dr.upd (n := n3))).dr (Dr.upd (n := n4)) _ (List.getElem_mem hi)
    have e6 : (upd (upd J4 a (.lst [.int n3])) a (.lst [.int n4])) r = some (.lst L) := by rw [upd_ne nar.symm, upd_ne nar.symm]; exact er
    exact ix3 e6 (atI_lt i0 (List.getElem?_eq_getElem hi)) (q _ _ o1 o2 o3 d6)
  · refine ⟨_, rfl, _, rfl, at_, rfl, z, rfl, zs, _, rfl, cutS z none (some at_), sg, rfl, rfl, ?_, ?_⟩
    · exact Nat.le_trans (show (cutS z none (some at_)).length + sg.length ≤ 1000 by have := cutS_length z none (some at_); omega) (by decide)
    refine ⟨_, rfl, _, rfl, at_, rfl, z, rfl, zs, _, cutS z (some at_) none, rfl, rfl, ?_, ?_⟩
    · refine Nat.le_trans (show (cutS z none (some at_) ++ sg).length + (cutS z (some at_) none).length ≤ 1000 by rw [app_len]; have := cutS_length z none (some at_); have := cutS_length z (some at_) none; omega) (by decide)
    refine q _ _ (.str _) ?_ ?_ (d4.trans Dr.upd)
    · show (cutS z none (some at_) ++ sg ++ cutS z (some at_) none).length ≤ 1000
      rw [app_len, app_len]
      have := cutS_length z none (some at_)
      have := cutS_length z (some at_) none
      omega
    · show isNm _ = false
      simp only [isNm, app_cps, List.all_append, sc, Bool.and_false, Bool.false_and]
end
end W

namespace W
open PySem PySem.Spec PyProof.Rows L2
section
variable {P : Program} {w : World} {K : S.Frag} {mg : Str → Option Value} {base : Heap}
open S
def spNum (K : S.Frag) : Sp := Sp1 fun x H Q _ => ∃ (a : Addr) (n : Int), x = .ref a ∧ H a = some (.lst [.int n]) ∧ ∀ v H', Oa a H' v → Dr a H H' → Q v H'
theorem ok__law_number (T : Txt K mg) : FnOk P w K mg base (L2.CX P w) 2 (He.fAd K ("_law_number", none)) (S.fdA K ("_law_number", none)) ["_law_draw"] (spNum K) := by
  have G__law_take := ok__law_take (P := P) (w := w) (base := base) T
  refine FunD.ok T.F__law_number sc__law_number (fun vs H Q E h => S.splen1 h) (fun cdv A outer s H vs Q E hr h => ?_)
  have hu := hu_of hr
  refine ⟨_, (pss_cons (ps_set (i := 1) sc__law_number.nd rfl (by first | exact Or.inl rfl | exact Or.inr rfl) (S.pe_fnS G__law_take (hr.mono (by decide)) rfl T.g__law_take T.F__law_take.kp (kb__law_take_2 T) S.pas0 (pa_cons (pv 0) (pa_cons pe_int pa_nil)) pk_nil rfl rfl))
      (pss_cons (ps_if (pt_cmpR op_gt (pv 1) pe_int (nomark _)) (pss_one (ps_ret (pe_op op_add pe_int (S.pe_fnS G__law_take (hr.mono (by decide)) rfl T.g__law_take T.F__law_take.kp (kb__law_take_2 T) S.pas0 (pa_cons (pv 0) (pa_cons pe_int pa_nil)) pk_nil rfl rfl)))) pss_nil)
      (pss_cons (ps_if (pt_cmpR op_gt (pv 1) pe_int (nomark _)) (pss_one (ps_ret (pe_op op_sub (S.pe_fnS G__law_take (hr.mono (by decide)) rfl T.g__law_take T.F__law_take.kp (kb__law_take_2 T) S.pas0 (pa_cons (pv 0) (pa_cons pe_int pa_nil)) pk_nil rfl rfl) pe_int))) pss_nil)
      (pss_one (ps_ret (pe_ix (S.ixK (K := K) rfl) (pe_lst (pa_cons pe_bl (pa_cons pe_str (pa_cons (pe_tup (pa_cons pe_int pa_nil)) (pa_cons pe_bl pa_nil))))) (S.pe_fnS G__law_take (hr.mono (by decide)) rfl T.g__law_take T.F__law_take.kp (kb__law_take_2 T) S.pas0 (pa_cons (pv 0) (pa_cons pe_int pa_nil)) pk_nil rfl rfl) (fun _ _ => rfl))))))), ?_⟩
  obtain ⟨_, rfl, a, n, rfl, ha, q⟩ := h
  refine ⟨_, rfl, rfl, rfl, _, _, rfl, a, n, 12, rfl, ha, rfl, by decide, by decide, fun c n1 c0 c1 => ?_⟩
  refine ⟨_, rfl, _, _, rfl, rfl, _, rfl, ite2 (fun _ => ?_) (fun _ => ?_)⟩
  · exact ⟨_, rfl, rfl, rfl, _, _, rfl, a, n1, 6, rfl, upd_same, rfl, by decide, by decide, fun i n2 i0 i1 => ⟨_, _, rfl, rfl, q _ _ (.int _) (Dr.upd.trans Dr.upd)⟩⟩
  refine ⟨_, rfl, _, _, rfl, rfl, _, rfl, ite2 (fun _ => ?_) (fun _ => ?_)⟩
  · exact ⟨_, rfl, rfl, rfl, _, _, rfl, a, n1, 10, rfl, upd_same, rfl, by decide, by decide, fun i n2 i0 i1 => ⟨_, _, rfl, rfl, q _ _ (.int _) (Dr.upd.trans Dr.upd)⟩⟩
  refine ⟨by show 1 ≤ sizeLine; decide, fun t ht => ⟨by show 4 ≤ sizeLine; decide, fun r hr2 => ?_⟩⟩
  have ea : (upd H a (.lst [.int n1])) a = some (.lst [.int n1]) := upd_same
  have s1 := Same.new (o := .tup [.int 1]) ht
  have s2 := s1.trans (Same.new (o := .lst [.bl true, .str "1", .ref t, .bl false]) hr2)
  have nat_ : a ≠ t := ne_of_none ea ht
  have nar : a ≠ r := ne_of_none (s1 _ _ ea) hr2
  refine ⟨_, rfl, rfl, rfl, _, _, rfl, a, n1, 4, rfl, s2 _ _ ea, rfl, by decide, by decide, fun i n2 i0 i1 => ?_⟩
  have er : (upd (upd (upd (upd H a (.lst [.int n1])) t (.tup [.int 1])) r (.lst [.bl true, .str "1", .ref t, .bl false])) a (.lst [.int n2])) r = some (.lst [.bl true, .str "1", .ref t, .bl false]) := by
    rw [upd_ne nar.symm, upd_same]
  have et := (Dr.upd (a := a) (n := n2)).kp _ _ nat_.symm (Same.new (o := .lst [.bl true, .str "1", .ref t, .bl false]) hr2 _ _ (upd_same (o := .tup [.int 1])))
  have dd : Dr a H (upd (upd (upd (upd H a (.lst [.int n1])) t (.tup [.int 1])) r (.lst [.bl true, .str "1", .ref t, .bl false])) a (.lst [.int n2])) := (Dr.upd.trans (Dr.same ea s2)).trans Dr.upd
  have : i = 0 ∨ i = 1 ∨ i = 2 ∨ i = 3 := by omega
  rcases this with rfl | rfl | rfl | rfl
  · exact ix3 er rfl (q _ _ (.bl _) dd)
  · exact ix3 er rfl (q _ _ (.str _) dd)
  · exact ix3 er rfl (q _ _ (.tup nat_.symm et) dd)
  · exact ix3 er rfl (q _ _ (.bl _) dd)
def OutP (K : S.Frag) (H : Hp) (o : Addr) (n l m t : V) : Prop :=
  (dueP n l m t = "" ∧ ∃ p, H o = some (.tup [.str "made", .ref p]) ∧ PlAt K H p n l (mostV l m) t) ∨
  (dueP n l m t ≠ "" ∧ H o = some (.tup [.str "refused", .str (dueP n l m t), .bl true, .bl false]))
def spMade (K : S.Frag) : Sp := Sp4 fun n l m t H Q _ => Od H n ∧ sml n ∧ Od H l ∧ Od H m ∧ Od H t ∧ ∀ o H', Same H H' → OutP K H' o n l m t → Q (.ref o) H'
theorem ok__law_made (T : Txt K mg) : FnOk P w K mg base (L2.CX P w) 5 (He.fAd K ("_law_made", none)) (S.fdA K ("_law_made", none)) ["_law_word", "_law_low", "_law_high", "_law_looked"] (spMade K) := by
  have G_Place___init__ := ok_Place___init__ (P := P) (w := w) (base := base) T
  refine FunD.ok T.F__law_made sc__law_made (fun vs H Q E h => S.splen4 h) (fun cdv A outer s H vs Q E hr h => ?_)
  have hu := hu_of hr
  refine ⟨_, (pss_cons (ps_try_as (i := 5) rfl rfl sc__law_made.nd rfl rfl ⟨rfl, by decide, .inl T.g_BadPlace⟩ takes0
        (fun W pn xe tk ow => (pss_one (ps_set (i := 4) sc__law_made.nd rfl (by first | exact Or.inl rfl | exact Or.inr rfl) (pe_tup (pa_cons pe_str (pa_cons (S.pe_mkS T.mk_Place G_Place___init__ (hr.mono (by decide)) rfl T.g_Place (kb_Place___init___4_let T).choose_spec (fun σ => passAt tk σ) (pa_cons (pv 0) (pa_cons (pv 1) (pa_cons (pv 2) pa_nil))) (pk_cons (pv 3) pk_nil) rfl rfl) pa_nil))))))
        (fun a oe cls d pn hz hf => (pss_one (ps_set (i := 4) sc__law_made.nd rfl (by first | exact Or.inl rfl | exact Or.inr rfl) (pe_tup (pa_cons pe_str (pa_cons (pe_xf T.xf_BadPlace T.xn_BadPlace_why hz hf (pv 5) rfl) (pa_cons (pe_callB (S.call_isX T.xc_BadPlace hz hf) rfl T.n_isinstance S.boot_isinstance (pa_cons (pv 5) (pa_cons (pe_glob (v := .ref _) rfl T.g_SeenError rfl) pa_nil))) (pa_cons (pe_callB (S.call_isX T.xc_BadPlace hz hf) rfl T.n_isinstance S.boot_isinstance (pa_cons (pv 5) (pa_cons (pe_glob (v := .ref _) rfl T.g_BadProgram rfl) pa_nil))) pa_nil)))))))))
      (pss_one (ps_ret (pv 4)))), ?_⟩
  obtain ⟨n, l, m, t, rfl, on, sn, ol, om, ot, q⟩ := h
  refine ⟨_, rfl, _, rfl, _, rfl, _, rfl, rfl, rfl, fun p dx np ndx ne => ?_⟩
  have s0 : Same H (upd (upd H dx (.own p)) p (.ins (He.ga K "Place") dx [])) := Same.upd (Same.new ndx) np
  refine ⟨_, _, _, _, _, rfl, p, dx, rfl, upd_same, on.mono s0, sn, ol.mono s0, om.mono s0, ot.mono s0, fun e H' kp hp => ⟨rfl, ?_⟩, fun e d H' nd sm hd => ?_⟩
  · have s1 : Same H H' := fun b o hb => kp b o (s0 b o hb) (ne_of_none hb np)
    refine ⟨by show 2 ≤ sizeLine; decide, fun k hk => ⟨_, rfl, q k _ (Same.upd s1 (s1.free hk)) (.inl ⟨e, p, upd_same, dx, ?_⟩)⟩⟩
    rw [upd_ne (ne_of_none hp hk)]
    exact hp
  · have s1 := s0.trans sm
    refine ⟨true, T.xm_BadPlace_BadPlace, fun _ a0 ha0 => ?_, fun z => Bool.noConfusion z⟩
    refine ⟨_, rfl, rfl, rfl, d, _, _, rfl, hd, (by rw [lookup_put, if_pos rfl]), ?_⟩
    refine ⟨_, rfl, rfl, .inr ⟨d, _, rfl, hd⟩, _, _, _, rfl, .own _, T.xk_BadPlace_SeenError, ?_⟩
    refine ⟨_, rfl, rfl, .inr ⟨d, _, rfl, hd⟩, _, _, _, rfl, .own _, T.xk_BadPlace_BadProgram, ?_⟩
    exact ⟨by show 4 ≤ sizeLine; decide, fun k hk => ⟨_, rfl, q k _ (Same.upd s1 (s1.free hk)) (.inr ⟨e, upd_same⟩)⟩⟩
/-- the law's own reading -/
def dueB (bad : Bool) (l m t : V) : Str := if bad then "name" else if !inR 1 6 l then "least" else if !decide (m = .non) && !inR (intOf l) 6 m then "most" else if !isBl t then "let" else ""
theorem dueB_eq (n l m t : V) : dueP n l m t = dueB (!nmV n) l m t := by
  unfold dueP dueB
  cases c1 : nmV n with
  | false => rfl
  | true =>
    cases c2 : inR 1 6 l with
    | false => rfl
    | true =>
      obtain ⟨i, rfl, i1, i2⟩ := inR_int c2
      by_cases hm : m = .non
      · subst hm
        have e : inR i 6 (.int i) = true := by simp [inR]; exact i2
        simp [mostV, intOf, e]
      · simp [mostV, hm, intOf]
def spDue (K : S.Frag) : Sp := Sp4 fun b l m t H Q _ => ∃ bad, b = .bl bad ∧ Od H l ∧ Od H m ∧ Od H t ∧ Q (.str (dueB bad l m t)) H
theorem ok__law_due (T : Txt K mg) : FnOk P w K mg base (L2.CX P w) 2 (He.fAd K ("_law_due", none)) (S.fdA K ("_law_due", none)) ["_law_bad", "_law_low", "_law_high", "_law_looked"] (spDue K) := by
  have G__law_is_integer := ok__law_is_integer (P := P) (w := w) (base := base) T
  refine FunD.ok T.F__law_due sc__law_due (fun vs H Q E h => S.splen4 h) (fun cdv A outer s H vs Q E hr h => ?_)
  have hu := hu_of hr
  refine ⟨_, (pss_cons (ps_if (pt_val (pv 0)) (pss_one (ps_ret pe_str)) pss_nil)
      (pss_cons (ps_if (PW.pt (pw_or (pt_not (pt_val (S.pe_fnS G__law_is_integer (hr.mono (by decide)) rfl T.g__law_is_integer T.F__law_is_integer.kp (kb__law_is_integer_1 T) S.pas0 (pa_cons (pv 1) pa_nil) pk_nil rfl rfl))) (pw_or1 (pt_not (pt_chain op_le op_le pe_int (pv 1) pe_int))))) (pss_one (ps_ret pe_str)) pss_nil)
      (pss_cons (ps_if (PW.pt (pw_and (pt_cmpR op_notN (pv 2) pe_non (nomark _)) (pw_and1 (PW.pt (pw_or (pt_not (pt_val (S.pe_fnS G__law_is_integer (hr.mono (by decide)) rfl T.g__law_is_integer T.F__law_is_integer.kp (kb__law_is_integer_1 T) S.pas0 (pa_cons (pv 2) pa_nil) pk_nil rfl rfl))) (pw_or1 (pt_not (pt_chain op_le op_le (pv 1) (pv 2) pe_int)))))))) (pss_one (ps_ret pe_str)) pss_nil)
      (pss_cons (ps_if (pt_not (pt_val (pe_callB (S.isiK (K := K) rfl) rfl T.n_isinstance S.boot_isinstance (pa_cons (pv 3) (pa_cons (pe_bltn (v := .ty "bool") rfl T.n_bool S.boot_bool rfl) pa_nil))))) (pss_one (ps_ret pe_str)) pss_nil)
      (pss_one (ps_ret pe_str)))))), ?_⟩
  obtain ⟨_, l, m, t, rfl, bad, rfl, ol, om, ot, q⟩ := h
  refine ⟨_, rfl, _, rfl, ?_⟩
  cases bad with
  | true => exact iteT q
  | false =>
    refine iteF ⟨_, rfl, rfl, rfl, _, rfl, _, ol.isi, _, rfl, ?_⟩
    cases c1 : isInt l with
    | false =>
      rw [show dueB false l m t = "least" by simp [dueB, inR_not c1]] at q
      exact iteT (iteT q)
    | true =>
      obtain ⟨i, rfl⟩ := isInt_int c1
      have bad1 : inR 1 6 (.int i) = false → Q (.str "least") H := fun e => by
        rw [show dueB false (.int i) m t = "least" by simp [dueB, e]] at q
        exact q
      refine iteF ⟨_, rfl, _, _, rfl, rfl, _, rfl, ?_⟩
      by_cases d1 : 1 ≤ i
      · refine iteY (by simpa using d1) ⟨_, _, rfl, rfl, _, rfl, ?_⟩
        by_cases d2 : i ≤ 6
        · have e1 : inR 1 6 (.int i) = true := by simp [inR, d1, d2]
          refine iteN (by simpa using d2) ?_
          have bad2 : m ≠ .non → inR i 6 m = false → Q (.str "most") H := fun n e => by
            rw [show dueB false (.int i) m t = "most" by simp [dueB, e1, e, intOf, n]] at q
            exact q
          have fin : (m = .non ∨ inR i 6 m = true) → ∀ D : Ends, D.rt = Q → tSeq (tIfS (tNot (tB (tCB (rIsi K) (tCons (tVar 3) (tCons (tC (.ty "bool")) tNil))))) (tRet (tC (.str "let"))) tNext) (tRet (tC (.str ""))) D [some (.bl false), some (.int i), some m, some t] H := by
            intro hm D hD
            obtain ⟨ty, t1, t2⟩ := ot.bl? (K := K)
            refine ⟨_, rfl, _, _, _, _, _, rfl, .ty _, t1, t2, _, rfl, ?_⟩
            cases c4 : isBl t with
            | false =>
              rw [show dueB false (.int i) m t = "let" by rcases hm with hm | hm <;> simp [dueB, e1, intOf, hm, c4]] at q
              refine iteT ?_
              show D.rt _ _
              rw [hD]
              exact q
            | true =>
              rw [show dueB false (.int i) m t = "" by rcases hm with hm | hm <;> simp [dueB, e1, intOf, hm, c4]] at q
              refine iteF ?_
              show D.rt _ _
              rw [hD]
              exact q
          refine ⟨_, rfl, rfl, _, rfl, ?_⟩
          by_cases d3 : m = .non
          · exact iteN (by simp [d3]) (iteF (fin (.inl d3) _ rfl))
          · refine iteY (by simp [d3]) ⟨_, rfl, rfl, rfl, _, rfl, _, om.isi, _, rfl, ?_⟩
            cases c2 : isInt m with
            | false => exact iteT (iteT (bad2 d3 (inR_not c2)))
            | true =>
              obtain ⟨l2, rfl⟩ := isInt_int c2
              refine iteF ⟨_, rfl, _, rfl, _, _, rfl, rfl, _, rfl, ?_⟩
              by_cases d4 : i ≤ l2
              · refine iteY (by simpa using d4) ⟨_, _, rfl, rfl, _, rfl, ?_⟩
                by_cases d5 : l2 ≤ 6
                · exact iteN (by simpa using d5) (fin (.inr (by simp [inR, d4, d5])) _ rfl)
                · exact iteY (by simpa using d5) (bad2 d3 (by simp [inR, d5]))
              · exact iteN (by simpa using d4) ⟨_, rfl, iteT (bad2 d3 (by simp [inR, d4]))⟩
        · exact iteY (by simpa using d2) (bad1 (by simp [inR, d2]))
      · exact iteN (by simpa using d1) ⟨_, rfl, iteT (bad1 (by simp [inR, d1]))⟩
def spIsP (K : S.Frag) : Sp := Sp5 fun x n l m t H Q _ => ∃ (p : Addr) (z : Str) (i j : Int) (b : Bool), x = .ref p ∧ n = .str z ∧ l = .int i ∧ m = .int j ∧ t = .bl b ∧ PlAt K H p n l m t ∧ Q (.bl true) H
theorem ok__law_is_place (T : Txt K mg) : FnOk P w K mg base (L2.CX P w) 2 (He.fAd K ("_law_is_place", none)) (S.fdA K ("_law_is_place", none)) ["_law_place", "_law_word", "_law_low", "_law_high", "_law_looked"] (spIsP K) := by
  have G__law_is_integer := ok__law_is_integer (P := P) (w := w) (base := base) T
  refine FunD.ok T.F__law_is_place sc__law_is_place (fun vs H Q E h => S.splen5 h) (fun cdv A outer s H vs Q E hr h => ?_)
  have hu := hu_of hr
  refine ⟨_, (pss_cons (ps_if (PW.pt (pw_or (pt_not (pt_val (pe_callB (S.isiK (K := K) rfl) rfl T.n_isinstance S.boot_isinstance (pa_cons (S.pe_fldK (K := K) rfl (pv 0) rfl) (pa_cons (pe_bltn (v := .ty "str") rfl T.n_str S.boot_str rfl) pa_nil))))) (pw_or1 (pt_cmpR op_ne (S.pe_fldK (K := K) rfl (pv 0) rfl) (pv 1) (nomark _))))) (pss_one (ps_ret pe_bl)) pss_nil)
      (pss_cons (ps_if (PW.pt (pw_or (pt_not (pt_val (S.pe_fnS G__law_is_integer (hr.mono (by decide)) rfl T.g__law_is_integer T.F__law_is_integer.kp (kb__law_is_integer_1 T) S.pas0 (pa_cons (S.pe_fldK (K := K) rfl (pv 0) rfl) pa_nil) pk_nil rfl rfl))) (pw_or (pt_not (pt_val (S.pe_fnS G__law_is_integer (hr.mono (by decide)) rfl T.g__law_is_integer T.F__law_is_integer.kp (kb__law_is_integer_1 T) S.pas0 (pa_cons (S.pe_fldK (K := K) rfl (pv 0) rfl) pa_nil) pk_nil rfl rfl))) (pw_or1 (pt_not (pt_val (pe_callB (S.isiK (K := K) rfl) rfl T.n_isinstance S.boot_isinstance (pa_cons (S.pe_fldK (K := K) rfl (pv 0) rfl) (pa_cons (pe_bltn (v := .ty "bool") rfl T.n_bool S.boot_bool rfl) pa_nil))))))))) (pss_one (ps_ret pe_bl)) pss_nil)
      (pss_one (ps_ret (pe_and (pe_cmpR op_eq (S.pe_fldK (K := K) rfl (pv 0) rfl) (pv 2) (nomark _)) (pe_and (pe_cmpR op_eq (S.pe_fldK (K := K) rfl (pv 0) rfl) (pv 3) (nomark _)) (pe_one (pe_cmpR op_eq (S.pe_fldK (K := K) rfl (pv 0) rfl) (pv 4) (nomark _))))))))), ?_⟩
  obtain ⟨_, _, _, _, _, rfl, p, z, i, j, b, rfl, rfl, rfl, rfl, rfl, ⟨dx, hp⟩, q⟩ := h
  refine ⟨_, rfl, p, _, dx, _, _, rfl, hp, T.cl_Place, T.na_Place_name, lk_name _ _ _ _, _, _, _, _, true, rfl, .ty _, .base (.str z), kit_ty (by decide +kernel), _, rfl, iteF ?_⟩
  refine ⟨_, rfl, p, _, dx, _, _, rfl, hp, T.cl_Place, T.na_Place_name, lk_name _ _ _ _, _, rfl, rfl, _, rfl, iteN (by simp) ?_⟩
  refine ⟨_, rfl, p, _, dx, _, _, rfl, hp, T.cl_Place, T.na_Place_least, lk_least _ _ _ _, rfl, rfl, _, rfl, _, .int i, _, rfl, iteF ?_⟩
  refine ⟨_, rfl, p, _, dx, _, _, rfl, hp, T.cl_Place, T.na_Place_most, lk_most _ _ _ _, rfl, rfl, _, rfl, _, .int j, _, rfl, iteF ?_⟩
  refine ⟨_, rfl, p, _, dx, _, _, rfl, hp, T.cl_Place, T.na_Place_let, lk_let _ _ _ _, _, _, _, _, true, rfl, .ty _, .base (.bl b), kit_ty (by decide +kernel), _, rfl, iteF ?_⟩
  refine ⟨_, rfl, p, _, dx, _, _, rfl, hp, T.cl_Place, T.na_Place_least, lk_least _ _ _ _, _, rfl, rfl, _, rfl, iteY (by simp) ?_⟩
  refine ⟨_, rfl, p, _, dx, _, _, rfl, hp, T.cl_Place, T.na_Place_most, lk_most _ _ _ _, _, rfl, rfl, _, rfl, iteY (by simp) ?_⟩
  refine ⟨_, rfl, p, _, dx, _, _, rfl, hp, T.cl_Place, T.na_Place_let, lk_let _ _ _ _, _, rfl, rfl, ?_⟩
  simpa using q
end
end W

namespace W
open PySem PySem.Spec PyProof.Rows L2
section
variable {P : Program} {w : World} {K : S.Frag} {mg : Str → Option Value} {base : Heap}
open S
/-- Place(..) of right values -/
theorem mkP {H : Hp} {Z : VK} {E : XK} {n l m t : V} {p dx : Addr} (np : H p = none) (ndx : H dx = none) (on : Od H n) (sn : sml n) (ol : Od H l) (om : Od H m) (ot : Od H t) (du : dueP n l m t = "") (k : ∀ H', Same H H' → PlAt K H' p n l (mostV l m) t → Z .non H') :
    spPlace K [.ref p, n, l, m, t] (upd (upd H dx (.own p)) p (.ins (He.ga K "Place") dx [])) Z E := by
  have s0 : Same H (upd (upd H dx (.own p)) p (.ins (He.ga K "Place") dx [])) := Same.upd (Same.new ndx) np
  refine ⟨_, _, _, _, _, rfl, p, dx, rfl, upd_same, on.mono s0, sn, ol.mono s0, om.mono s0, ot.mono s0, fun e H' kp hp => ?_, fun e => absurd du e⟩
  exact k H' (fun b o hb => kp b o (s0 b o hb) (ne_of_none hb np)) ⟨dx, hp⟩
theorem dueP_ok {n l m t : V} (h : dueP n l m t = "") : ∃ (z : Str) (i j : Int) (b : Bool), n = .str z ∧ isNm z = true ∧ l = .int i ∧ 1 ≤ i ∧ i ≤ 6 ∧ mostV l m = .int j ∧ i ≤ j ∧ j ≤ 6 ∧ t = .bl b := by
  unfold dueP at h
  split at h
  · exact absurd h (by decide +kernel)
  rename_i c1
  split at h
  · exact absurd h (by decide +kernel)
  rename_i c2
  split at h
  · exact absurd h (by decide +kernel)
  rename_i c3
  split at h
  · exact absurd h (by decide +kernel)
  rename_i c4
  simp only [Bool.not_eq_true', Bool.not_eq_false] at c1 c2 c3 c4
  obtain ⟨i, rfl, i1, i2⟩ := inR_int c2
  obtain ⟨j, ej, j1, j2⟩ := inR_int c3
  obtain ⟨z, rfl⟩ : ∃ z, n = .str z := by cases n <;> first | exact ⟨_, rfl⟩ | cases c1
  obtain ⟨b, rfl⟩ : ∃ b, t = .bl b := by cases t <;> first | exact ⟨_, rfl⟩ | cases c4
  exact ⟨z, i, j, b, rfl, c1, rfl, i1, i2, ej, j1, j2, rfl⟩
theorem dueP_of {z : Str} {i j : Int} {b : Bool} (hz : isNm z = true) (i1 : 1 ≤ i) (i2 : i ≤ j) (j2 : j ≤ 6) : dueP (.str z) (.int i) (.int j) (.bl b) = "" := by
  have c1 : nmV (.str z) = true := hz
  have c2 : inR 1 6 (.int i) = true := by simp [inR]; omega
  have c3 : inR i 6 (.int j) = true := by simp [inR]; omega
  simp [dueP, c1, c2, c3, mostV, intOf, isBl]
theorem dueP_of0 {z : Str} {i : Int} {b : Bool} (hz : isNm z = true) (i1 : 1 ≤ i) (i2 : i ≤ 6) : dueP (.str z) (.int i) .non (.bl b) = "" := by
  have c1 : nmV (.str z) = true := hz
  have c2 : inR 1 6 (.int i) = true := by simp [inR]; omega
  have c3 : inR i 6 (.int i) = true := by simp [inR]; omega
  simp [dueP, c1, c2, c3, mostV, intOf, isBl]
theorem due_is {n l m t : V} (h : dueP n l m t ≠ "") : PyData.strOk (dueP n l m t) = true := by
  have : dueP n l m t = "name" ∨ dueP n l m t = "least" ∨ dueP n l m t = "most" ∨ dueP n l m t = "let" := by
    unfold dueP at h ⊢
    split
    · exact .inl rfl
    · split
      · exact .inr (.inl rfl)
      · split
        · exact .inr (.inr (.inl rfl))
        · split
          · exact .inr (.inr (.inr rfl))
          · rename_i c1 c2 c3 c4
            rw [if_neg c1, if_neg c2, if_neg c3, if_neg c4] at h
            exact absurd rfl h
  rcases this with e | e | e | e <;> rw [e] <;> decide +kernel
theorem kept_last : ∀ s ∈ [("any" : Str), "closed", "end", "open", "to"], s.cps.toList.getLast? ≠ some 120 := by decide +kernel
/-- a name and an x -/
theorem nm_x {z : Str} (h : isNm z = true) (hl : z.length < 8) : isNm (z ++ "x") = true := by
  have hx : (Str.ofString "x").cps.toList = [120] := by decide +kernel
  have lx : (Str.ofString "x").length = 1 := by decide +kernel
  have c : (z ++ (Str.ofString "x")).cps.toList = z.cps.toList ++ [120] := by rw [app_cps, hx]
  have h2 := h
  simp only [isNm, Bool.and_eq_true, decide_eq_true_eq] at h2
  have no : inV (.str (z ++ "x")) keptW = false := by
    rw [show keptW = ([("any" : Str), "closed", "end", "open", "to"]).map V.str from rfl, inV_str]
    refine decide_eq_false fun hm => kept_last _ hm ?_
    rw [c, List.getLast?_append]
    rfl
  have al : ((z ++ (Str.ofString "x")).cps.toList.all fun c => decide (c ∈ abc.cps.toList)) = true := by
    rw [c, List.all_append, h2.2.2]
    decide +kernel
  have l1 : 1 ≤ (z ++ (Str.ofString "x")).length := by rw [app_len]; omega
  have l8 : (z ++ (Str.ofString "x")).length ≤ 8 := by rw [app_len]; omega
  simp only [isNm, decide_eq_true l1, decide_eq_true l8, no, al]
  rfl
theorem abc_lt : ∀ c ∈ abc.cps.toList, c < 0x110000 := by decide +kernel
theorem nm_strOk {z : Str} (h : isNm z = true) : PyData.strOk z = true := by
  have h2 := h
  simp only [isNm, Bool.and_eq_true] at h2
  have h3 := List.all_eq_true.mp h2.2.2
  unfold PyData.strOk
  rw [← Array.all_toList, List.all_eq_true]
  intro c hc
  exact decide_eq_true (abc_lt c (of_decide_eq_true (h3 c hc)))
end
end W

namespace W
open PySem PySem.Spec PyProof.Rows L2
section
variable {P : Program} {w : World} {K : S.Frag} {mg : Str → Option Value} {base : Heap}
open S
/-- a place that is another one -/
def Oth (K : S.Frag) (J : Hp) (vs : List V) (b : Addr) : Prop := ∃ n l m t, PlAt K J b n l m t ∧ [n, l, m, t].all sca = true ∧ PyData.eqvAll ([n, l, m, t].map dat) (vs.map dat) = false
theorem Oth.same {J J' : Hp} {vs : List V} {b : Addr} (h : Oth K J vs b) (s : Same J J') : Oth K J' vs b := let ⟨n, l, m, t, h1, h2⟩ := h; ⟨n, l, m, t, h1.same s, h2⟩
theorem PlAt.upd {J : Hp} {c o : Addr} {xs : List V} {u : HO} {n l m t : V} (h : PlAt K J c n l m t) (ho : J o = some (.lst xs)) : PlAt K (L2.upd J o u) c n l m t := by
  obtain ⟨dx, e⟩ := h
  exact ⟨dx, by rw [upd_ne (ne_of e ho (by intro z; cases z))]; exact e⟩
theorem Oth.upd {J : Hp} {c o : Addr} {xs vs : List V} {u : HO} (h : Oth K J vs c) (ho : J o = some (.lst xs)) : Oth K (L2.upd J o u) vs c := let ⟨n, l, m, t, h1, h2⟩ := h; ⟨n, l, m, t, h1.upd ho, h2⟩
theorem Oth.ne {J : Hp} {c p : Addr} {n l m t : V} (h : Oth K J [n, l, m, t] c) (hp : PlAt K J p n l m t) : c ≠ p := by
  rintro rfl
  obtain ⟨n', l', m', t', ⟨dx, e⟩, h1, h2⟩ := h
  obtain ⟨dy, f⟩ := hp
  rw [e] at f
  simp only [Option.some.injEq, HO.ins.injEq, fldP, List.cons.injEq, Prod.mk.injEq, true_and, and_true] at f
  obtain ⟨_, rfl, rfl, rfl, rfl⟩ := f
  rw [eqvAll_refl] at h2
  cases h2
def spLaw (K : S.Frag) : Sp := Sp1 fun x H Q _ => ∃ (a : Addr) (ns : List Int), x = .ref a ∧ SqL K H a (ns.map V.int) ∧ ns.length ≤ 63 ∧ ∀ H', Q (.bl true) H'
theorem ok_law (T : Txt K mg) : FnOk P w K mg base (L2.CX P w) 6 (He.fAd K ("law", none)) (S.fdA K ("law", none)) ["_law_script"] (spLaw K) := by
  have G__law_cell := ok__law_cell (P := P) (w := w) (base := base) T
  have G__law_take := ok__law_take (P := P) (w := w) (base := base) T
  have G__law_number := ok__law_number (P := P) (w := w) (base := base) T
  have G__law_name := ok__law_name (P := P) (w := w) (base := base) T
  have G__law_bad_name := ok__law_bad_name (P := P) (w := w) (base := base) T
  have G__law_due := ok__law_due (P := P) (w := w) (base := base) T
  have G__law_made := ok__law_made (P := P) (w := w) (base := base) T
  have G__law_is_place := ok__law_is_place (P := P) (w := w) (base := base) T
  have G_Place___init__ := ok_Place___init__ (P := P) (w := w) (base := base) T
  have G_Place___eq__ := ok_Place___eq__ (P := P) (w := w) (base := base) T
  refine FunD.ok T.F_law sc_law (fun vs H Q E h => S.splen1 h) (fun cdv A outer s H vs Q E hr h => ?_)
  have hu := hu_of hr
  refine ⟨_, (pss_cons (ps_set (i := 1) sc_law.nd rfl (by first | exact Or.inl rfl | exact Or.inr rfl) (pe_lst (pa_cons (S.pe_fnS G__law_cell (hr.mono (by decide)) rfl T.g__law_cell T.F__law_cell.kp (kb__law_cell_2 T) S.pas0 (pa_cons (pv 0) (pa_cons pe_int pa_nil)) pk_nil rfl rfl) pa_nil)))
      (pss_cons (ps_set (i := 2) sc_law.nd rfl (by first | exact Or.inl rfl | exact Or.inr rfl) (pe_cmpR op_eq (S.pe_fnS G__law_take (hr.mono (by decide)) rfl T.g__law_take T.F__law_take.kp (kb__law_take_2 T) S.pas0 (pa_cons (pv 1) (pa_cons pe_int pa_nil)) pk_nil rfl rfl) pe_int (nomark _)))
      (pss_cons (ps_set (i := 3) sc_law.nd rfl (by first | exact Or.inl rfl | exact Or.inr rfl) (pe_ix (S.ixK (K := K) rfl) (pe_lst (pa_cons pe_bl (pa_cons pe_bl (pa_cons pe_bl (pa_cons pe_bl (pa_cons pe_non (pa_cons pe_int (pa_cons pe_str pa_nil)))))))) (S.pe_fnS G__law_take (hr.mono (by decide)) rfl T.g__law_take T.F__law_take.kp (kb__law_take_2 T) S.pas0 (pa_cons (pv 1) (pa_cons pe_int pa_nil)) pk_nil rfl rfl) (fun _ _ => rfl)))
      (pss_cons (ps_set (i := 4) sc_law.nd rfl (by first | exact Or.inl rfl | exact Or.inr rfl) (S.pe_fnS G__law_number (hr.mono (by decide)) rfl T.g__law_number T.F__law_number.kp (kb__law_number_1 T) S.pas0 (pa_cons (pv 1) pa_nil) pk_nil rfl rfl))
      (pss_cons (ps_set (i := 5) sc_law.nd rfl (by first | exact Or.inl rfl | exact Or.inr rfl) (S.pe_fnS G__law_number (hr.mono (by decide)) rfl T.g__law_number T.F__law_number.kp (kb__law_number_1 T) S.pas0 (pa_cons (pv 1) pa_nil) pk_nil rfl rfl))
      (S.pss_cut (ps_if (pt_cmpR op_eq (S.pe_fnS G__law_take (hr.mono (by decide)) rfl T.g__law_take T.F__law_take.kp (kb__law_take_2 T) S.pas0 (pa_cons (pv 1) (pa_cons pe_int pa_nil)) pk_nil rfl rfl) pe_int (nomark _)) (pss_one (ps_set (i := 5) sc_law.nd rfl (by first | exact Or.inl rfl | exact Or.inr rfl) pe_non)) pss_nil)
      (pss_cons (ps_set (i := 6) sc_law.nd rfl (by first | exact Or.inl rfl | exact Or.inr rfl) (S.pe_fnS G__law_name (hr.mono (by decide)) rfl T.g__law_name T.F__law_name.kp (kb__law_name_2 T) S.pas0 (pa_cons (pe_lst (pa_cons (S.pe_fnS G__law_cell (hr.mono (by decide)) rfl T.g__law_cell T.F__law_cell.kp (kb__law_cell_2 T) S.pas0 (pa_cons (pv 0) (pa_cons pe_int pa_nil)) pk_nil rfl rfl) pa_nil)) (pa_cons (pe_lst pa_nil) pa_nil)) pk_nil rfl rfl))
      (S.pss_cut (ps_if (pt_val (pv 2)) (pss_one (ps_set (i := 6) sc_law.nd rfl (by first | exact Or.inl rfl | exact Or.inr rfl) (S.pe_fnS G__law_bad_name (hr.mono (by decide)) rfl T.g__law_bad_name T.F__law_bad_name.kp (kb__law_bad_name_2 T) S.pas0 (pa_cons (pe_lst (pa_cons (S.pe_fnS G__law_cell (hr.mono (by decide)) rfl T.g__law_cell T.F__law_cell.kp (kb__law_cell_2 T) S.pas0 (pa_cons (pv 0) (pa_cons pe_int pa_nil)) pk_nil rfl rfl) pa_nil)) (pa_cons (pv 6) pa_nil)) pk_nil rfl rfl))) pss_nil)
      (pss_cons (ps_set (i := 7) sc_law.nd rfl (by first | exact Or.inl rfl | exact Or.inr rfl) (S.pe_fnS G__law_due (hr.mono (by decide)) rfl T.g__law_due T.F__law_due.kp (kb__law_due_4 T) S.pas0 (pa_cons (pv 2) (pa_cons (pv 4) (pa_cons (pv 5) (pa_cons (pv 3) pa_nil)))) pk_nil rfl rfl))
      (pss_cons (ps_set (i := 8) sc_law.nd rfl (by first | exact Or.inl rfl | exact Or.inr rfl) (S.pe_fnS G__law_made (hr.mono (by decide)) rfl T.g__law_made T.F__law_made.kp (kb__law_made_4 T) S.pas0 (pa_cons (pv 6) (pa_cons (pv 4) (pa_cons (pv 5) (pa_cons (pv 3) pa_nil)))) pk_nil rfl rfl))
      (pss_cons (ps_if (pt_cmpR op_ne (pv 7) pe_str (nomark _)) (pss_one (ps_ret (pe_cmpR (S.eqDK (K := K) rfl (S.hu64 hr)) (pv 8) (pe_tup (pa_cons pe_str (pa_cons (pv 7) (pa_cons pe_bl (pa_cons pe_bl pa_nil))))) (nomark _)))) pss_nil)
      (pss_cons (ps_if (pt_cmpR op_ne (pe_ix (S.ixK (K := K) rfl) (pv 8) pe_int (fun _ _ => rfl)) pe_str (nomark _)) (pss_one (ps_ret pe_bl)) pss_nil)
      (S.pss_cut (ps_if (pt_cmpR op_isN (pv 5) pe_non (nomark _)) (pss_one (ps_set (i := 5) sc_law.nd rfl (by first | exact Or.inl rfl | exact Or.inr rfl) (pv 4))) pss_nil)
      (pss_cons (ps_if (pt_not (pt_val (S.pe_fnS G__law_is_place (hr.mono (by decide)) rfl T.g__law_is_place T.F__law_is_place.kp (kb__law_is_place_5 T) S.pas0 (pa_cons (pe_ix (S.ixK (K := K) rfl) (pv 8) pe_int (fun _ _ => rfl)) (pa_cons (pv 6) (pa_cons (pv 4) (pa_cons (pv 5) (pa_cons (pv 3) pa_nil))))) pk_nil rfl rfl))) (pss_one (ps_ret pe_bl)) pss_nil)
      (pss_cons (ps_if (PW.pt (pw_or (pt_not (pt_val (S.pe_fnS G__law_is_place (hr.mono (by decide)) rfl T.g__law_is_place T.F__law_is_place.kp (kb__law_is_place_5 T) S.pas0 (pa_cons (S.pe_mkS T.mk_Place G_Place___init__ (hr.mono (by decide)) rfl T.g_Place (kb_Place___init___3 T).choose_spec (S.pasE (takes_of rfl rfl rfl rfl)) (pa_cons (pv 6) (pa_cons (pv 4) pa_nil)) pk_nil rfl rfl) (pa_cons (pv 6) (pa_cons (pv 4) (pa_cons (pv 4) (pa_cons pe_bl pa_nil))))) pk_nil rfl rfl))) (pw_or1 (pt_not (pt_val (S.pe_fnS G__law_is_place (hr.mono (by decide)) rfl T.g__law_is_place T.F__law_is_place.kp (kb__law_is_place_5 T) S.pas0 (pa_cons (S.pe_mkS T.mk_Place G_Place___init__ (hr.mono (by decide)) rfl T.g_Place (kb_Place___init___2 T).choose_spec (S.pasE (takes_of rfl rfl rfl rfl)) (pa_cons (pv 6) pa_nil) pk_nil rfl rfl) (pa_cons (pv 6) (pa_cons pe_int (pa_cons pe_int (pa_cons pe_bl pa_nil))))) pk_nil rfl rfl)))))) (pss_one (ps_ret pe_bl)) pss_nil)
      (pss_cons (ps_set (i := 9) sc_law.nd rfl (by first | exact Or.inl rfl | exact Or.inr rfl) (S.pe_mkS T.mk_Place G_Place___init__ (hr.mono (by decide)) rfl T.g_Place (kb_Place___init___4_let T).choose_spec (S.pasE (takes_of rfl rfl rfl rfl)) (pa_cons (pv 6) (pa_cons (pv 4) (pa_cons (pv 5) pa_nil))) (pk_cons (pv 3) pk_nil) rfl rfl))
      (pss_cons (ps_set (i := 10) sc_law.nd rfl (by first | exact Or.inl rfl | exact Or.inr rfl) (pe_lst (pa_cons (S.pe_mkS T.mk_Place G_Place___init__ (hr.mono (by decide)) rfl T.g_Place (kb_Place___init___4_let T).choose_spec (S.pasE (takes_of rfl rfl rfl rfl)) (pa_cons (pv 6) (pa_cons (pv 4) (pa_cons (pv 5) pa_nil))) (pk_cons (pe_not (pv 3)) pk_nil) rfl rfl) pa_nil)))
      (S.pss_cut (ps_if (pt_cmpR op_lt (pe_callB (S.lenK (K := K) rfl) rfl T.n_len S.boot_len (pa_cons (pv 6) pa_nil)) pe_int (nomark _)) (pss_one (ps_expr (pe_bm PySem.F.plainAttrs_list PySem.F.slot_list_append PySem.F.type_list_append mt_append (pv 10) (pa_cons (S.pe_mkS T.mk_Place G_Place___init__ (hr.mono (by decide)) rfl T.g_Place (kb_Place___init___4_let T).choose_spec (S.pasE (takes_of rfl rfl rfl rfl)) (pa_cons (pe_op op_add_str (pv 6) pe_str) (pa_cons (pv 4) (pa_cons (pv 5) pa_nil))) (pk_cons (pv 3) pk_nil) rfl rfl) pa_nil)))) pss_nil)
      (S.pss_cut (ps_if (pt_cmpR op_lt (pv 5) pe_int (nomark _)) (pss_one (ps_expr (pe_bm PySem.F.plainAttrs_list PySem.F.slot_list_append PySem.F.type_list_append mt_append (pv 10) (pa_cons (S.pe_mkS T.mk_Place G_Place___init__ (hr.mono (by decide)) rfl T.g_Place (kb_Place___init___4_let T).choose_spec (S.pasE (takes_of rfl rfl rfl rfl)) (pa_cons (pv 6) (pa_cons (pv 4) (pa_cons (pe_op op_add (pv 5) pe_int) pa_nil))) (pk_cons (pv 3) pk_nil) rfl rfl) pa_nil)))) pss_nil)
      (S.pss_cut (ps_if (pt_cmpR op_lt (pv 4) (pv 5) (nomark _)) (pss_one (ps_expr (pe_bm PySem.F.plainAttrs_list PySem.F.slot_list_append PySem.F.type_list_append mt_append (pv 10) (pa_cons (S.pe_mkS T.mk_Place G_Place___init__ (hr.mono (by decide)) rfl T.g_Place (kb_Place___init___4_let T).choose_spec (S.pasE (takes_of rfl rfl rfl rfl)) (pa_cons (pv 6) (pa_cons (pe_op op_add (pv 4) pe_int) (pa_cons (pv 5) pa_nil))) (pk_cons (pv 3) pk_nil) rfl rfl) pa_nil)))) pss_nil)
      (pss_one (ps_ret (pe_and (pe_cmpR (S.op_ownI (C := He.ga K "Place") S.hop_eq T.me_Place___eq__.1 T.me_Place___eq__.2 (S.raw_of G_Place___eq__ (kb_Place___eq___2 T)) (hr.mono (by decide))) (pe_ix (S.ixK (K := K) rfl) (pv 8) pe_int (fun _ _ => rfl)) (pv 9) (nomark _)) (pe_one (pe_cmpR (S.op_notInO (C := He.ga K "Place") T.me_Place___eq__.1 T.me_Place___eq__.2 (S.raw_of G_Place___eq__ (kb_Place___eq___2 T)) (hr.mono (by decide))) (pe_ix (S.ixK (K := K) rfl) (pv 8) pe_int (fun _ _ => rfl)) (pv 10) rfl))))))))))))))))))))))))), ?_⟩
  obtain ⟨_, rfl, a, ns, rfl, hS, hl, q⟩ := h
  refine ⟨_, rfl, rfl, rfl, _, _, rfl, a, ns, 0, rfl, rfl, Int.le_refl 0, hS, fun n0 hn0 => ⟨by show 1 ≤ sizeLine; decide, fun r hr0 => ?_⟩⟩
  refine ⟨_, rfl, rfl, rfl, _, _, rfl, r, n0, 3, rfl, upd_same, rfl, by decide, by decide, fun c n1 c0 c1 => ⟨rfl, ?_⟩⟩
  generalize hbad : decide (V.int c = V.int 0) = bad
  have d1 : Dr r (upd H r (.lst [.int n0])) (upd (upd H r (.lst [.int n0])) r (.lst [.int n1])) := Dr.upd
  have s1 := dr_same (Same.new hr0) hr0 d1
  refine ⟨by show 7 ≤ sizeLine; decide, fun k hk => ?_⟩
  have nrk : r ≠ k := ne_of_none upd_same hk
  refine ⟨_, rfl, rfl, rfl, _, _, rfl, r, n1, 7, rfl, Same.new hk _ _ upd_same, rfl, by decide, by decide, fun ti n2 t0 t1 => ?_⟩
  have d2 : Dr r (upd (upd H r (.lst [.int n0])) r (.lst [.int n1])) (upd (upd (upd (upd H r (.lst [.int n0])) r (.lst [.int n1])) k (.lst [.bl true, .bl false, .bl true, .bl false, .non, .int 1, .str "yes"])) r (.lst [.int n2])) := (Dr.same upd_same (Same.new hk)).trans Dr.upd
  have s2 := dr_same s1 hr0 d2
  generalize hJ : upd (upd (upd (upd H r (.lst [.int n0])) r (.lst [.int n1])) k (.lst [.bl true, .bl false, .bl true, .bl false, .non, .int 1, .str "yes"])) r (.lst [.int n2]) = J at d2 s2
  have ek : J k = some (.lst [.bl true, .bl false, .bl true, .bl false, .non, .int 1, .str "yes"]) := by rw [← hJ, upd_ne nrk.symm, upd_same]
  have er : J r = some (.lst [.int n2]) := by rw [← hJ, upd_same]
  have hti : ti.toNat < ([.bl true, .bl false, .bl true, .bl false, .non, .int 1, .str "yes"] : List V).length := by
    have : ([.bl true, .bl false, .bl true, .bl false, .non, .int 1, .str "yes"] : List V).length = 7 := rfl
    omega
  refine ix3 ek (atI_lt t0 (List.getElem?_eq_getElem hti)) ?_
  have ot : ∀ v ∈ ([.bl true, .bl false, .bl true, .bl false, .non, .int 1, .str "yes"] : List V), ∀ J, Od J v := by
    intro v hv J
    simp only [List.mem_cons, List.not_mem_nil, or_false] at hv
    rcases hv with rfl | rfl | rfl | rfl | rfl | rfl | rfl
    · exact .bl _
    · exact .bl _
    · exact .bl _
    · exact .bl _
    · exact .non
    · exact .int _
    · exact .str _
  have ot := ot _ (List.getElem_mem hti)
  generalize ([.bl true, .bl false, .bl true, .bl false, .non, .int 1, .str "yes"] : List V)[ti.toNat] = t at ot
  -- low, high
  refine ⟨_, rfl, rfl, rfl, _, rfl, r, n2, rfl, er, fun l H3 ol d3 => ?_⟩
  obtain ⟨n3, e3⟩ := d3.at_
  refine ⟨_, rfl, rfl, rfl, _, rfl, r, n3, rfl, e3, fun m H4 om d4 => ?_⟩
  obtain ⟨n4, e4⟩ := d4.at_
  have s4 := dr_same (dr_same s2 hr0 d3) hr0 d4
  have ol4 := ol.dr d4
  refine ⟨fun τ J5 => Same H J5 ∧ ∃ m, Od J5 l ∧ Od J5 m ∧ τ = [some (.ref a), some (.ref r), some (.bl bad), some t, some l, some m, none, none, none, none, none], ?_, ?_⟩
  · refine ⟨_, rfl, rfl, rfl, _, _, rfl, r, n4, 5, rfl, e4, rfl, by decide, by decide, fun z n5 z0 z1 => ⟨rfl, _, rfl, ite2 (fun _ => ?_) (fun _ => ?_)⟩⟩
    · exact ⟨dr_same s4 hr0 Dr.upd, .non, (ol4.dr Dr.upd).od, .non, rfl⟩
    · exact ⟨dr_same s4 hr0 Dr.upd, m, (ol4.dr Dr.upd).od, (om.dr Dr.upd).od, rfl⟩
  rintro τ J5 ⟨s5, m, ol5, om5, rfl⟩
  -- word
  refine ⟨_, rfl, rfl, rfl, _, _, rfl, a, ns, 1, rfl, rfl, by decide, s5.seq hS, fun n6 hn6 => ⟨by show 1 ≤ sizeLine; decide, fun r2 hr2 => ⟨by show 0 ≤ sizeLine; decide, fun u hu => ?_⟩⟩⟩
  have s6 := Same.new (o := .lst [.int n6]) hr2
  have s7 := s6.trans (Same.new (o := .lst []) hu)
  refine ⟨rfl, rfl, _, _, rfl, r2, u, n6, [], rfl, rfl, ne_of_none upd_same hu, Same.new hu _ _ upd_same, upd_same, by decide, fun z J7 hz _ d7 => ?_⟩
  have s8 : Same J5 J7 := dr_same s7 hr2 d7
  refine ⟨fun τ J8 => Same J5 J8 ∧ ∃ v, Od J8 v ∧ sml v ∧ nmV v = !bad ∧ τ = [some (.ref a), some (.ref r), some (.bl bad), some t, some l, some m, some v, none, none, none, none], ?_, ?_⟩
  · refine ⟨_, rfl, _, rfl, ?_⟩
    cases bad with
    | false =>
      have := nm_len hz
      exact iteF ⟨s8, .str z, .str z, (by show z.length ≤ 1000; omega), hz, rfl⟩
    | true =>
      refine iteT ⟨_, rfl, rfl, rfl, _, _, rfl, a, ns, 2, rfl, rfl, by decide, (s5.trans s8).seq hS, fun n8 hn8 => ⟨by show 1 ≤ sizeLine; decide, fun r3 hr3 => ?_⟩⟩
      refine ⟨_, rfl, rfl, rfl, _, _, rfl, r3, n8, z, rfl, upd_same, rfl, hz, fun v J9 ov sv nv d9 => ?_⟩
      exact ⟨s8.trans (dr_same (Same.new hr3) hr3 d9), v, ov.od, sv, nv, rfl⟩
  rintro τ J8 ⟨s9, n, on, sn, nm, rfl⟩
  have ol8 := ol5.mono s9
  have om8 := om5.mono s9
  refine ⟨_, rfl, _, rfl, _, rfl, _, rfl, rfl, rfl, _, _, _, _, rfl, bad, rfl, ol8, om8, ot _, ?_⟩
  refine ⟨_, rfl, _, rfl, _, rfl, _, rfl, rfl, rfl, _, _, _, _, rfl, on, sn, ol8, om8, ot _, fun o K1 t1 hO => ?_⟩
  have dd : dueB bad l m t = dueP n l m t := by rw [dueB_eq, nm, Bool.not_not]
  rw [dd]
  refine ⟨_, rfl, rfl, _, rfl, ?_⟩
  rcases hO with ⟨e, p, ho, hp⟩ | ⟨e, ho⟩
  · refine iteN (by simp [e]) ⟨_, rfl, ixT ho rfl ⟨rfl, _, rfl, iteN (by decide +kernel) ?_⟩⟩
    obtain ⟨z, i, j, b, rfl, hz, rfl, i1, i2, ej, j1, j2, rfl⟩ := dueP_ok e
    refine ⟨fun τ J9 => J9 = K1 ∧ τ = [some (.ref a), some (.ref r), some (.bl bad), some (.bl b), some (.int i), some (.int j), some (.str z), some (.str (dueP (.str z) (.int i) m (.bl b))), some (.ref o), none, none], ?_, ?_⟩
    · refine ⟨_, rfl, rfl, _, rfl, ?_⟩
      by_cases hm : m = .non
      · rw [mostV, if_pos hm] at ej
        exact iteY (by simp [hm]) ⟨_, rfl, rfl, by rw [← ej]; rfl⟩
      · rw [mostV, if_neg hm] at ej
        exact iteN (by simp [hm]) ⟨rfl, by rw [← ej]; rfl⟩
    rintro τ J9 ⟨rfl, rfl⟩
    rw [ej] at hp
    have sz : sml (.str z) := by have := nm_len hz; show z.length ≤ 1000; omega
    refine ⟨_, rfl, ixT ho rfl ⟨_, rfl, _, rfl, _, rfl, _, rfl, rfl, rfl, _, _, _, _, _, rfl, p, z, i, j, b, rfl, rfl, rfl, rfl, rfl, hp, _, rfl, iteF ?_⟩⟩
    refine ⟨_, rfl, _, rfl, rfl, rfl, fun p2 dxp2 np2 ndx _ => mkP np2 ndx (.str z) sz (.int i) .non (.bl true) (dueP_of0 hz i1 i2) fun H2 t2 hp2 => ⟨rfl, ?_⟩⟩
    refine ⟨_, rfl, _, rfl, _, rfl, rfl, rfl, _, _, _, _, _, rfl, p2, z, i, i, true, rfl, rfl, rfl, rfl, rfl, hp2, _, rfl, iteF ?_⟩
    refine ⟨_, rfl, rfl, rfl, fun p3 dxp3 np3 ndx _ => mkP np3 ndx (.str z) sz (.int 1) .non (.bl true) (dueP_of0 hz (by decide) (by decide)) fun H3 t3 hp3 => ⟨rfl, ?_⟩⟩
    refine ⟨_, rfl, rfl, rfl, _, _, _, _, _, rfl, p3, z, 1, 1, true, rfl, rfl, rfl, rfl, rfl, hp3, _, rfl, iteF ?_⟩
    have t4 := t2.trans t3
    -- same, others
    refine ⟨_, rfl, _, rfl, _, rfl, _, rfl, rfl, rfl, fun p4 dxp4 np4 ndx _ => mkP np4 ndx (.str z) sz (.int i) (.int j) (.bl b) (dueP_of hz i1 j1 j2) fun H4 t5 hp4 => ⟨rfl, ?_⟩⟩
    have hp4 : PlAt K H4 p4 (.str z) (.int i) (.int j) (.bl b) := hp4
    have t6 := t4.trans t5
    refine ⟨_, rfl, _, rfl, _, rfl, _, rfl, _, rfl, rfl, rfl, fun p5 dxp5 np5 ndx _ => mkP np5 ndx (.str z) sz (.int i) (.int j) (.bl (!b)) (dueP_of hz i1 j1 j2) fun H5 t7 hp5 => ⟨rfl, by show 1 ≤ sizeLine; decide, fun oth hoth => ?_⟩⟩
    have hp5 : PlAt K H5 p5 (.str z) (.int i) (.int j) (.bl (!b)) := hp5
    have t8 := (t6.trans t7).trans (Same.new (o := .lst [.ref p5]) hoth)
    have no := (t6.trans t7).free hoth
    have so := nm_strOk hz
    have lx : (Str.ofString "x").length = 1 := by decide +kernel
    have ev : ∀ (x y : Str) (k1 k2 k3 k4 : Int) (b1 b2 : Bool), PyData.eqvAll ([V.str x, .int k1, .int k2, .bl b1].map dat) ([V.str y, .int k3, .int k4, .bl b2].map dat) = ((x == y) && ((k1 == k3) && ((k2 == k4) && (b1 == b2)))) := fun x y k1 k2 k3 k4 b1 b2 => by
      simp [PyData.eqvAll, PyData.eqv, dat]
    have sc : ∀ (x : Str) (k1 k2 : Int) (b1 : Bool), PyData.strOk x = true → [V.str x, .int k1, .int k2, .bl b1].all sca = true := fun x k1 k2 b1 h => by simp [sca, h]
    have app : ∀ (J : Hp) (bs : List Addr), Same J9 J → J oth = some (.lst (bs.map V.ref)) → bs.length ≤ 10 → (∀ c ∈ bs, Oth K J [.str z, .int i, .int j, .bl b] c) → PlAt K J p4 (.str z) (.int i) (.int j) (.bl b) →
        ∀ (J2 : Hp) (c : Addr), Same J J2 → Oth K J2 [.str z, .int i, .int j, .bl b] c →
        Same J9 (upd J2 oth (.lst (bs.map V.ref ++ [.ref c]))) ∧ PlAt K (upd J2 oth (.lst (bs.map V.ref ++ [.ref c]))) p4 (.str z) (.int i) (.int j) (.bl b) ∧
        ∃ bs2 : List Addr, (upd J2 oth (.lst (bs.map V.ref ++ [.ref c]))) oth = some (.lst (bs2.map V.ref)) ∧ bs2.length = bs.length + 1 ∧ ∀ e ∈ bs2, Oth K (upd J2 oth (.lst (bs.map V.ref ++ [.ref c]))) [.str z, .int i, .int j, .bl b] e := by
      intro J bs u1 u2 u3 u4 u5 J2 c v1 v2
      refine ⟨Same.upd (u1.trans v1) no, (u5.same v1).upd (v1 _ _ u2), bs ++ [c], by rw [upd_same, List.map_append]; rfl, by simp, fun c' hc' => ?_⟩
      rcases List.mem_append.mp hc' with h | h
      · exact ((u4 c' h).same v1).upd (v1 _ _ u2)
      · rw [List.mem_singleton.mp h]
        exact v2.upd (v1 _ _ u2)
    have INV0 : Same J9 (upd H5 oth (.lst [.ref p5])) ∧ PlAt K (upd H5 oth (.lst [.ref p5])) p4 (.str z) (.int i) (.int j) (.bl b) ∧ ∃ bs : List Addr, (upd H5 oth (.lst [.ref p5])) oth = some (.lst (bs.map V.ref)) ∧ bs.length = 1 ∧ ∀ c ∈ bs, Oth K (upd H5 oth (.lst [.ref p5])) [.str z, .int i, .int j, .bl b] c :=
      ⟨t8, (hp4.same t7).same (Same.new hoth), [p5], upd_same, rfl, fun c hc => by
        rw [List.mem_singleton.mp hc]
        refine ⟨_, _, _, _, hp5.same (Same.new hoth), sc _ _ _ _ so, ?_⟩
        rw [ev]
        cases b <;> simp⟩
    generalize upd H5 oth (.lst [.ref p5]) = J10 at INV0
    refine ⟨fun τ J => (Same J9 J ∧ PlAt K J p4 (.str z) (.int i) (.int j) (.bl b) ∧ ∃ bs : List Addr, J oth = some (.lst (bs.map V.ref)) ∧ bs.length ≤ 2 ∧ ∀ c ∈ bs, Oth K J [.str z, .int i, .int j, .bl b] c) ∧ τ = [some (.ref a), some (.ref r), some (.bl bad), some (.bl b), some (.int i), some (.int j), some (.str z), some (.str (dueP (.str z) (.int i) m (.bl b))), some (.ref o), some (.ref p4), some (.ref oth)], ?_, ?_⟩
    · obtain ⟨u1, u5, bs, u2, u3, u4⟩ := INV0
      refine ⟨_, rfl, _, z.length, rfl, ⟨Nat.le_trans (nm_len hz).2 (by decide), rfl⟩, _, _, rfl, rfl, _, rfl, ?_⟩
      by_cases c8 : z.length < 8
      · refine iteY (decide_eq_true (by omega)) ⟨_, rfl, .inl ⟨rfl, _, .inl (.inl u2)⟩, _, rfl, z, _, rfl, rfl, Nat.le_trans (show z.length + (Str.ofString "x").length ≤ 1000 by omega) (by decide), _, rfl, _, rfl, _, rfl, rfl, rfl, fun p6 dxp6 np6 ndx _ => mkP np6 ndx (.str _) ?_ (.int i) (.int j) (.bl b) (dueP_of (nm_x hz c8) i1 j1 j2) fun H6 v1 hp6 => ⟨rfl, ?_⟩⟩
        · have := (nm_len (nm_x hz c8)).2
          show (z ++ (Str.ofString "x")).length ≤ 1000
          omega
        · have hp6 : PlAt K H6 p6 (.str (z ++ "x")) (.int i) (.int j) (.bl b) := hp6
          have ot6 : Oth K H6 [.str z, .int i, .int j, .bl b] p6 := ⟨_, _, _, _, hp6, sc _ _ _ _ (nm_strOk (nm_x hz c8)), by
            rw [ev]
            have : ¬ (z ++ (Str.ofString "x")) = z := fun h => by
              have h2 := congrArg Str.length h
              rw [app_len] at h2
              have : (Str.ofString "x").length = 1 := by decide +kernel
              omega
            simp [this]⟩
          obtain ⟨y1, y2, bs2, y3, y4, y5⟩ := app J10 bs u1 u2 (by omega) u4 u5 H6 p6 v1 ot6
          exact ⟨oth, _, _, rfl, rfl, v1 _ _ u2, by rw [List.length_map]; exact small1000 (by omega), ⟨y1, y2, bs2, y3, by omega, y5⟩, rfl⟩
      · exact iteN (fun h => c8 (by have := of_decide_eq_true h; omega)) ⟨⟨u1, u5, bs, u2, by omega, u4⟩, rfl⟩
    rintro τ J11 ⟨⟨u1, u5, bs, u2, u3, u4⟩, rfl⟩
    refine ⟨fun τ J => (Same J9 J ∧ PlAt K J p4 (.str z) (.int i) (.int j) (.bl b) ∧ ∃ bs : List Addr, J oth = some (.lst (bs.map V.ref)) ∧ bs.length ≤ 3 ∧ ∀ c ∈ bs, Oth K J [.str z, .int i, .int j, .bl b] c) ∧ τ = [some (.ref a), some (.ref r), some (.bl bad), some (.bl b), some (.int i), some (.int j), some (.str z), some (.str (dueP (.str z) (.int i) m (.bl b))), some (.ref o), some (.ref p4), some (.ref oth)], ?_, ?_⟩
    · refine ⟨_, rfl, _, _, rfl, rfl, _, rfl, ?_⟩
      by_cases c6 : j < 6
      · refine iteY (decide_eq_true c6) ⟨_, rfl, .inl ⟨rfl, _, .inl (.inl u2)⟩, _, rfl, _, rfl, _, rfl, _, _, rfl, rfl, _, rfl, rfl, rfl, fun p6 dxp6 np6 ndx _ => mkP np6 ndx (.str z) sz (.int i) (.int (j + 1)) (.bl b) (dueP_of hz i1 (by omega) (by omega)) fun H6 v1 hp6 => ⟨rfl, ?_⟩⟩
        have hp6 : PlAt K H6 p6 (.str z) (.int i) (.int (j + 1)) (.bl b) := hp6
        have ot6 : Oth K H6 [.str z, .int i, .int j, .bl b] p6 := ⟨_, _, _, _, hp6, sc _ _ _ _ so, by
          rw [ev]
          have : ¬ j + 1 = j := by omega
          simp [this]⟩
        obtain ⟨y1, y2, bs2, y3, y4, y5⟩ := app J11 bs u1 u2 (by omega) u4 u5 H6 p6 v1 ot6
        exact ⟨oth, _, _, rfl, rfl, v1 _ _ u2, by rw [List.length_map]; exact small1000 (by omega), ⟨y1, y2, bs2, y3, by omega, y5⟩, rfl⟩
      · exact iteN (by simpa using c6) ⟨⟨u1, u5, bs, u2, by omega, u4⟩, rfl⟩
    rintro τ J12 ⟨⟨u1, u5, bs, u2, u3, u4⟩, rfl⟩
    refine ⟨fun τ J => (Same J9 J ∧ PlAt K J p4 (.str z) (.int i) (.int j) (.bl b) ∧ ∃ bs : List Addr, J oth = some (.lst (bs.map V.ref)) ∧ ∀ c ∈ bs, Oth K J [.str z, .int i, .int j, .bl b] c) ∧ τ = [some (.ref a), some (.ref r), some (.bl bad), some (.bl b), some (.int i), some (.int j), some (.str z), some (.str (dueP (.str z) (.int i) m (.bl b))), some (.ref o), some (.ref p4), some (.ref oth)], ?_, ?_⟩
    · refine ⟨_, rfl, _, rfl, _, _, rfl, rfl, _, rfl, ?_⟩
      by_cases c6 : i < j
      · refine iteY (decide_eq_true c6) ⟨_, rfl, .inl ⟨rfl, _, .inl (.inl u2)⟩, _, rfl, _, rfl, _, _, rfl, rfl, _, rfl, _, rfl, rfl, rfl, fun p6 dxp6 np6 ndx _ => mkP np6 ndx (.str z) sz (.int (i + 1)) (.int j) (.bl b) (dueP_of hz (by omega) (by omega) j2) fun H6 v1 hp6 => ⟨rfl, ?_⟩⟩
        have hp6 : PlAt K H6 p6 (.str z) (.int (i + 1)) (.int j) (.bl b) := hp6
        have ot6 : Oth K H6 [.str z, .int i, .int j, .bl b] p6 := ⟨_, _, _, _, hp6, sc _ _ _ _ so, by
          rw [ev]
          have : ¬ i + 1 = i := by omega
          simp [this]⟩
        obtain ⟨y1, y2, bs2, y3, y4, y5⟩ := app J12 bs u1 u2 (by omega) u4 u5 H6 p6 v1 ot6
        exact ⟨oth, _, _, rfl, rfl, v1 _ _ u2, by rw [List.length_map]; exact small1000 (by omega), ⟨y1, y2, bs2, y3, y5⟩, rfl⟩
      · exact iteN (by simpa using c6) ⟨⟨u1, u5, bs, u2, u4⟩, rfl⟩
    rintro τ J13 ⟨⟨u1, u5, bs, u2, u4⟩, rfl⟩
    have hp13 := hp.same u1
    obtain ⟨dxa, ea⟩ := id hp13
    obtain ⟨dxb, eb⟩ := id u5
    have nf : PySem.W.notFirst K (He.ga K "Place") (.ref (He.ga K "Place")) = true := by simp [PySem.W.notFirst]
    refine ⟨_, rfl, ixT (u1 _ _ ho) rfl ⟨_, rfl, p, dxa, _, p4, _, dxb, _, rfl, rfl, ea, eb, nf, _, _, rfl, p, _, _, _, _, p4, _, _, _, _, rfl, rfl, hp13, u5, sc _ _ _ _ so, sc _ _ _ _ so, fun J14 w1 => ⟨_, rfl, iteY (by rw [eqvAll_refl]) ?_⟩⟩⟩
    refine ⟨_, rfl, ixT (w1 _ _ (u1 _ _ ho)) rfl ⟨_, rfl, p, oth, dxa, _, bs, fun _ => false, rfl, rfl, w1 _ _ u2, w1 _ _ ea, fun c hc => ?_, fun c hc J15 w2 Z hZ => ?_, fun J15 w2 => ?_⟩⟩
    · obtain ⟨n', l', m', t', ⟨dy, f⟩, _⟩ := u4 c hc
      exact ⟨dy, _, w1 _ _ f⟩
    · obtain ⟨n', l', m', t', f1, f2, f3⟩ := u4 c hc
      refine ⟨_, _, rfl, c, _, _, _, _, p, _, _, _, _, rfl, rfl, f1.same (w1.trans w2), hp13.same (w1.trans w2), f2, sc _ _ _ _ so, fun J16 w3 => ?_⟩
      rw [f3]
      exact hZ J16 w3
    · have : (bs.any fun c => decide (c = p) || false) = false := by
        rw [List.any_eq_false]
        intro c hc
        simp [(u4 c hc).ne hp13]
      rw [this]
      exact q _
  · refine iteY (by simp [e]) ⟨_, rfl, _, rfl, by show 4 ≤ sizeLine; decide, fun t2 ht2 => ?_⟩
    exact rEqT_true (.inl (.inl (Same.new ht2 _ _ ho))) (.inl (.inl upd_same)) (by simp [sca, due_is e]; decide +kernel) (q _)
end
end W

namespace W
open PySem PySem.Spec PyProof.Rows L2
abbrev R : PySem.W.OpenRow := PySem.W.OpenLaw.row PySem.Challenge.rw_seenshares_k05_place
abbrev hk : PySem.W.Hook := S.hookX 6 cks fns
def ob (s : PySem.W.SharedT) : He.AlD := S.obsXG 6 cks fns (HandSHeadRun.getT s)
theorem ob_eq (s : PySem.W.SharedT) : ob s = hk.obs s.abs := S.obsXG_eq (HandSHeadRun.getT_eq s)
def lo0 : List PySem.Str := ["LETTERS", "KEPT_WORDS", "is_integer", "is_within", "is_name", "SeenError", "BadPlace", "BadProgram", "MOST_TICKS", "Place", "_law_cell", "_law_take", "_law_is_integer", "_law_name", "_law_bad_name", "_law_number", "_law_made", "_law_due", "_law_is_place"]
def lo : List PySem.Str := lo0
set_option maxHeartbeats 0 in
theorem run (w : World) : HandSHeadRun.RunEq R (PySem.W.view R.prog [23]) hk ob 3000 lo w := by
  intro os
  kernel_rfl
theorem facts {P : Program} {w : World} {K : S.Frag} {h : Heap} {mg : Str → Option Value} {f : Addr} (X : K.In h) (G : h.Ns mainGlobals mg) (hfa : mg ("law" : Str) = some (.ref f)) (c : S.SaysX cks fns K) :
    ∃ fd : FuncData, (∀ (s : Shared) (v : Value), BindsTo s fd ⟨[v], []⟩ [("_law_script", v)]) ∧ ∀ base : Heap, FnOk P w K mg base (L2.CX P w) 6 f fd ["_law_script"] (spLaw K) := by
  have T : Txt K mg := txt_of X G c
  have e := hfa.symm.trans T.g_law
  cases e
  have b := FunD.bindsA (ps := ["_law_script"]) T.F_law fun _ _ _ _ _ _ us hl => match us, hl with | [_], _ => rfl
  exact ⟨_, fun s v => b s [v] rfl, fun base => ok_law T⟩
end W
open PySem PySem.W PySem.Calls PyProof.Rows
set_option maxRecDepth 100000 in
set_option maxHeartbeats 0 in
theorem PySem.Challenge.cw_seenshares_k05_place_holds : PySem.Challenge.rw_seenshares_k05_place.Holds := by
  w_on; o_law
  refine HandSHeadRun.head_any (r := OpenLaw.row PySem.Challenge.rw_seenshares_k05_place) (q := view (OpenLaw.row PySem.Challenge.rw_seenshares_k05_place).prog [23]) (H := _root_.W.hk) (ob := _root_.W.ob) (M := 3000)
    (loose := _root_.W.lo) (d := HandSHeadRun.topDef (OpenLaw.row PySem.Challenge.rw_seenshares_k05_place).prog 23) (kwd := []) _root_.W.ob_eq (by kernel_rfl) (fun s => by kernel_rfl) _root_.W.run
    (by kernel_rfl) (by kernel_rfl) (by kernel_rfl) (by rfl) (by first | assumption | decide +kernel) (by decide +kernel) ⟨rfl, rfl, rfl, rfl, rfl, by decide +kernel⟩ ?hw ?hc
  case hw => w_witness2
  case hc =>
    refine _root_.S.walk_X (l := PySem.Challenge.rw_seenshares_k05_place) (n := 63) (k := 6) (x := "_law_script") rfl (by decide) (by kernel_rfl) ⟨rfl, by decide, by decide⟩ ?F
    intro w mg fa h Y G hmg0
    obtain ⟨K, KX, c⟩ := Y
    have hmg : mg ("law" : PySem.Str) = some (.ref fa) := by
      have e : (HandSHeadRun.topDef (OpenLaw.row PySem.Challenge.rw_seenshares_k05_place).prog 23).name = ("law" : PySem.Str) := by kernel_rfl
      rw [← e]; exact hmg0
    obtain ⟨fd, hb, hF⟩ := _root_.W.facts (P := (PySem.Challenge.rw_seenshares_k05_place).prog) (w := w) KX G hmg c
    exact ⟨K, fd, _root_.W.spLaw K, KX, hb, fun H a ns hl hbits _ hS => ⟨_, rfl, a, ns, rfl, hS, hl, fun _ => rfl⟩, fun base _ _ => hF base⟩

