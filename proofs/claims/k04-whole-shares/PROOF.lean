import PyProof.Rows.All
import Wide.All
import OpenK.AllK
import Wide.FinOn
import KE.KStateDown
import Lean
import HandS.Base
import HandS.Call
import HandS.List
import HandS.Comp
import HandS.Ends
import HandS.Dict
import HandS.Iter
import HandS.Text
import HandS.More
import HandS.Exc
import HandS.FStr
import KE.KCallOwn
import KE.KOpsOwn
import HandS.ExcOwn
import HandS.TryOnly
import HandS.Words
import HandS.WordsList
import HandS.WordsDict
import HandS.WordsExc
import HandS.Defaults
import HandS.MakeKw
import HandS.IsInst
import HandS.Wide
import HandS.ExcInit
import HandS.ExcField
import HandS.ExcIs
import HandS.SlotsOwn
import HandS.NamedTupSort
import HandS.OwnEq
import HandS.EndBits
import HandS.Head0
import HandS.Head1
import HandS.Head2
import HandS.HeadEnd
import HandS.HeadHook1
import HandS.HeadHook2
import PySem.Challenge.RW_seenshares_k04_whole_shares_are_exact
set_option Elab.async false
set_option linter.all false
set_option maxRecDepth 100000
set_option maxHeartbeats 4000000
namespace S
open PySem PySem.Spec PyProof.Rows L2
/-! the head's facts as plain Bools over the written part -/
abbrev Frag := PySem.W.Frag
abbrev Ck := Frag → Bool
def obsX (ck : List Ck) (fn : List He.DefD) (K : Frag) : He.AlD :=
  (ck.all (fun c => c K) && fn.all (fun d => d.ok K), fn.map (fun d => He.fnW K d.at_))
def obsXG (n : Nat) (ck : List Ck) (fn : List He.DefD) (g : Addr → Option Obj) : He.AlD :=
  obsX ck fn (He.frG g (He.asD g n))
def SaysX (ck : List Ck) (fn : List He.DefD) (K : Frag) : Prop := obsX ck fn K = He.valD fn
def hookX (n : Nat) (ck : List Ck) (fn : List He.DefD) : PySem.W.Hook where
  α := He.AlD
  obs := fun s => obsXG n ck fn s.heap.get?
  val := fun _ => He.valD fn
  says := fun _ h => ∃ K : Frag, K.In h ∧ SaysX ck fn K
  of := fun _ _ e => ⟨_, He.frG_in, e⟩
  keeps := fun _ _ _ ⟨K, hK, c⟩ k => ⟨K, PySem.W.Frag.In.keeps hK k, c⟩
theorem obsXG_eq {n : Nat} {ck : List Ck} {fn : List He.DefD} {g : Addr → Option Obj} {s : Shared}
    (h : ∀ a, g a = s.heap.get? a) : obsXG n ck fn g = (hookX n ck fn).obs s := by
  have e : g = s.heap.get? := funext h
  subst e
  exact rfl
theorem SaysX.bools {ck : List Ck} {fn : List He.DefD} {K : Frag} (c : SaysX ck fn K) :
    (ck.all (fun c => c K) && fn.all (fun d => d.ok K)) = true := congrArg Prod.fst c
theorem SaysX.fact {ck : List Ck} {fn : List He.DefD} {K : Frag} (c : SaysX ck fn K) (i : Nat) {f : Ck}
    (h : ck[i]? = some f := by rfl) : f K = true :=
  List.all_eq_true.mp (He.ba c.bools).1 f (List.mem_of_getElem? h)
/-- the function object that stands there -/
def fdA (K : Frag) (p : Str × Option Str) : FuncData := match K.lookup (He.fAd K p) with
  | some ⟨_, _, .func fd, _⟩ => fd
  | _ => PySem.W.fnOf "" "" ⟨[], [], none, [], [], none, []⟩ [] ⟨.function, [], false, false, []⟩ .none .none .none .none none .none .none
abbrev FunA (K : Frag) (d : He.DefD) : Prop :=
  FunD K d.name d.qual d.params d.body d.scope (d.dvs K) (d.kws K) (He.fAd K d.at_) (fdA K d.at_)
theorem SaysX.def_ {ck : List Ck} {fn : List He.DefD} {K : Frag} (c : SaysX ck fn K) (i : Nat) {d : He.DefD}
    (h : fn[i]? = some d := by rfl) : FunA K d := by
  have e : fn.map (fun d => He.fnW K d.at_) = fn.map He.DefD.val := congrArg Prod.snd c
  have e2 := congrArg (fun l => l[i]?) e
  simp only [List.getElem?_map, h, Option.map_some, Option.some.injEq] at e2
  obtain ⟨fd, F⟩ := He.DefD.funD e2 (List.all_eq_true.mp (He.ba c.bools).2 d (List.mem_of_getElem? h))
  have q : fdA K d.at_ = fd := by
    obtain ⟨oc, od, dV, kV, doc, pm, an, cdv, ct, osl, r, lk, _⟩ := F.ex
    unfold fdA
    rw [lk]
  unfold FunA
  rw [q]
  exact F
/-! own exception classes, over ValueError at any depth -/
def oexO (K : Frag) (C : Addr) : Bool := (match K.lookup C with
  | some ⟨.type "type", _, .cls cd, sl⟩ => (match cd.mro, sl.toList with
    | .ref C' :: bm, [_, _, _, _, some (.builtin n), _] =>
      C' == C && (n == "ValueError.__new__" && (!cd.hasDel && (cd.hasDict && PySem.HandSPX.refsVE bm)))
    | _, _ => false)
  | _ => false)
theorem oexO_ok {K : Frag} {C : Addr} (q : oexO K C = true) :
    ∃ nm qn N bs bm sn sub ab col dd k0 k1 k2 k3 k5, K.lookup C = some (excClassObj nm qn C N bs bm true sn sub ab col dd k0 k1 k2 k3 k5 "ValueError.__new__") ∧ PySem.HandSPX.refsVE bm = true := by
  unfold oexO at q
  split at q
  · rename_i dd cd sl ho
    split at q
    · rename_i c1 bm k0 k1 k2 k3 n k5 hm hs
      simp only [Bool.and_eq_true, beq_iff_eq, Bool.not_eq_true'] at q
      obtain ⟨e1, e2, e3, e4, e5⟩ := q
      subst e1 e2
      obtain ⟨nm, bs, mro, ns, qn, hd, sn, sub, ab, col, dl⟩ := cd
      simp only at hm e3 e4
      subst hm e3 e4
      obtain ⟨l⟩ := sl
      simp only at hs
      subst hs
      exact ⟨nm, qn, ns, bs, bm, sn, sub, ab, col, dd, k0, k1, k2, k3, k5, ho, e5⟩
    · cases q
  · cases q
def oexB (K : Frag) (C : Addr) : Bool := oexO K C && (He.eqO (PySem.W.findIn K (.ref C) "__setattr__") (some (some (.builtin "object.__setattr__"))) &&
  (decide (PySem.W.subIn K (.ref C) (.type "BaseException") = some true) && (decide (PySem.W.typeIn K (.ref C) = some (.type "type")) && PySem.W.keepIn K (.ref C))))
theorem oexB_ok {K : Frag} {C : Addr} (q : oexB K C = true) : OexC K C := by
  obtain ⟨a, q⟩ := He.ba q
  obtain ⟨b, q⟩ := He.ba q
  obtain ⟨c, q⟩ := He.ba q
  obtain ⟨d, e⟩ := He.ba q
  exact ⟨oexO_ok a, He.eqO_ok b, of_decide_eq_true c, of_decide_eq_true d, e⟩
def excB (K : Frag) (D : Addr) : Bool := xfB K D && (He.eqO (PySem.W.findIn K (.ref D) "__class__") (some (some (.builtin "object.__class__"))) &&
  (He.eqO (PySem.W.specialIn K (.builtin "object.__class__") "__get__") (some (some (.builtin "getset_descriptor.__get__"))) &&
  (decide (PySem.W.takesIn K (.builtin "object.__class__") = some true) && decide (PySem.W.mroIn K D (.type "object") = some true))))
theorem excB_ok {K : Frag} {D : Addr} (q : excB K D = true) : ExcC K D := by
  obtain ⟨a, q⟩ := He.ba q
  obtain ⟨b, q⟩ := He.ba q
  obtain ⟨c, q⟩ := He.ba q
  obtain ⟨d, e⟩ := He.ba q
  have x := xfB_ok a
  exact ⟨x.ga, x.gg, x.exC, x.hdC, He.eqO_ok b, He.eqO_ok c, of_decide_eq_true d, of_decide_eq_true e⟩
end S
namespace S
open PySem PySem.Spec PyProof.Rows L2
/-! promises by their number of arguments -/
def Sp1 (f : V → Hp → VK → XK → Prop) : Sp := fun vs H Q E => ∃ x, vs = [x] ∧ f x H Q E
def Sp2 (f : V → V → Hp → VK → XK → Prop) : Sp := fun vs H Q E => ∃ x y, vs = [x, y] ∧ f x y H Q E
def Sp3 (f : V → V → V → Hp → VK → XK → Prop) : Sp := fun vs H Q E => ∃ x y z, vs = [x, y, z] ∧ f x y z H Q E
def Sp4 (f : V → V → V → V → Hp → VK → XK → Prop) : Sp := fun vs H Q E => ∃ x y z u, vs = [x, y, z, u] ∧ f x y z u H Q E
def Sp5 (f : V → V → V → V → V → Hp → VK → XK → Prop) : Sp := fun vs H Q E => ∃ x y z u v, vs = [x, y, z, u, v] ∧ f x y z u v H Q E
section
variable {vs : List V} {H : Hp} {Q : VK} {E : XK}
theorem splen1 {f} (h : Sp1 f vs H Q E) : vs.length = 1 := by obtain ⟨_, rfl, _⟩ := h; rfl
theorem splen2 {f} (h : Sp2 f vs H Q E) : vs.length = 2 := by obtain ⟨_, _, rfl, _⟩ := h; rfl
theorem splen3 {f} (h : Sp3 f vs H Q E) : vs.length = 3 := by obtain ⟨_, _, _, rfl, _⟩ := h; rfl
theorem splen4 {f} (h : Sp4 f vs H Q E) : vs.length = 4 := by obtain ⟨_, _, _, _, rfl, _⟩ := h; rfl
theorem splen5 {f} (h : Sp5 f vs H Q E) : vs.length = 5 := by obtain ⟨_, _, _, _, _, rfl, _⟩ := h; rfl
end
/-! built-ins by name -/
theorem boot_int : bootBuiltins "int" = some (.type "int") := by decide +kernel
theorem boot_bool : bootBuiltins "bool" = some (.type "bool") := by decide +kernel
theorem boot_str : bootBuiltins "str" = some (.type "str") := by decide +kernel
theorem boot_list : bootBuiltins "list" = some (.type "list") := by decide +kernel
theorem boot_tuple : bootBuiltins "tuple" = some (.type "tuple") := by decide +kernel
theorem boot_dict : bootBuiltins "dict" = some (.type "dict") := by decide +kernel
theorem boot_len : bootBuiltins "len" = some (.builtin "len") := by decide +kernel
theorem boot_abs : bootBuiltins "abs" = some (.builtin "abs") := by decide +kernel
theorem boot_isinstance : bootBuiltins "isinstance" = some (.builtin "isinstance") := by decide +kernel
section
variable {X : Cx} {CX : CXT} {k n : Nat} {f C : Addr} {fd : FuncData} {ps ks : List Str} {sp : Sp} {E : L2.St → XK} {x m : Str} {p pos apos : Pos} {o e : Expr} {es : List Expr} {kws : List Keyword} {ta : TE} {t tk : TA} {g : List Value → List Value → List Value} {gV : List V → List V → List V}
theorem pe_globI {i : Int} (hg : Gl X x) (h : ∃ t, X.mg x = some (.int i t)) (hd : (x == ("__debug__" : Str)) = false := by decide) : PE X (.Name x pos) (tC (.int i)) := by
  obtain ⟨t, h⟩ := h
  exact pe_glob hg h ⟨t, rfl⟩ hd
theorem pe_globS {z : Str} (hg : Gl X x) (h : ∃ t, X.mg x = some (.str z t)) (hd : (x == ("__debug__" : Str)) = false := by decide) : PE X (.Name x pos) (tC (.str z)) := by
  obtain ⟨t, h⟩ := h
  exact pe_glob hg h ⟨t, rfl⟩ hd
/-! what is raised, wished for at the slots -/
theorem pas0 {X : Cx} : ∀ σ : L2.St, PassesAt (L2.CX X.prog X.w) X σ E0 := fun σ pins H s e s' I c => passL pins σ H s e s' I c
theorem pasE {X : Cx} {W : WX} (tk : Takes X W) : ∀ σ : L2.St, PassesAt (L2.CX X.prog X.w) X σ (fun cls d H => W cls d σ H) := fun σ => passAt tk σ
theorem own_of {K : Value → Shared → Prop} {E1 : Value → Shared → Prop} (hx : X.xe = fun e s' => wpAny (model X.prog X.w) X.A (leaving X.env e) (fun _ s2 => K e s2) E1 s') : PassesOwn (model X.prog X.w) X.A X.env X.xe := passes_of hx
theorem kb_of_binds {K : Frag} {ds : List Value} {dvs : List V} (hb : Binds K fd ps ds) (hd : Vals dvs ds) (hl : n + dvs.length = ps.length) : KBn K fd ps n [] (fun us _ => us ++ ds) (fun vs _ => vs ++ dvs) where
  to := fun s us ws k l1 l2 => by
    have e : ([] : List Str).zip ws = [] := rfl
    rw [e]
    exact hb s us k (by rw [List.length_append, l1, ← hd.length]; exact hl)
  rel := fun r _ => r.append hd
/-! f(e, .., k = v, ..); C(e, .., k = v, ..); o.m(e, .., k = v, ..) -/
def tFnS (n m : Nat) (sp : Sp) (gV : List V → List V → List V) (E : L2.St → XK) (t tk : TA) : TE := fun σ H Q =>
  t σ H fun vs H1 => tk σ H1 fun zs H2 => vs.length = n ∧ zs.length = m ∧ sp (gV vs zs) H2 Q (E σ)
def tMkS (C : Addr) (n m : Nat) (sp : Sp) (gV : List V → List V → List V) (E : L2.St → XK) (t tk : TA) : TE := fun σ H Q =>
  t σ H fun vs H1 => tk σ H1 fun zs H2 => vs.length = n ∧ zs.length = m ∧ ∀ x dx, H2 x = none → H2 dx = none → dx ≠ x →
    sp (gV (.ref x :: vs) zs) (upd (upd H2 dx (.own x)) x (.ins C dx [])) (fun v H3 => v = .non ∧ Q (.ref x) H3) (E σ)
def tMtS (C : Addr) (m : Str) (n l : Nat) (sp : Sp) (gV : List V → List V → List V) (E : L2.St → XK) (ta : TE) (t tk : TA) : TE := fun σ H Q =>
  ta σ H fun x H1 => ∃ a dx fs, x = .ref a ∧ H1 a = some (.ins C dx fs) ∧ fs.lookup m = none ∧
    t σ H1 fun vs H2 => tk σ H2 fun zs H3 => vs.length = n ∧ zs.length = l ∧ sp (gV (x :: vs) zs) H3 Q (E σ)
section
variable {pins : List (Addr × Obj)} {σ : L2.St} {H : Hp} {s : Shared} {Q : VK} {us ws : List Value} {vs zs : List V}
theorem run_S (F : FnOk X.prog X.w X.K X.mg X.base CX k f fd ps sp) (hr : Room k X.A) (hb : KBn X.K fd ps n ks g gV) (hx : PassesAt CX X σ (E σ)) (I : Inv X pins σ H s) (r : Vals vs us) (rz : Vals zs ws)
    (l1 : vs.length = n) (l2 : zs.length = ks.length) (h : sp (gV vs zs) H Q (E σ)) : wpAny (model X.prog X.w) X.A (call (.ref f) us (ks.zip ws)) (EP X pins σ Q) X.xe s := by
  have a1 : us.length = n := r.length.symm.trans l1
  have a2 : ws.length = ks.length := rz.length.symm.trans l2
  refine wpAny_call (codeAny_mono (F.run X.A X.stack s H ⟨us, ks.zip ws⟩ (g us ws) (gV vs zs) Q (E σ) hr I.env0 (hb.to s us ws I.kIn a1 a2) (hb.rel r rz) h) fun r s' hq => ?_)
  match r, hq with
  | .error e, hq => exact hx pins H s e s' I hq
  | .ok (.ret u), hq => exact I.after hq
  | .ok .next, hq => exact hq.elim
  | .ok .brk, hq => exact hq.elim
  | .ok .cont, hq => exact hq.elim
theorem run_mkS (M : Mk X.K C f) (F : FnOk X.prog X.w X.K X.mg X.base CX k f fd ps sp) (hr : Room (k + 1) X.A) (hb : KBn X.K fd ps (n + 1) ks g gV) (hx : PassesAt CX X σ (E σ)) (I : Inv X pins σ H s) (r : Vals vs us) (rz : Vals zs ws)
    (l1 : vs.length = n) (l2 : zs.length = ks.length) (h : ∀ x dx, H x = none → H dx = none → dx ≠ x → sp (gV (.ref x :: vs) zs) (upd (upd H dx (.own x)) x (.ins C dx [])) (fun v H2 => v = .non ∧ Q (.ref x) H2) (E σ)) :
    wpAny (model X.prog X.w) X.A (call (.ref C) us (ks.zip ws)) (EP X pins σ Q) X.xe s := by
  have hq := h (s.heap.objs.size + 1) s.heap.objs.size (I.hok.fresh (Nat.le_succ _)) (I.hok.fresh (Nat.le_refl _)) (Nat.ne_of_lt (Nat.lt_succ_self _))
  have J := Inv.made (C := C) I
  have r1 : Vals (V.ref (s.heap.objs.size + 1) :: vs) (Value.ref (s.heap.objs.size + 1) :: us) := .cons rfl r
  have a1 : (Value.ref (s.heap.objs.size + 1) :: us).length = n + 1 := by rw [← r1.length]; exact congrArg Nat.succ l1
  have a2 : ws.length = ks.length := rz.length.symm.trans l2
  have run := F.run _ X.stack _ _ ⟨Value.ref (s.heap.objs.size + 1) :: us, ks.zip ws⟩ (g (Value.ref (s.heap.objs.size + 1) :: us) ws) _ _ (E σ) (hr.make C us (ks.zip ws)) (J.env0.make C us (ks.zip ws)) (hb.to _ _ ws J.kIn a1 a2) (hb.rel r1 rz) hq
  refine wpAny_call (make_map (f := f) I.kIn M.makes M.init (beq_iff_eq.mp M.fn) (codeAny_mono run fun r s' hq2 => ?_))
  match r, hq2 with
  | .error e, hq2 => exact hx pins _ _ e s' J hq2
  | .ok (.ret u), hq2 =>
    obtain ⟨v, H2, J2, rv, ev, q3⟩ := J.after hq2
    subst ev
    exact ⟨rv, ⟨V.ref (s.heap.objs.size + 1), H2, J2, rfl, q3⟩⟩
  | .ok .next, hq2 => exact hq2.elim
  | .ok .brk, hq2 => exact hq2.elim
  | .ok .cont, hq2 => exact hq2.elim
end
theorem pe_fnS (F : FnOk X.prog X.w X.K X.mg X.base CX k f fd ps sp) (hr : Room k X.A) (hg : Gl X x) (hm : X.mg x = some (.ref f)) (hk : PySem.W.keepIn X.K (.ref f) = true) (hb : KBn X.K fd ps n ks g gV) (hx : ∀ σ, PassesAt CX X σ (E σ))
    (ha : PA X (e :: es) t) (hkw : PK X kws tk) (hall : (backToKw pos (keywordEach kws X.env)).all (·.1.isSome) = true) (hks : (backToKw pos (keywordEach kws X.env)).filterMap (·.1) = ks)
    (hdb : (x == ("__debug__" : Str)) = false := by decide) (he : starEach (e :: es) X.env = (false, eval e X.env) :: starEach es X.env := by rfl)
    (hpl : ((backTo pos (starEach (e :: es) X.env)).any (·.1) || (backToKw pos (keywordEach kws X.env)).any (·.1.isNone)) = false := by rfl) :
    PE X (.Call (.Name x p) (e :: es) kws pos) (tFnS n ks.length sp gV E t tk) := ⟨fun pins s σ H Q I h =>
  wpAny_Call_Name_kw (ld_glob I hg hm (PySem.W.callWith_KW (h₀ := X.base) I.ok.mod.kin hk hall (thn (ha.run pos pins s σ H _ I h) fun us s1 ⟨vs, H1, I1, r, q⟩ =>
    thn (hkw.run pos pins s1 σ H1 _ I1 q) fun ws s2 ⟨zs, H2, I2, rz, l1, l2, q2⟩ => ⟨I2.kIn, by rw [hks]; exact run_S F hr hb (hx σ) I2 r rz l1 l2 q2⟩) hpl he) hdb)⟩
theorem pe_mkS (M : Mk X.K C f) (F : FnOk X.prog X.w X.K X.mg X.base CX k f fd ps sp) (hr : Room (k + 1) X.A) (hg : Gl X x) (hm : X.mg x = some (.ref C)) (hb : KBn X.K fd ps (n + 1) ks g gV) (hx : ∀ σ, PassesAt CX X σ (E σ))
    (ha : PA X (e :: es) t) (hkw : PK X kws tk) (hall : (backToKw pos (keywordEach kws X.env)).all (·.1.isSome) = true) (hks : (backToKw pos (keywordEach kws X.env)).filterMap (·.1) = ks)
    (hdb : (x == ("__debug__" : Str)) = false := by decide) (he : starEach (e :: es) X.env = (false, eval e X.env) :: starEach es X.env := by rfl)
    (hpl : ((backTo pos (starEach (e :: es) X.env)).any (·.1) || (backToKw pos (keywordEach kws X.env)).any (·.1.isNone)) = false := by rfl) :
    PE X (.Call (.Name x p) (e :: es) kws pos) (tMkS C n ks.length sp gV E t tk) := ⟨fun pins s σ H Q I h =>
  wpAny_Call_Name_kw (ld_glob I hg hm (PySem.W.callWith_KW (h₀ := X.base) I.ok.mod.kin M.kp hall (thn (ha.run pos pins s σ H _ I h) fun us s1 ⟨vs, H1, I1, r, q⟩ =>
    thn (hkw.run pos pins s1 σ H1 _ I1 q) fun ws s2 ⟨zs, H2, I2, rz, l1, l2, q2⟩ => ⟨I2.kIn, by rw [hks]; exact run_mkS M F hr hb (hx σ) I2 r rz l1 l2 q2⟩) hpl he) hdb)⟩
theorem pe_mtS {pl : Sem Bool} (he : PE X o ta) (c : Cls X.K C) (hm : Meth X.K C m f) (F : FnOk X.prog X.w X.K X.mg X.base CX k f fd ps sp) (hr : Room k X.A) (hb : KBn X.K fd ps (n + 1) ks g gV) (hx : ∀ σ, PassesAt CX X σ (E σ))
    (ha : PA X (e :: es) t) (hkw : PK X kws tk) (hall : (backToKw pos (keywordEach kws X.env)).all (·.1.isSome) = true) (hks : (backToKw pos (keywordEach kws X.env)).filterMap (·.1) = ks)
    (hst : starEach (e :: es) X.env = (false, eval e X.env) :: starEach es X.env := by rfl)
    (hpl : ((backTo pos (starEach (e :: es) X.env)).any (·.1) || (backToKw pos (keywordEach kws X.env)).any (·.1.isNone)) = false := by rfl)
    (ht : eval (.Call (.Attribute o m apos) (e :: es) kws pos) X.env = (do
      let ov ← eval o X.env
      standAt apos.atName
      let (f, first) ← holding [ov] (getMethod ov m pl)
      callWith pos f first (backTo pos (starEach (e :: es) X.env)) (backToKw pos (keywordEach kws X.env))) := by rfl) :
    PE X (.Call (.Attribute o m apos) (e :: es) kws pos) (tMtS C m n ks.length sp gV E ta t tk) := by
  refine ⟨fun pins s σ H Q I h => PySem.W.methodCall_KW (pl := pl) (thn (he.run pins s σ H _ I h) fun u s1 ⟨x, H1, I1, rx, a, dx, fs, ex, ea, l, q⟩ => ?_) ht⟩
  subst ex
  cases (show u = Value.ref a from rx)
  refine getmeth_ok I1 ea c hm l (PySem.W.callWith_KW (first := [.ref a]) (h₀ := X.base) I.ok.mod.kin hm.kp hall (thn (ha.run pos pins s1 σ H1 _ I1 q) fun us s2 ⟨vs, H2, I2, r, q2⟩ =>
    thn (hkw.run pos pins s2 σ H2 _ I2 q2) fun ws s3 ⟨zs, H3, I3, rz, l1, l2, q3⟩ => ⟨I3.kIn, ?_⟩) hpl hst)
  rw [hks]
  exact run_S (us := .ref a :: us) (vs := .ref a :: vs) F hr hb (hx σ) I3 (.cons rfl r) rz (congrArg Nat.succ l1) l2 q3
theorem pe_mtS0 {pl : Sem Bool} (he : PE X o ta) (c : Cls X.K C) (hm : Meth X.K C m f) (F : FnOk X.prog X.w X.K X.mg X.base CX k f fd ps sp) (hr : Room k X.A) (hb : KBn X.K fd ps (0 + 1) ks g gV) (hx : ∀ σ, PassesAt CX X σ (E σ))
    (hkw : PK X kws tk) (hall : (backToKw pos (keywordEach kws X.env)).all (·.1.isSome) = true) (hks : (backToKw pos (keywordEach kws X.env)).filterMap (·.1) = ks)
    (hpl : ((backTo pos (starEach [] X.env)).any (·.1) || (backToKw pos (keywordEach kws X.env)).any (·.1.isNone)) = false := by rfl)
    (ht : eval (.Call (.Attribute o m apos) [] kws pos) X.env = (do
      let ov ← eval o X.env
      standAt apos.atName
      let (f, first) ← holding [ov] (getMethod ov m pl)
      callWith pos f first (backTo pos (starEach [] X.env)) (backToKw pos (keywordEach kws X.env))) := by rfl) :
    PE X (.Call (.Attribute o m apos) [] kws pos) (tMtS C m 0 ks.length sp gV E ta tNil tk) := by
  refine ⟨fun pins s σ H Q I h => PySem.W.methodCall_KW (pl := pl) (thn (he.run pins s σ H _ I h) fun u s1 ⟨x, H1, I1, rx, a, dx, fs, ex, ea, l, q⟩ => ?_) ht⟩
  subst ex
  cases (show u = Value.ref a from rx)
  refine getmeth_ok I1 ea c hm l (PySem.W.callWith_KW0 (first := [.ref a]) (h₀ := X.base) I.ok.mod.kin hm.kp hall
    (thn (hkw.run pos pins s1 σ H1 _ I1 q) fun ws s3 ⟨zs, H3, I3, rz, l1, l2, q3⟩ => ⟨I3.kIn, ?_⟩) hpl)
  rw [hks]
  exact run_S (us := [.ref a]) (vs := [.ref a]) F hr hb (hx σ) I3 (.cons rfl .nil) rz rfl l2 q3
/-! raise C(e, ..), C with an own __init__ -/
theorem ps_raiseO {W : WX} {fI : Addr} {pos2 : Pos} (hc : X.calm = true) (tk : Takes X W) (T : OexC X.K C) (iC : PySem.W.findIn X.K (.ref C) "__init__" = some (some (.ref fI))) (tI : PySem.W.typeIn X.K (.ref fI) = some (.type "function"))
    (F : FnOk X.prog X.w X.K X.mg X.base (L2.CX X.prog X.w) k fI fd ps sp) (hr : Room (k + 1) X.A) (hb : KBn X.K fd ps n [] (fun us _ => us ++ []) (fun vs _ => vs ++ [])) (hg : Gl X x) (hm : X.mg x = some (.ref C)) (ha : PA X (e :: es) t)
    (hn : n = ps.length := by rfl)
    (hdb : (x == ("__debug__" : Str)) = false := by decide) (he : starEach (e :: es) X.env = (false, eval e X.env) :: starEach es X.env := by rfl) (hpl : (backTo pos (starEach es X.env)).any (·.1) = false := by rfl) :
    PS X (.Raise (some (.Call (.Name x p) (e :: es) [] pos)) none pos2) (fun _ σ H => tMkO C sp [] t σ H fun cls d H' => W cls d σ H') := by
  refine ps_raise hc tk (pmk_oex (ds := []) (dvs := []) T iC tI F hr (fun s us k hl => ?_) .nil passL hg hm ha hdb he hpl)
  exact hb.to s us [] k (by rw [List.append_nil] at hl; rw [hl, hn]) rfl
end
/-! isinstance of the caught error, with a dict of its own -/
section
open PySem.W PySem.Calls
variable {prog : Program} {w : World} {A : Around} {Ex : Value → Shared → Prop} {s : Shared} {K : Frag} {x D : Addr} {ox : Obj} {od : Option Obj}
theorem findObj_dataX {C : Addr} {name : Str} {a g : Value} {od : Option Obj} (hc : (clsIn K C).isSome = true) (ha : findIn K (.ref C) name = some (some a)) (hg : specialIn K a "__get__" = some (some g)) (ht : takesIn K a = some true) : findObj K C od name = some (.bind g a) := by
  obtain ⟨cd, hc⟩ := Option.isSome_iff_exists.mp hc
  unfold findObj
  simp [hc, ha, hg, ht]
theorem kin_classX (c : ExcC K D) {Q : Option Value → Shared → Prop} (X : K.In s.heap) (I : InstAt s.heap x ox D od) (h : Q (some (.ref D)) { s with toks := s.toks + 1 }) : wpAny (model prog w) A (getAttr? (.ref x) "__class__") Q Ex s := by
  have hf : findObj K D od "__class__" = some (.bind (.builtin "getset_descriptor.__get__") (.builtin "object.__class__")) :=
    findObj_dataX (by obtain ⟨cd, hc, _⟩ := any_some c.hd; rw [hc]; rfl) c.ha c.hn c.ht
  obtain ⟨hp, g, d, t, os⟩ := s
  have a0 := I.type (M := model prog w)
  have a1 := looks_findIn (M := model prog w) X c.hg
  have a2 := looks_findIn (M := model prog w) X c.hk
  have a3 := looks_find (M := model prog w) X I hf
  have sub : Looks (model prog w) hp (isInstance (.ref x) (.type "BaseException")) true := a0.andThen (looks_subIn X c.hs)
  have hx2 : (Value.builtin "BaseException.__getattribute__" == Value.builtin "object.__getattribute__") = false := by decide +kernel
  unfold getAttr? getAttrBy? getAttrBy
  refine wpAny_bind (wpAny_mkText (wpAny_bind (wpAny_attempt (wpAny_holding (wpAny_bind (a0.at (wpAny_bind (a1.at ?_))))))))
  have hx1 : (onTheHeap (Value.ref D) && Value.builtin "BaseException.__getattribute__" == Value.builtin "object.__getattribute__") = false := by
    rw [hx2]; rfl
  dsimp only
  rw [hx1, if_neg Bool.false_ne_true]
  unfold getAttrByItsOwn hookBefore
  refine wpAny_bind ?_
  rw [if_pos (show onTheHeap (Value.ref D) = true from rfl)]
  refine a2.at (wpAny_bind (wpAny_attempt (wpAny_holding ?_)))
  unfold callGetattribute
  have hx0 : ∀ z : Bool, (false && z) = false := fun _ => rfl
  rw [hx0, if_neg Bool.false_ne_true]
  unfold boundAndCalled
  rw [PySem.F.excAttr_ValueError.ga.bind (.ref x)]
  refine wpAny_bind (wpAny_pure ?_)
  refine wpAny_call (codeAny_call_builtin PySem.F.excAttr_ValueError.ga.plain PySem.F.entry_bexc_ga ?_)
  refine @check_slot (model prog w) _ _ ⟨hp, g, d, t + 1, os⟩ "BaseException.__getattribute__" "BaseException" "__getattribute__" (.ref x) [.str "__class__" t] [] _ (by decide +kernel) (by decide +kernel) sub (PySem.F.args_bexc_ga (.ref x) (.str "__class__" t)) ?_
  unfold Builtin.«object.__getattribute__»
  refine wpAny_bind (wpAny_of_eq (a := ((Value.ref x : Value), [Value.str "__class__" t])) (by first | rfl | (simp only [slotArgs]; rfl)) ?_)
  refine wpAny_bind (wpAny_pure (wpAny_bind (a0.at (wpAny_bind (a3.at ?_)))))
  refine wpAny_bind (wpAny_holding (wpAny_call (class_get (s := ⟨hp, g, d, t + 1, os⟩) (ox := ox) (od := od) X I c.hm ?_)))
  refine wpAny_pure ?_
  dsimp only
  rw [handedOut_of (v := .ref D) rfl]
  first
    | exact wpAny_pure (wpAny_pure h) | exact wpAny_pure h | exact wpAny_pure (wpAny_bind (wpAny_pure (wpAny_pure h)))
theorem kitx_excX (c : ExcC K D) : KitX K (.ref x) (.ref D) (fun h => InstAt h x ox D od) where
  ty := fun _ _ _ I => I.type
  it := fun _ _ X _ A' Q' E' s' k q => by
    obtain ⟨cd, hc, _⟩ := any_some c.hd
    unfold clsIn at hc
    split at hc
    · rename_i ho
      unfold isType loadHead
      exact wpAny_bind (wpAny_loadPart (k _ _ (X _ _ ho)) (wpAny_pure q))
    · cases hc
  ne := fun h tp dd its n sl X htp => (handS_kitx_exc (x := x) (ox := ox) c.hg c.hk c.hs c.hd c.ha c.hn c.ht c.hm).ne h tp dd its n sl X htp
  ca := fun X I k => kin_classX c X I k
end
/-- isinstance(e, c), e the error that the suite holds (class D, dict d) -/
def rIsX (K : Frag) (D a : Addr) (cls : Value) (d : Option Addr) : List V → Hp → VK → Prop := fun xs H Q => cls = .ref D ∧
  (d = none ∨ ∃ dd fs, d = some dd ∧ H dd = some (.xd fs)) ∧ ∃ (c : V) (cv : Value) (b : Bool), xs = [.ref a, c] ∧ ClsV c cv ∧ PySem.W.kitOne K (.ref D) cv = some b ∧ Q (.bl b) H
theorem call_isX {X : Cx} {a D : Addr} {oe : Obj} {cls : Value} {d : Option Addr} {pn : List (Addr × Obj)} (C : ExcC X.K D) (hz : Zc cls d oe) (hf : ∃ vs, oe.data = .fields vs) :
    CallR (X.suite a ((a, oe) :: pn)) (.builtin "isinstance") (rIsX X.K D a cls d) := by
  intro pins s σ H xs us Q I r h
  obtain ⟨ec, hd, c, cv, b, rfl, hcv, e, q⟩ := h
  obtain ⟨u1, u2, rfl, r1, r2⟩ := vals2 r
  cases (show u1 = Value.ref a from r1)
  cases hcv.eq r2
  obtain ⟨ha, _⟩ := I.pin (a, oe) (List.mem_append_left _ List.mem_cons_self)
  obtain ⟨vs, hv⟩ := hf
  have nc : PySem.W.notCls oe = true := by unfold PySem.W.notCls; rw [hv]
  obtain ⟨h1, h2⟩ := hz
  subst ec
  obtain ⟨od, J⟩ : ∃ od, PySem.W.InstAt s.heap a oe D od := by
    rcases hd with rfl | ⟨dd, fs, rfl, hx⟩
    · exact ⟨none, ha, h1, nc, by rw [h2]; trivial⟩
    · obtain ⟨mA, hns, _⟩ := (show ObjOk X.prog X.w H s.heap dd (.xd fs) from I.hok dd _ hx)
      obtain ⟨od, ho, _⟩ := lookIn_ns hns
      exact ⟨some od, ha, h1, nc, by rw [h2]; exact ho⟩
  exact PySem.W.kia_one (kitx_excX C) I.kIn J e (fun z => nomatch z) fun tk => ⟨.bl b, H, I.tok tk, rfl, q⟩
/-! an instance of an own class: what isinstance asks of its class -/
structure InsT (K : Frag) (C : Addr) : Prop where
  ha : PySem.W.findIn K (.ref C) "__class__" = some (some (.builtin "object.__class__"))
  hn : PySem.W.specialIn K (.builtin "object.__class__") "__get__" = some (some (.builtin "getset_descriptor.__get__"))
  ht : PySem.W.takesIn K (.builtin "object.__class__") = some true
  hm : PySem.W.mroIn K C (.type "object") = some true
def insB (K : Frag) (C : Addr) : Bool := He.eqO (PySem.W.findIn K (.ref C) "__class__") (some (some (.builtin "object.__class__"))) &&
  (He.eqO (PySem.W.specialIn K (.builtin "object.__class__") "__get__") (some (some (.builtin "getset_descriptor.__get__"))) &&
  (decide (PySem.W.takesIn K (.builtin "object.__class__") = some true) && decide (PySem.W.mroIn K C (.type "object") = some true)))
theorem insB_ok {K : Frag} {C : Addr} (q : insB K C = true) : InsT K C := by
  obtain ⟨b, q⟩ := He.ba q
  obtain ⟨c, q⟩ := He.ba q
  obtain ⟨d, e⟩ := He.ba q
  exact ⟨He.eqO_ok b, He.eqO_ok c, of_decide_eq_true d, of_decide_eq_true e⟩
theorem InsT.ty {K : Frag} {C a dx : Addr} {H : Hp} {fs : List (Str × V)} (i : InsT K C) (c : Cls K C) (h : H a = some (.ins C dx fs)) : TyX K H (.ref a) (.ref C) := .base (.ins h c i.ha i.hn i.ht i.hm)
/-! * where one factor is small, or both have less than a million bits together -/
def CMulA (i j : Int) : Prop := CMul i j ∨ CMulW i j
theorem op_mulA {X : Cx} : OpR X (binaryOp .Mult) (rI CMulA fun i j => .int (i * j)) := opI fun _ _ _ _ _ _ _ hc q =>
  hc.elim (fun h => mul_int q h.ok) (fun h => mul_int q h.ok)
/-- x is an int (no bool), or known to be none -/
inductive IsI (K : Frag) (H : Hp) : V → Bool → Prop where
  | int (i : Int) : IsI K H (.int i) true
  | bl (b : Bool) : IsI K H (.bl b) false
  | oth {x : V} {t : Value} (h : TyX K H x t) (e : PySem.W.kitOne K t (.type "int") = some false) : IsI K H x false
/-! the end of a law: a head by facts, the script's bits told -/
theorem walk_X {l : PySem.W.OpenLaw} {n k : Nat} {q : Program} {loose : List Str} {XP : (Str → Option Value) → Heap → Prop} {YP : World → Heap → Prop} {d : DefRec} {x : Str}
    (hn : l.most = some n) (hn2 : n ≤ sizeLine) (hdf : d.params.defaults = []) (hr : Room k callerA)
    (F : ∀ (w : World) (mg : Str → Option Value) (fa : Addr) (h : Heap), YP w h → h.Ns mainGlobals mg → mg d.name = some (.ref fa) →
      ∃ (K : Frag) (fd : FuncData) (sp : Sp), K.In h ∧ (∀ (s : Shared) (u : Value), BindsTo s fd ⟨[u], []⟩ [(x, u)]) ∧
        (∀ (H : Hp) (a : Addr) (ns : List Int), ns.length ≤ n → (∀ z ∈ ns, Builtin.Int.intBits z ≤ 1048576) → Only H → SqL K H a (ns.map V.int) → sp [.ref a] H (fun v _ => v = .bl true) E0) ∧
        ∀ base : Heap, K.In base → base.Ns mainGlobals mg → FnOk l.prog w K mg base (L2.CX l.prog w) k fa fd [x] sp) :
    PySem.W.WalkO q loose XP YP l.row.toRowW d [] (fun f vs => PySem.call f vs) := by
  refine Att.attach_callB hn hdf fun w s0 s1 mg mb fa o pm cd doc a vs ns G Y ho hd hcd hmg hobj hints hlen hbits hg => ?_
  obtain ⟨K, fd, sp, KX, hb, hsp, hF⟩ := F w mg fa _ Y G.T.g hmg
  refine law_call KX G.T.g G.T.b G.T.builtins G.T.nolimit hg hobj hints (Nat.le_trans hlen hn2) hr hF hb (fun H hO hS => hsp H a ns hlen hbits hO hS) fun H e s' c => ?_
  obtain ⟨_, _, _, _, _, _, _, _, _, _, _, _, z⟩ := c
  exact z
end S
namespace S
open PySem PySem.Spec PyProof.Rows L2
section
open PySem.W PySem.Calls
variable {prog : Program} {w : World} {A : Around} {Ex : Value → Shared → Prop} {s : Shared} {K : Frag} {x C f : Addr} {ox : Obj} {od : Option Obj} {b tb : Value}
/-- object.__ne__ over an own __eq__ that gives a bool -/
theorem objNe_K {Q : Fin → Shared → Prop} (hu : A.units < cLine) (X : K.In s.heap) (I : InstAt s.heap x ox C od) (hs : findIn K (.ref C) "__eq__" = some (some (.ref f))) (hf : isFn K (.ref f) = true)
    (h : wpAny (model prog w) A (call (.ref f) [.ref x, b]) (fun v s' => ∃ r, v = .bool r ∧ Q (.done (.ret (.bool (!r)))) s') Ex s) :
    wpAny (model prog w) A (Builtin.«object.__ne__» ⟨[.ref x, b], []⟩) Q Ex s := by
  unfold Builtin.«object.__ne__»
  refine wpAny_bind (wpAny_of_eq (a := ((Value.ref x : Value), [b])) (by first | rfl | (simp only [slotArgs]; rfl)) ?_)
  dsimp only
  refine wpAny_bind (wpAny_cRoomFor hu ?_)
  refine wpAny_bind (ifBound_K X I hs hf (wpAny_mono h (fun v s' hv => ?_) fun _ _ e => e))
  obtain ⟨r, rfl, q⟩ := hv
  dsimp only
  refine wpAny_bind (wpAny_truthy_bool ?_)
  first | exact wpAny_pure q | exact q
theorem ne_K {Q : Value → Shared → Prop} (hu : A.units + 1 < cLine) (X : K.In s.heap) (I : InstAt s.heap x ox C od) (hb : Looks (model prog w) s.heap (typeOf b) tb) (hn : notFirst K C tb = true)
    (hne : findIn K (.ref C) "__ne__" = some (some (.builtin "object.__ne__"))) (hm : mroIn K C (.type "object") = some true)
    (hs : findIn K (.ref C) "__eq__" = some (some (.ref f))) (hf : isFn K (.ref f) = true)
    (h : wpAny (model prog w) A.in1 (call (.ref f) [.ref x, b]) (fun v s' => ∃ r, v = .bool r ∧ Q (.bool (!r)) s') Ex s) : wpAny (model prog w) A (richCompare .NotEq (.ref x) b) Q Ex s := by
  have one : wpAny (model prog w) A (tryCompare (.ref x) "__ne__" b) (fun r s' => ∃ v, r = some v ∧ Q v s') Ex s := by
    unfold tryCompare
    refine wpAny_bind (NtL.csib (I.type.andThen (looks_findIn X hne)) (F.cmp_object.ne.bind _) ?_)
    refine wpAny_call (codeAny_call_builtin F.cmp_object.ne.plain F.cmpEntry_ne (check_slot F.cmpKind_ne F.cmpSplit_ne (I.type.andThen (looks_mroIn X hm)) (F.cmpArgs_ne _ _) ?_))
    refine objNe_K (A := A.in1) hu X I hs hf (wpAny_mono h (fun v s' hv => ?_) fun _ _ e => e)
    obtain ⟨r, rfl, q⟩ := hv
    exact ⟨r, rfl, wpAny_pure ⟨_, rfl, q⟩⟩
  unfold richCompare
  simp only [oneThing_ref]
  refine wpAny_holding (wpAny_bind (wpAny_cRoomFor (Nat.lt_of_succ_lt hu) ?_))
  rw [cmpInfo_NotEq]
  dsimp only
  refine wpAny_bind (I.type.here (wpAny_bind (hb.here ?_)))
  split
  · rename_i q
    have e : subIn K tb (.ref C) = some false := by
      rcases Bool.or_eq_true_iff.mp hn with e | e
      · rw [beq_iff_eq.mp e] at q
        simp at q
      · exact beq_iff_eq.mp e
    refine wpAny_bind ((looks_subIn X e).here ?_)
    simp only [Bool.false_eq_true, if_false]
    refine wpAny_bind (wpAny_mono one (fun r s' z => ?_) fun _ _ e => e)
    obtain ⟨v, rfl, hq⟩ := z
    exact wpAny_pure hq
  · refine wpAny_bind (wpAny_pure ?_)
    simp only [Bool.false_eq_true, if_false]
    refine wpAny_bind (wpAny_mono one (fun r s' z => ?_) fun _ _ e => e)
    obtain ⟨v, rfl, hq⟩ := z
    exact wpAny_pure hq
end
section
variable {X : Cx} {n : Nat} {C g : Addr} {sp : Sp}
/-- x op y by x's own method, both instances -/
def rOwnI (K : Frag) (C : Addr) (sp : Sp) : R2 := fun x y H Q => ∃ a dx fs b C' dy gs, x = .ref a ∧ y = .ref b ∧ H a = some (.ins C dx fs) ∧ H b = some (.ins C' dy gs) ∧ PySem.W.notFirst K C (.ref C') = true ∧ sp [x, y] H Q E0
theorem op_ownI {op : CmpOp} (hop : ∀ a b, compareOp op a b = richCompare op a b) (hs : PySem.W.findIn X.K (.ref C) (cmpInfo op).2.1 = some (some (.ref g))) (hf : PySem.W.isFn X.K (.ref g) = true)
    (F : FnR X.prog X.w X.K X.mg X.base (L2.CX X.prog X.w) n g sp) (hr : Room n X.A) : OpR X (compareOp op) (rOwnI X.K C sp) := by
  intro pins s σ H x y v u Q I rx ry h
  obtain ⟨a, dx, fs, b, C', dy, gs, rfl, rfl, ha, hb, hn, q⟩ := h
  cases (show v = Value.ref a from rx)
  cases (show u = Value.ref b from ry)
  obtain ⟨mA, O, _⟩ := ins_get I.hok ha
  obtain ⟨od, J, _⟩ := O.look
  obtain ⟨mB, O2, _⟩ := ins_get I.hok hb
  obtain ⟨od2, J2, _⟩ := O2.look
  obtain ⟨m, hF⟩ := I.fr
  rw [hop]
  refine PySem.W.cmp_K (op := op) (tb := .ref C') hr.units0 hF I.ok.mod.kin J J2.type hn hs hf ?_
  refine wpAny_mono (wpAny_call (run_fnR (us := [.ref a, .ref b]) (vs := [.ref a, .ref b]) F hr passL I (.cons rfl (.cons rfl .nil)) q)) (fun w s' z => ?_) fun _ _ x => x
  obtain ⟨z2, H2, I2, rz, qz⟩ := z
  exact SlX.cmpback rz ⟨z2, H2, I2, rz, qz⟩
/-- x != y by x's own == -/
def rNeI (K : Frag) (C : Addr) (sp : Sp) : R2 := fun x y H Q => ∃ a dx fs b C' dy gs, x = .ref a ∧ y = .ref b ∧ H a = some (.ins C dx fs) ∧ H b = some (.ins C' dy gs) ∧ PySem.W.notFirst K C (.ref C') = true ∧
  sp [x, y] H (fun z H2 => ∃ r, z = .bl r ∧ Q (.bl (!r)) H2) E0
theorem op_neI (hne : PySem.W.findIn X.K (.ref C) "__ne__" = some (some (.builtin "object.__ne__"))) (hm : PySem.W.mroIn X.K C (.type "object") = some true)
    (hs : PySem.W.findIn X.K (.ref C) "__eq__" = some (some (.ref g))) (hf : PySem.W.isFn X.K (.ref g) = true)
    (F : FnR X.prog X.w X.K X.mg X.base (L2.CX X.prog X.w) n g sp) (hr : Room (n + 1) X.A) : OpR X (compareOp .NotEq) (rNeI X.K C sp) := by
  intro pins s σ H x y v u Q I rx ry h
  obtain ⟨a, dx, fs, b, C', dy, gs, rfl, rfl, ha, hb, hn, q⟩ := h
  cases (show v = Value.ref a from rx)
  cases (show u = Value.ref b from ry)
  obtain ⟨mA, O, _⟩ := ins_get I.hok ha
  obtain ⟨od, J, _⟩ := O.look
  obtain ⟨mB, O2, _⟩ := ins_get I.hok hb
  obtain ⟨od2, J2, _⟩ := O2.look
  show wpAny _ _ (richCompare .NotEq (.ref a) (.ref b)) _ _ _
  refine ne_K (tb := .ref C') (hu_of hr) I.kIn J J2.type hn hne hm hs hf ?_
  refine wpAny_mono (wpAny_call (SlX.run_at (us := [.ref a, .ref b]) (ws := [.ref a, .ref b]) F hr.in1 I.env0.in1 passL I (.cons rfl (.cons rfl .nil)) q)) (fun w s' z => ?_) fun _ _ x => x
  obtain ⟨z2, H2, I2, rz, r, rfl, qz⟩ := z
  cases (show w = Value.bool r from rz)
  exact ⟨r, rfl, .bl (!r), H2, I2, rfl, qz⟩
theorem hop_eq : ∀ a b, compareOp .Eq a b = richCompare .Eq a b := fun _ _ => rfl
end
/-! keyword-only defaults and no others: f(e, .., k = v, ..) -/
theorem kbinds0 {K : Frag} {x qual : Str} {params : Arguments} {body : List Stmt} {scope : Scope} {kws : List (Str × V)} {f : Addr} {fd : FuncData} {ps : List Str} (F : FunD K x qual params body scope [] kws f fd) (n : Nat) (ks : List Str) (ms : List (Str × V))
    (g : {α : Type} → List α → List α → List α → List α) (hk : kws ≠ []) (hms : ∀ q ∈ ms, q ∈ kws)
    (hrel : ∀ {vs mz zs : List V} {us mv ws : List Value}, Vals vs us → Vals mz mv → Vals zs ws → Vals (g vs mz zs) (g us mv ws))
    (h : ∀ (D : Addr) (doc pm : Value) (an : Option Addr) (cdv ct : Value) (us mv ws : List Value), us.length = n → mv.length = ms.length → ws.length = ks.length →
      KwChain D ((ms.map (·.1)).zip mv) (bindArgs (PySem.W.fnOf x qual params body scope .none (.ref D) doc pm an cdv ct) ⟨us, ks.zip ws⟩) (ps.zip (g us mv ws))) :
    ∃ mv : List Value, KBn K fd ps n ks (fun us ws => g us mv ws) (fun vs zs => g vs (ms.map (·.2)) zs) := by
  obtain ⟨oc, od, dV, kV, doc, pm, an, cdv, ct, osl, rfl, lk, hcd, hD, hK⟩ := F.ex
  rcases hD with ⟨_, rfl⟩ | ⟨e, _⟩
  · rcases hK with e | ⟨D, rfl, hq⟩
    · exact absurd e hk
    · obtain ⟨mv, hl, rk, hks⟩ := kwd_vals (ms := ms) fun q hm => hq q (hms q hm)
      refine ⟨mv, ⟨fun s us ws X l1 l2 => BindsTo.of_looks fun M => KwChain.looks X hks (h D doc pm an cdv ct us mv ws l1 hl l2), fun r1 r2 => hrel r1 rk r2⟩⟩
  · exact absurd rfl e
/-! a block cut by a word: what follows is shown once -/
def tCut (t u : TS) : TS := fun D σ H => ∃ M : L2.St → Hp → Prop, t { D with nx := M } σ H ∧ ∀ τ J, M τ J → u D τ J
theorem pss_cut {X : Cx} {st : Stmt} {rest : List Stmt} {t u : TS} (h1 : PS X st t) (h2 : PSs X rest u) : PSs X (st :: rest) (tCut t u) :=
  ⟨fun pins s σ H D I ⟨M, hm, hu⟩ => wpAny_execs_cons (thn (h1.run pins s σ H { D with nx := M } I hm) fun f s1 q => by
    match f, q with
    | .next, ⟨τ, J, I2, q⟩ => exact h2.run pins s1 τ J D I2 (hu τ J q)
    | .ret v, q => exact q
    | .brk, q => exact q
    | .cont, q => exact q)⟩
/-! ways -/
theorem iteY {c A B : Prop} [Decidable c] (h : c) (a : A) : if c then A else B := by rw [if_pos h]; exact a
theorem iteN {c A B : Prop} [Decidable c] (h : ¬ c) (b : B) : if c then A else B := by rw [if_neg h]; exact b
theorem iteB {x : Bool} {A B : Prop} (h : if x then A else B) : if x = true then A else B := h
/-! small laws of heaps and fields -/
theorem putF_nil (f : Str) (v : V) : putF f v [] = [(f, v)] := rfl
theorem putF_cons_ne {f k : Str} {v u : V} {r : List (Str × V)} (h : ¬ k = f) : putF f v ((k, u) :: r) = (k, u) :: putF f v r := by
  show (if k = f then _ else _) = _
  rw [if_neg h]
theorem Same.new {H : Hp} {p : Addr} {o : HO} (h : H p = none) : Same H (upd H p o) := fun b u e => by
  rw [upd_ne (ne_of_none e h)]
  exact e
theorem Same.upd {H H' : Hp} {p : Addr} {o : HO} (e : Same H H') (h : H p = none) : Same H (L2.upd H' p o) := fun b u q => by
  rw [upd_ne (ne_of_none q h)]
  exact e b u q
/-! an own error with one field -/
/-- self.f = v in __init__ -/
def sp_err (C : Addr) (f : Str) : Sp := Sp2 fun x y H Q _ => ∃ a, x = .ref a ∧ H a = some (exo a C none) ∧ ∀ dx, H dx = none → dx ≠ a → Q .non (upd (upd H dx (exd dx [(f, y)])) a (exo a C (some dx)))
theorem raise_err {C : Addr} {f : Str} {t : TA} {σ : L2.St} {H : Hp} {Q : XK} (y : V)
    (k : ∀ d H', H d = none → Same H H' → H' d = some (.xd [(f, y)]) → Q (.ref C) (some d) H') (ht : ∀ R, R [y] H → t σ H R := by exact fun R r => r) : tMkO C (sp_err C f) [] t σ H Q := by
  refine ht _ ⟨by show 1 ≤ 1000; decide, fun a ha => ⟨_, _, rfl, a, rfl, upd_same, fun dx hdx hne => ⟨rfl, dx, [(f, y)], ?_, ?_, ?_, ?_⟩⟩⟩
  · exact upd_same
  · rw [upd_ne hne, upd_same]
  · rw [upd_ne hne] at hdx
    exact hdx
  · have h0 : H dx = none := by rw [upd_ne hne] at hdx; exact hdx
    refine k dx _ h0 (fun b o e => ?_) upd_same
    have n1 : b ≠ dx := ne_of_none e h0
    have n2 : b ≠ a := ne_of_none e ha
    rw [upd_ne n1, del_ne n2, upd_ne n2, upd_ne n1, upd_ne n2]
    exact e
/-! the law's own draws -/
/-- a cell is some integer of at least 0 -/
def spCellN (K : Frag) : Sp := Sp2 fun x y H Q _ => ∃ (a : Addr) (ns : List Int) (k : Int), x = .ref a ∧ y = .int k ∧ 0 ≤ k ∧ SqL K H a (ns.map V.int) ∧ ∀ n : Int, 0 ≤ n → Q (.int n) H
theorem int_at {ns : List Int} {k : Nat} (h : k < ns.length) : atI (ns.map V.int) ((k : Nat) : Int) = some (.int (ns.getD k 0)) := by
  refine atI_nat ?_
  rw [List.getElem?_map, List.getElem?_eq_getElem h, List.getD_eq_getElem?_getD, List.getElem?_eq_getElem h]
  rfl
theorem mul_small {i j : Int} (h : -(2 ^ 64) < j ∧ j < 2 ^ 64) : CMulA i j := .inl (.inr h)
theorem mul_smallL {i j : Int} (h : -(2 ^ 64) < i ∧ i < 2 ^ 64) : CMulA i j := .inl (.inl h)
theorem mod_small (x : Int) {m : Int} (h : 0 < m) (h2 : m < 2 ^ 64) : -(2 ^ 64) < x % m ∧ x % m < 2 ^ 64 := by
  have a := Int.emod_nonneg x (show m ≠ 0 by omega)
  have b := Int.emod_lt_of_pos x h
  omega
theorem mod_lo (x : Int) {m : Int} (h : 0 < m) : 0 ≤ x % m := Int.emod_nonneg x (by omega)
theorem mod_hi (x : Int) {m : Int} (h : 0 < m) : x % m < m := Int.emod_lt_of_pos x h
theorem div_small {i j : Int} (h : 0 < j) (h2 : j < 2 ^ 64) : CDivW i j := wide_div (b := 64) h (by omega) (by decide) (by decide)
end S
namespace S
open PySem PySem.Spec PyProof.Rows L2
/-! the rules that lean on the written part, with its own name -/
section
variable {X : Cx} {K : Frag}
theorem ixK (hK : X.K = K) : IxR X (rIx K) := hK ▸ ix_seq
theorem lenK (hK : X.K = K) : CallR X (.builtin "len") (rLen K) := hK ▸ call_len
theorem isiK (hK : X.K = K) : CallR X (.builtin "isinstance") (rIsi K) := hK ▸ call_isi
theorem isiTK (hK : X.K = K) : CallR X (.builtin "isinstance") (rIsiT K) := hK ▸ call_isiT
theorem inK (hK : X.K = K) : OpR X (compareOp .In) (rIn K false) := hK ▸ op_in_seq
theorem notInK (hK : X.K = K) : OpR X (compareOp .NotIn) (rIn K true) := hK ▸ op_notIn_seq
theorem eqDK (hK : X.K = K) (hu : X.A.units + 64 < cLine) : OpR X (compareOp .Eq) (rEqD K) := hK ▸ op_eqD hu
theorem neDK (hK : X.K = K) (hu : X.A.units + 64 < cLine) : OpR X (compareOp .NotEq) (rNeD K) := hK ▸ op_neD hu
theorem slLK (hK : X.K = K) : SlR X (rSlL K) := hK ▸ sl_list
theorem slTK (hK : X.K = K) : SlR X (rSlT K) := hK ▸ sl_tup
variable {e o l value tg a : Expr} {es : List Expr} {ta tv tl : TE} {f : Str} {pos pos' : Pos}
theorem pe_fldK (hK : X.K = K) (he : PE X e ta) (hb : attributeBase e f X.env (eval e X.env) = eval e X.env) : PE X (.Attribute e f pos) (tFld K ta f) := hK ▸ pe_fld he hb
theorem ps_fldK (hK : X.K = K) (ha : PE X o ta) (hv : PE X value tv) (hs : swapsWith value (some (.Attribute o f pos')) pos.line X.env = pure false) : PS X (.Assign [.Attribute o f pos'] value pos) (sFld K ta tv f) := hK ▸ ps_fld ha hv hs
theorem ps_ostK (hK : X.K = K) (ha : PE X o ta) (hv : PE X value tv) (hs : swapsWith value (some (.Attribute o f pos')) pos.line X.env = pure false) : PS X (.Assign [.Attribute o f pos'] value pos) (tOst K f ta tv) := hK ▸ ps_ost ha hv hs
theorem pe_slK (hK : X.K = K) (he : PE X e ta) (hb : attributeBase e f X.env (eval e X.env) = eval e X.env) : PE X (.Attribute e f pos) (SlX.tSl K ta f) := hK ▸ SlX.pe_sl he hb
theorem ps_slK (hK : X.K = K) (ha : PE X o ta) (hv : PE X value tv) (hs : swapsWith value (some (.Attribute o f pos')) pos.line X.env = pure false) : PS X (.Assign [.Attribute o f pos'] value pos) (SlX.sSl K ta tv f) := hK ▸ SlX.ps_sl ha hv hs
theorem pi_listK (hK : X.K = K) (hl : PE X l tl) : PI X tg l (iList K tl) := hK ▸ pi_list hl
theorem pi_tupK (hK : X.K = K) (hl : PE X l tl) : PI X tg l (iTup K tl) := hK ▸ pi_tup hl
def tTruK (K : Frag) (ta : TE) : TT := fun σ H Q => ta σ H fun x H' => ∃ k, TruV K x H' k ∧ Q k H'
theorem pt_truthK (hK : X.K = K) (ha : PE X a ta) (he : ∀ whole, isTrue a X.env whole = (do let v ← whole; standAt a.pos; holding [v] (truthy v))) : PT X a (tTruK K ta) := by
  subst hK
  exact pt_truth ha he
end
end S
namespace S
open PySem PySem.Spec PyProof.Rows L2
/-! flat data: None, bools, ints, texts -/
def sca : V → Bool
  | .non => true
  | .bl _ => true
  | .int _ => true
  | .str x => PyData.strOk x
  | _ => false
def dat : V → PyData
  | .bl b => .bool b
  | .int i => .int i
  | .str x => .str x
  | _ => .none
theorem dp_dat {K : Frag} {H : Hp} {v : V} (h : sca v = true) : Dp K H v (dat v) := by
  cases v with
  | non => exact .non
  | bl b => exact .bl b
  | int i => exact .int i
  | str x => exact .str x
  | _ => cases h
theorem dpAll_dat {K : Frag} {H : Hp} : ∀ {vs : List V}, vs.all sca = true → DpAll K H vs (vs.map dat)
  | [], _ => .nil
  | v :: vs, h => by
    rw [List.all_cons, Bool.and_eq_true] at h
    exact .cons (dp_dat h.1) (dpAll_dat h.2)
theorem lay_dat {v : V} (h : sca v = true) : (dat v).canLay0 = true := by
  cases v with
  | str x => simpa [dat, PyData.canLay0, sca] using h
  | _ => simp [dat, PyData.canLay0]
theorem layAll_dat : ∀ {vs : List V}, vs.all sca = true → PyData.canLayAll0 (vs.map dat) = true
  | [], _ => rfl
  | v :: vs, h => by
    rw [List.all_cons, Bool.and_eq_true] at h
    simp [PyData.canLayAll0, lay_dat h.1, layAll_dat h.2]
theorem depth_dat (v : V) : (dat v).depth = 0 := by cases v <;> simp [dat, PyData.depth]
theorem depthAll_dat : ∀ (vs : List V), PyData.depthAll (vs.map dat) = 0
  | [] => rfl
  | v :: vs => by simp [PyData.depthAll, depth_dat, depthAll_dat vs]
theorem shaped_list {vs : List V} (h : vs.all sca = true) : SeqAt.shaped (.list (vs.map dat)) = true := by
  simp [SeqAt.shaped, PyData.canLay0, layAll_dat h, PyData.depth, depthAll_dat]
theorem shaped_tup {vs : List V} (h : vs.all sca = true) : SeqAt.shaped (.tuple (vs.map dat)) = true := by
  simp [SeqAt.shaped, PyData.canLay0, layAll_dat h, PyData.depth, depthAll_dat]
theorem eqv_refl (v : V) : PyData.eqv (dat v) (dat v) = true := by cases v <;> simp [dat, PyData.eqv]
theorem eqvAll_refl : ∀ (vs : List V), PyData.eqvAll (vs.map dat) (vs.map dat) = true
  | [] => rfl
  | v :: vs => by simp [PyData.eqvAll, eqv_refl, eqvAll_refl vs]
theorem rEqL {K : Frag} {H : Hp} {a b : Addr} {xs ys : List V} {Q : VK} (ha : SqL K H a xs) (hb : SqL K H b ys) (hx : xs.all sca = true) (hy : ys.all sca = true) (q : Q (.bl (PyData.eqvAll (xs.map dat) (ys.map dat))) H) : rEqD K (.ref a) (.ref b) H Q :=
  ⟨_, _, .lst ha (dpAll_dat hx), .lst hb (dpAll_dat hy), shaped_list hx, shaped_list hy, by simpa only [PyData.eqv] using q⟩
theorem rEqT {K : Frag} {H : Hp} {a b : Addr} {xs ys : List V} {Q : VK} (ha : SqT K H a xs) (hb : SqT K H b ys) (hx : xs.all sca = true) (hy : ys.all sca = true) (q : Q (.bl (PyData.eqvAll (xs.map dat) (ys.map dat))) H) : rEqD K (.ref a) (.ref b) H Q :=
  ⟨_, _, .tup ha (dpAll_dat hx), .tup hb (dpAll_dat hy), shaped_tup hx, shaped_tup hy, by simpa only [PyData.eqv] using q⟩
theorem rEqL_true {K : Frag} {H : Hp} {a b : Addr} {xs : List V} {Q : VK} (ha : SqL K H a xs) (hb : SqL K H b xs) (hx : xs.all sca = true) (q : Q (.bl true) H) : rEqD K (.ref a) (.ref b) H Q := rEqL ha hb hx hx (by rw [eqvAll_refl]; exact q)
theorem rEqT_true {K : Frag} {H : Hp} {a b : Addr} {xs : List V} {Q : VK} (ha : SqT K H a xs) (hb : SqT K H b xs) (hx : xs.all sca = true) (q : Q (.bl true) H) : rEqD K (.ref a) (.ref b) H Q := rEqT ha hb hx hx (by rw [eqvAll_refl]; exact q)
/-- a def with all its parameters written, by positional values -/
theorem raw_of {P : Program} {w : World} {K : Frag} {mg : Str → Option Value} {base : Heap} {CX : CXT} {k n : Nat} {f : Addr} {fd : FuncData} {ps : List Str} {sp : Sp} (F : FnOk P w K mg base CX k f fd ps sp)
    (hb : KBn K fd ps n [] (fun us _ => us ++ []) (fun vs _ => vs ++ [])) (hn : n = ps.length := by rfl) : FnR P w K mg base CX k f sp := by
  refine (F.raw (ds := []) (dvs := []) (fun s us k hl => ?_) .nil).imp fun vs H Q E h => ?_
  · exact hb.to s us [] k (by rw [List.append_nil] at hl; rw [hl, hn]) rfl
  · rw [List.append_nil]
    exact h
theorem hu64 {A : Around} {k : Nat} (hr : Room k A) : A.units + 64 < cLine := by have := hr.un; omega
/-! a for over a text's signs -/
theorem for_str {x : Str} {g : TG} {tb : TS} {D : Ends} {σ : L2.St} {H : Hp} (Pv : Nat → L2.St → Hp → Prop) (h0 : Pv 0 σ H)
    (hs : ∀ i c σ H, x.cps[i]? = some c → Pv i σ H → g (.str ⟨#[c]⟩) σ H fun σ2 H2 => tb { D with nx := Pv (i + 1), ct := Pv (i + 1), bk := D.nx } σ2 H2) (hd : ∀ σ H, Pv x.cps.size σ H → D.nx σ H) :
    ∃ Z : Nat → Nat → L2.St → Hp → Prop, (∃ m, Z 0 m σ H) ∧ ∀ i m σ H, Z i m σ H →
      ((Its x).stop i H ∧ D.nx σ H) ∨ ((Its x).go i H ∧ ∃ N : L2.St → Hp → Prop, (∀ σ' H', N σ' H' → ∃ m', m' < m ∧ Z (i + 1) m' σ' H') ∧ ∀ v H', (Its x).yld i H v H' → g v σ H' fun σ2 H2 => tb { D with nx := N, ct := N, bk := D.nx } σ2 H2) := by
  refine ⟨fun i m σ H => m = x.cps.size - i ∧ i ≤ x.cps.size ∧ Pv i σ H, ⟨x.cps.size, by simp, Nat.zero_le _, h0⟩, ?_⟩
  rintro i m σ H ⟨rfl, hi, p⟩
  by_cases hlt : i < x.cps.size
  · refine .inr ⟨hlt, Pv (i + 1), fun σ' H' p' => ⟨x.cps.size - (i + 1), by omega, rfl, hlt, p'⟩, fun v H' y => ?_⟩
    obtain ⟨rfl, c, hc, rfl⟩ := y
    exact hs i c σ H' hc p
  · have e : i = x.cps.size := by omega
    subst e
    exact .inl ⟨Nat.le_refl _, hd σ H p⟩
end S
namespace S
open PySem PySem.Spec PyProof.Rows L2
/-! x in a list whose items' own == may make objects -/
section
open MeetsSeq MeetsSeq2 MeetsSeq3 SeqRoads2
variable {prog : Program} {w : World} {A : Around} {R : Result → Shared → Prop}
/-- at each turn the list is read anew: the items still to come; a hit ends the walk -/
def ContI (prog : Program) (w : World) (A : Around) (R : Result → Shared → Prop) (l : Addr) (x : Value) (N : Nat) (I : Nat → Shared → Prop) : Prop :=
  ∀ i s, I i s → ∃ (its : Array Value) (n : Nat), s.heap.get? l = some { cls := .type "list", data := .seq its n } ∧ its.size = N ∧
    ∀ h1 : i < its.size, wpAny (model prog w) A.in1 (eqBool its[i] x) (fun r s' => if r = true then R (.ok (.ret (.bool true))) s' else I (i + 1) s') (fun e s' => R (.error e) s') s
theorem cont_loop (l : Addr) (x : Value) (N : Nat) (I : Nat → Shared → Prop) (hl : ContI prog w A R l x N I) (fin : ∀ s, I N s → R (.ok (.ret (.bool false))) s) (k : Nat) :
    ∀ i : Nat, N - i = k → i ≤ N → ∀ s, I i s →
      wpAny (model prog w) A.in1 (Builtin.«list.__contains__.loop» ⟨[.ref l, x, rawInt i], []⟩) (GQ.FinOf prog w A R) (fun e s' => R (.error e) s') s := by
  induction k with
  | zero =>
    intro i hk hi s h
    obtain ⟨its, n, h1, hs, _⟩ := hl _ _ h
    have e : i = N := by omega
    have hR : R (.ok (.ret (.bool false))) s := fin s (e ▸ h)
    obtain ⟨hp, g, d, tk, os⟩ := s
    wp_walk using wpAny_loadPart' h1
    have hn : its[((i : Nat) : Int).toNat]? = none := by simp; omega
    rw [hn]
    wp_walk
    exact hR
  | succ k ih =>
    intro i hk hi s h
    obtain ⟨its, n, h1, hs, turn⟩ := hl _ _ h
    have hlt : i < its.size := by omega
    have ht := turn hlt
    obtain ⟨hp, g, d, tk, os⟩ := s
    wp_walk using wpAny_loadPart' h1
    have hn : its[((i : Nat) : Int).toNat]? = some its[i] := by simp [hlt]
    rw [hn]
    refine wpAny_bind (wpAny_mono ht (fun r s2 h2 => ?_) fun _ _ z => z)
    cases r with
    | true =>
      rw [if_pos rfl] at h2
      obtain ⟨hp2, g2, d2, tk2, os2⟩ := s2
      wp_walk
      exact h2
    | false =>
      rw [if_neg Bool.false_ne_true] at h2
      have hc : ((i : Int) + 1) = ((i + 1 : Nat) : Int) := by omega
      have hrec := ih (i + 1) (by omega) (by omega) s2 h2
      obtain ⟨hp2, g2, d2, tk2, os2⟩ := s2
      wp_walk
      rw [hc]
      exact ⟨plainId_quiet plain_contains_loop _, codeAny_builtin entry_contains_loop (by rw [Around.under_plainId plain_contains_loop _]; exact hrec)⟩
theorem cont_list (l : Addr) (x : Value) (N : Nat) (I : Nat → Shared → Prop) (hl : ContI prog w A R l x N I) (fin : ∀ s, I N s → R (.ok (.ret (.bool false))) s) {s : Shared} (h : I 0 s) :
    wpAny (model prog w) A.in1 (Builtin.«list.__contains__» ⟨[.ref l, x], []⟩) (GQ.FinOf prog w A R) (fun e s' => R (.error e) s') s := by
  obtain ⟨its, n, h1, hs, _⟩ := hl _ _ h
  have hrec := cont_loop (A := A) (R := R) l x N I hl fin _ 0 rfl (Nat.zero_le _) s h
  obtain ⟨hp, g, d, tk, os⟩ := s
  wp_walk using wpAny_loadPart' h1
  exact ⟨plainId_quiet plain_contains_loop _, codeAny_builtin entry_contains_loop (by rw [Around.under_plainId plain_contains_loop _]; exact hrec)⟩
theorem contains_G {E : Value → Shared → Prop} {s : Shared} {l : Addr} {x : Value} {N : Nat} {Q : Bool → Shared → Prop} (I : Nat → Shared → Prop)
    (hl : ContI prog w A (wants (fun v s' => ∃ b, v = .bool b ∧ Q b s') E) l x N I) (fin : ∀ s, I N s → Q false s) (h : I 0 s) : wpAny (model prog w) A (contains (.ref l) x) Q E s := by
  obtain ⟨its, n, h1, _⟩ := hl _ _ h
  refine wpAny_contains_slot (T := "list") ⟨_, h1, rfl⟩ F.slot_list_contains (wpAny_mono (GQ.call_here (Q := fun v s' => ∃ b, v = .bool b ∧ Q b s') F.slot_list_contains ⟨_, h1, rfl⟩ F.entry_list_contains (F.args_list_contains_2 _ _) ?_) (fun v s' hv => ?_) fun _ _ e => e)
  · exact cont_list l x N I hl (fun s' q => ⟨false, rfl, fin s' q⟩) h
  · obtain ⟨b, rfl, q⟩ := hv
    exact wpAny_truthy_bool q
end
section
variable {X : Cx} {n : Nat} {C g : Addr} {sp : Sp}
/-- x in y, y a list of instances of C that are compared by their own == : e b tells the answer for the item at b -/
def rInO (C : Addr) (sp : Sp) (neg : Bool) : R2 := fun x y H Q => ∃ (a l dx : Addr) (fs : List (Str × V)) (bs : List Addr) (e : Addr → Bool), x = .ref a ∧ y = .ref l ∧ H l = some (.lst (bs.map V.ref)) ∧ H a = some (.ins C dx fs) ∧
  (∀ b ∈ bs, ∃ dy gs, H b = some (.ins C dy gs)) ∧ (∀ b ∈ bs, ∀ H1, Same H H1 → ∀ Z : VK, (∀ H2, Same H1 H2 → Z (.bl (e b)) H2) → sp [.ref b, .ref a] H1 Z E0) ∧
  ∀ H', Same H H' → Q (.bl (if neg then !(bs.any fun b => decide (b = a) || e b) else bs.any fun b => decide (b = a) || e b)) H'
theorem contO (hs : PySem.W.findIn X.K (.ref C) "__eq__" = some (some (.ref g))) (hf : PySem.W.isFn X.K (.ref g) = true) (F : FnR X.prog X.w X.K X.mg X.base (L2.CX X.prog X.w) n g sp) (hr : Room (n + 1) X.A)
    {pins : List (Addr × Obj)} {s : Shared} {σ : L2.St} {H : Hp} {a l dx : Addr} {fs : List (Str × V)} {bs : List Addr} {e : Addr → Bool} (I : Inv X pins σ H s) (hl : H l = some (.lst (bs.map V.ref))) (ha : H a = some (.ins C dx fs))
    (hb : ∀ b ∈ bs, ∃ dy gs, H b = some (.ins C dy gs)) (hsp : ∀ b ∈ bs, ∀ H1, Same H H1 → ∀ Z : VK, (∀ H2, Same H1 H2 → Z (.bl (e b)) H2) → sp [.ref b, .ref a] H1 Z E0) {Q : Bool → Shared → Prop}
    (q : ∀ s' H', Inv X pins σ H' s' → Same H H' → Q (bs.any fun b => decide (b = a) || e b) s') : wpAny (model X.prog X.w) X.A (contains (.ref l) (.ref a)) Q X.xe s := by
  refine contains_G (N := bs.length) (fun i s' => ∃ H1, Inv X pins σ H1 s' ∧ Same H H1 ∧ (bs.take i).any (fun b => decide (b = a) || e b) = false) ?_ ?_ ⟨H, I, fun _ _ z => z, rfl⟩
  · rintro i s1 ⟨H1, I1, sm, no⟩
    obtain ⟨hz, its, m, rv, hg⟩ := (show ObjOk X.prog X.w H1 s1.heap l (.lst (bs.map V.ref)) from I1.hok l _ (sm _ _ hl))
    have hlen : its.length = bs.length := by rw [← rv.length, List.length_map]
    refine ⟨its.toArray, m, hg, by simp [hlen], fun h1 => ?_⟩
    have hi : i < bs.length := by simpa [hlen] using h1
    obtain ⟨u, hu, ru⟩ := rv.get (i := i) (x := .ref bs[i]) (by simp [hi])
    have eu : its.toArray[i] = Value.ref bs[i] := by
      have : its[i]? = some (Value.ref bs[i]) := by rw [hu]; exact congrArg some ru
      have h2 : i < its.length := by omega
      rw [List.getElem?_eq_getElem h2] at this
      simpa using Option.some.inj this
    rw [eu]
    have mem : bs[i] ∈ bs := List.getElem_mem hi
    have step : ∀ r : Bool, (decide (bs[i] = a) || e bs[i]) = r → ∀ s2 H2, Inv X pins σ H2 s2 → Same H H2 → (if r = true then wants (fun v s' => ∃ b, v = .bool b ∧ Q b s') X.xe (.ok (.ret (.bool true))) s2 else ∃ H1, Inv X pins σ H1 s2 ∧ Same H H1 ∧ (bs.take (i + 1)).any (fun b => decide (b = a) || e b) = false) := by
      intro r er s2 H2 I2 sm2
      have tk : bs.take (i + 1) = bs.take i ++ [bs[i]] := by rw [List.take_succ, List.getElem?_eq_getElem hi]; rfl
      cases r with
      | true =>
        rw [if_pos rfl]
        refine ⟨true, rfl, ?_⟩
        have hq := q s2 H2 I2 sm2
        rw [show (bs.any fun b => decide (b = a) || e b) = true from List.any_eq_true.mpr ⟨_, mem, er⟩] at hq
        exact hq
      | false =>
        rw [if_neg Bool.false_ne_true]
        refine ⟨H2, I2, sm2, ?_⟩
        rw [tk, List.any_append, no, List.any_cons, er]
        rfl
    by_cases hab : bs[i] = a
    · rw [hab]
      exact SeqAt.EqAt.same (A := X.A.in1) (s := s1) (.ref a) X.prog X.w _ _ (step true (by simp [hab]) s1 H1 I1 sm)
    · obtain ⟨dy, gs, hbi⟩ := hb _ mem
      refine GQ.eqBool_refG hab ?_
      obtain ⟨mA, O, _⟩ := ins_get I1.hok (sm _ _ hbi)
      obtain ⟨od, J, _⟩ := O.look
      obtain ⟨mB, O2, _⟩ := ins_get I1.hok (sm _ _ ha)
      obtain ⟨od2, J2, _⟩ := O2.look
      obtain ⟨m2, hF⟩ := I1.fr
      refine PySem.W.cmp_K (op := .Eq) (tb := .ref C) hr.in1.units0 hF I1.ok.mod.kin J J2.type (by simp [PySem.W.notFirst]) hs hf ?_
      refine wpAny_mono (wpAny_call (SlX.run_at (us := [.ref bs[i], .ref a]) (ws := [.ref bs[i], .ref a]) (Q := fun z H2 => z = .bl (e bs[i]) ∧ Same H1 H2) F hr.in1 I1.env0.in1 passL I1 (.cons rfl (.cons rfl .nil)) (hsp _ mem H1 sm _ fun H2 s2 => ⟨rfl, s2⟩))) (fun z s2 hz2 => ?_) fun _ _ x => x
      obtain ⟨z2, H2, I2, rz, rfl, sm2⟩ := hz2
      cases (show z = Value.bool (e bs[i]) from rz)
      exact ⟨e bs[i], rfl, step _ (by simp [hab]) s2 H2 I2 (sm.trans sm2)⟩
  · rintro s1 ⟨H1, I1, sm, no⟩
    have hq := q s1 H1 I1 sm
    rw [List.take_length] at no
    rw [no] at hq
    exact hq
theorem op_inO (hs : PySem.W.findIn X.K (.ref C) "__eq__" = some (some (.ref g))) (hf : PySem.W.isFn X.K (.ref g) = true) (F : FnR X.prog X.w X.K X.mg X.base (L2.CX X.prog X.w) n g sp) (hr : Room (n + 1) X.A) : OpR X (compareOp .In) (rInO C sp false) := by
  intro pins s σ H x y v u Q I rx ry h
  obtain ⟨a, l, dx, fs, bs, e, rfl, rfl, hl, ha, hb, hsp, q⟩ := h
  cases (show v = Value.ref a from rx)
  cases (show u = Value.ref l from ry)
  show wpAny _ _ (do return Value.bool (← contains (.ref l) (.ref a))) _ _ _
  exact wpAny_bind (contO hs hf F hr I hl ha hb hsp fun s' H' I' sm => wpAny_pure ⟨.bl _, H', I', rfl, q H' sm⟩)
theorem op_notInO (hs : PySem.W.findIn X.K (.ref C) "__eq__" = some (some (.ref g))) (hf : PySem.W.isFn X.K (.ref g) = true) (F : FnR X.prog X.w X.K X.mg X.base (L2.CX X.prog X.w) n g sp) (hr : Room (n + 1) X.A) : OpR X (compareOp .NotIn) (rInO C sp true) := by
  intro pins s σ H x y v u Q I rx ry h
  obtain ⟨a, l, dx, fs, bs, e, rfl, rfl, hl, ha, hb, hsp, q⟩ := h
  cases (show v = Value.ref a from rx)
  cases (show u = Value.ref l from ry)
  show wpAny _ _ (do return Value.bool (!(← contains (.ref l) (.ref a)))) _ _ _
  exact wpAny_bind (contO hs hf F hr I hl ha hb hsp fun s' H' I' sm => wpAny_pure ⟨.bl _, H', I', rfl, q H' sm⟩)
end
end S
namespace S
open PySem PySem.Spec PyProof.Rows L2
/-! ### classes with slots -/
/-- the descriptor of a slot -/
def slA (K : Frag) (C : Addr) (f : Str) : Addr := match PySem.W.findIn K (.ref C) f with | some (some (.ref p)) => p | _ => 0
def sclB (K : Frag) (C : Addr) : Bool := PySem.W.plainGet K C Str.empty && (PySem.W.isClsIn K C && (PySem.W.plainOver K C && He.eqO (PySem.W.findIn K (.ref C) "__setattr__") (some (some (.builtin "object.__setattr__")))))
theorem sclB_ok {K : Frag} {C : Addr} (q : sclB K C = true) : SlX.SCls K C := by
  obtain ⟨a, q⟩ := He.ba q
  obtain ⟨b, q⟩ := He.ba q
  obtain ⟨c, d⟩ := He.ba q
  exact ⟨a, b, c, He.eqO_ok d⟩
theorem sisB_ok {K : Frag} {C : Addr} (q : insB K C = true) : SlX.SIsi K C := let i := insB_ok q; ⟨i.ha, i.hn, i.ht, i.hm⟩
def sltB (K : Frag) (C : Addr) (f : Str) (i : Nat) : Bool := He.eqO (PySem.W.findIn K (.ref C) f) (some (some (.ref (slA K C f)))) && (He.eqO (PySem.W.specialIn K (.ref (slA K C f)) "__get__") (some (some (.builtin "member_descriptor.__get__"))) &&
  (decide (PySem.W.takesIn K (.ref (slA K C f)) = some true) && (decide (PySem.W.typeIn K (.ref (slA K C f)) = some (.type "member_descriptor")) && decide (PySem.W.slotIn K (slA K C f) C = some i))))
theorem sltB_ok {K : Frag} {C : Addr} {f : Str} {i : Nat} (hi : i < 1000) (q : sltB K C f i = true) : SlX.Slot1 K C f (slA K C f) i := by
  obtain ⟨a, q⟩ := He.ba q
  obtain ⟨b, q⟩ := He.ba q
  obtain ⟨c, q⟩ := He.ba q
  obtain ⟨d, e⟩ := He.ba q
  exact ⟨He.eqO_ok a, He.eqO_ok b, of_decide_eq_true c, of_decide_eq_true d, of_decide_eq_true e, hi⟩
section
variable {X : Cx} {CX : CXT} {k n : Nat} {f C : Addr} {fd : FuncData} {ps ks : List Str} {sp : Sp} {E : L2.St → XK} {m : Str} {pos apos : Pos} {o e : Expr} {es : List Expr} {kws : List Keyword} {ta : TE} {t tk : TA} {g : List Value → List Value → List Value} {gV : List V → List V → List V}
def tMtL (C : Addr) (n l : Nat) (sp : Sp) (gV : List V → List V → List V) (E : L2.St → XK) (ta : TE) (t tk : TA) : TE := fun σ H Q =>
  ta σ H fun x H1 => ∃ a dx fs, x = .ref a ∧ SlX.Slt H1 a C dx fs ∧
    t σ H1 fun vs H2 => tk σ H2 fun zs H3 => vs.length = n ∧ zs.length = l ∧ sp (gV (x :: vs) zs) H3 Q (E σ)
theorem pe_mtL {pl : Sem Bool} (he : PE X o ta) (c : SlX.SCls X.K C) (hm : Meth X.K C m f) (F : FnOk X.prog X.w X.K X.mg X.base CX k f fd ps sp) (hr : Room k X.A) (hb : KBn X.K fd ps (n + 1) ks g gV) (hx : ∀ σ, PassesAt CX X σ (E σ))
    (ha : PA X (e :: es) t) (hkw : PK X kws tk) (hall : (backToKw pos (keywordEach kws X.env)).all (·.1.isSome) = true) (hks : (backToKw pos (keywordEach kws X.env)).filterMap (·.1) = ks)
    (hst : starEach (e :: es) X.env = (false, eval e X.env) :: starEach es X.env := by rfl)
    (hpl : ((backTo pos (starEach (e :: es) X.env)).any (·.1) || (backToKw pos (keywordEach kws X.env)).any (·.1.isNone)) = false := by rfl)
    (ht : eval (.Call (.Attribute o m apos) (e :: es) kws pos) X.env = (do
      let ov ← eval o X.env
      standAt apos.atName
      let (f, first) ← holding [ov] (getMethod ov m pl)
      callWith pos f first (backTo pos (starEach (e :: es) X.env)) (backToKw pos (keywordEach kws X.env))) := by rfl) :
    PE X (.Call (.Attribute o m apos) (e :: es) kws pos) (tMtL C n ks.length sp gV E ta t tk) := by
  refine ⟨fun pins s σ H Q I h => PySem.W.methodCall_KW (pl := pl) (thn (he.run pins s σ H _ I h) fun u s1 ⟨x, H1, I1, rx, a, dx, fs, ex, ea, q⟩ => ?_) ht⟩
  subst ex
  cases (show u = Value.ref a from rx)
  refine SlX.getmethsl_ok I1 ea c hm (PySem.W.callWith_KW (first := [.ref a]) (h₀ := X.base) I.ok.mod.kin hm.kp hall (thn (ha.run pos pins s1 σ H1 _ I1 q) fun us s2 ⟨vs, H2, I2, r, q2⟩ =>
    thn (hkw.run pos pins s2 σ H2 _ I2 q2) fun ws s3 ⟨zs, H3, I3, rz, l1, l2, q3⟩ => ⟨I3.kIn, ?_⟩) hpl hst)
  rw [hks]
  exact run_S (us := .ref a :: us) (vs := .ref a :: vs) F hr hb (hx σ) I3 (.cons rfl r) rz (congrArg Nat.succ l1) l2 q3
theorem pe_mtL0 {pl : Sem Bool} (he : PE X o ta) (c : SlX.SCls X.K C) (hm : Meth X.K C m f) (F : FnOk X.prog X.w X.K X.mg X.base CX k f fd ps sp) (hr : Room k X.A) (hb : KBn X.K fd ps (0 + 1) ks g gV) (hx : ∀ σ, PassesAt CX X σ (E σ))
    (hkw : PK X kws tk) (hall : (backToKw pos (keywordEach kws X.env)).all (·.1.isSome) = true) (hks : (backToKw pos (keywordEach kws X.env)).filterMap (·.1) = ks)
    (hpl : ((backTo pos (starEach [] X.env)).any (·.1) || (backToKw pos (keywordEach kws X.env)).any (·.1.isNone)) = false := by rfl)
    (ht : eval (.Call (.Attribute o m apos) [] kws pos) X.env = (do
      let ov ← eval o X.env
      standAt apos.atName
      let (f, first) ← holding [ov] (getMethod ov m pl)
      callWith pos f first (backTo pos (starEach [] X.env)) (backToKw pos (keywordEach kws X.env))) := by rfl) :
    PE X (.Call (.Attribute o m apos) [] kws pos) (tMtL C 0 ks.length sp gV E ta tNil tk) := by
  refine ⟨fun pins s σ H Q I h => PySem.W.methodCall_KW (pl := pl) (thn (he.run pins s σ H _ I h) fun u s1 ⟨x, H1, I1, rx, a, dx, fs, ex, ea, q⟩ => ?_) ht⟩
  subst ex
  cases (show u = Value.ref a from rx)
  refine SlX.getmethsl_ok I1 ea c hm (PySem.W.callWith_KW0 (first := [.ref a]) (h₀ := X.base) I.ok.mod.kin hm.kp hall
    (thn (hkw.run pos pins s1 σ H1 _ I1 q) fun ws s3 ⟨zs, H3, I3, rz, l1, l2, q3⟩ => ⟨I3.kIn, ?_⟩) hpl)
  rw [hks]
  exact run_S (us := [.ref a]) (vs := [.ref a]) F hr hb (hx σ) I3 (.cons rfl .nil) rz rfl l2 q3
end
/-! str(x) by the class's own def -/
section
variable {X : Cx} {C g : Addr} {n : Nat} {sp : Sp}
def rStrL (C : Addr) (sp : Sp) : List V → Hp → VK → Prop := fun xs H Q => ∃ a dx vs, xs = [V.ref a] ∧ SlX.Slt H a C dx vs ∧ sp [.ref a] H (fun z H' => ∃ y, z = .str y ∧ Q z H') E0
theorem call_strL (hs : PySem.W.findIn X.K (.ref C) "__str__" = some (some (.ref g))) (hf : PySem.W.isFn X.K (.ref g) = true) (F : FnR X.prog X.w X.K X.mg X.base (L2.CX X.prog X.w) n g sp) (hr : Room (n + 2) X.A) : CallR X (.type "str") (rStrL C sp) := by
  intro pins s σ H xs us Q I r h
  obtain ⟨a, dx, vs, rfl, hsl, q⟩ := h
  obtain ⟨u, rfl, ru⟩ := r.one
  cases (show u = Value.ref a from ru)
  obtain ⟨sl, od, _, J, _⟩ := SlX.slt_inst I hsl
  have hr2 : Room n X.A.in1.in1 := (show Room (n + 1) X.A.in1 from Room.in1 hr).in1
  refine PySem.W.kso_call hr2.units0 I.kIn J hs hf (wpAny_mono (wpAny_call (SlX.run_at (us := [.ref a]) (ws := [.ref a]) F hr2 I.env0.in1.in1 passL I (.cons rfl .nil) q)) (fun w s' z => ?_) fun _ _ x => x)
  obtain ⟨z', H', I', rz, y, ey, qz⟩ := z
  subst ey
  obtain ⟨t, e⟩ := (show ∃ t, w = Value.str y t from rz)
  cases e
  exact ⟨.str y, H', I', ⟨t, rfl⟩, qz⟩
end
/-! isinstance of an instance with slots, or of another thing -/
section
variable {X : Cx} {K : Frag}
theorem call_or {v : Value} {r1 r2 : List V → Hp → VK → Prop} (h1 : CallR X v r1) (h2 : CallR X v r2) : CallR X v (fun xs H Q => r1 xs H Q ∨ r2 xs H Q) := by
  intro pins s σ H xs us Q I r h
  rcases h with h | h
  · exact h1 pins s σ H xs us Q I r h
  · exact h2 pins s σ H xs us Q I r h
theorem isiLK (hK : X.K = K) (C : Addr) : CallR X (.builtin "isinstance") (SlX.rIsiSl K (.ref C)) := hK ▸ SlX.call_isiSl (.ref C)
theorem isi2K (hK : X.K = K) (C : Addr) : CallR X (.builtin "isinstance") (fun xs H Q => SlX.rIsiSl K (.ref C) xs H Q ∨ rIsi K xs H Q) := call_or (isiLK hK C) (isiK hK)
end
end S
namespace S
open PySem PySem.Spec PyProof.Rows L2
/-! ### + - * // of own instances with slots, among themselves and with ints -/
theorem ps_never {X : Cx} {st : Stmt} : PS X st (fun _ _ _ => False) := ⟨fun _ _ _ _ _ _ h => h.elim⟩
section
open PySem.W PySem.Calls
variable {prog : Program} {w : World} {A : Around} {E : Value → Shared → Prop} {s : Shared} {K : Frag} {x C f f0 : Addr} {ox : Obj} {od : Option Obj}
/-- at x stands no int -/
def NoInt (x : Addr) (s : Shared) : Prop := ∃ o : Obj, s.heap.get? x = some o ∧ ∀ i t, o.data ≠ .prim (.int i t)
theorem asInt_no {M : Model} {A : Around} {E : Value → Shared → Prop} {s : Shared} {x : Addr} {Q : Option Int → Shared → Prop} (h : NoInt x s) (q : Q none s) : wpAny M A (asInt? (.ref x)) Q E s := by
  obtain ⟨o, ho, hn⟩ := h
  show wpAny M A (load x >>= _) Q E s
  refine wpAny_bind (wpAny_load ho ?_)
  split
  · rename_i i t e
    exact absurd e (hn i t)
  · exact wpAny_pure q
theorem decl_bin {prog : Program} {w : World} {A : Around} {R : Result → Shared → Prop} {s : Shared} {name : String} {f : Int → Int → Sem Fin} {a : Int} {t : Tok} {x : Addr} (h : NoInt x s) (q : R (.ok (.ret .notImplemented)) s) :
    wpAny (model prog w) A.in1 (Builtin.Int.intBinary name f false ⟨[.int a t, .ref x], []⟩) (fun fin s' => match fin with | .done f => R (.ok f) s' | .again c' => c'.quiet = true ∧ codeAny (model prog w) A c' R s') (fun e s' => R (.error e) s') s := by
  unfold Builtin.Int.intBinary
  refine wpAny_bind (wpAny_of_eq (a := (.int a t, [.ref x])) rfl ?_)
  refine wpAny_bind (wpAny_of_eq (a := a) rfl ?_)
  refine wpAny_bind (asInt_no h ?_)
  exact wpAny_bind (wpAny_rule (wpAny_pure q))
theorem decl_add (a : Int) (t : Tok) (x : Addr) : GivesAt (NoInt x) (Builtin.«int.__add__» ⟨[.int a t, .ref x], []⟩) (.val (Value.notImplemented)) := fun prog w A R s h q => decl_bin h q
theorem decl_sub (a : Int) (t : Tok) (x : Addr) : GivesAt (NoInt x) (Builtin.«int.__sub__» ⟨[.int a t, .ref x], []⟩) (.val (Value.notImplemented)) := fun prog w A R s h q => decl_bin h q
theorem decl_mul (a : Int) (t : Tok) (x : Addr) : GivesAt (NoInt x) (Builtin.«int.__mul__» ⟨[.int a t, .ref x], []⟩) (.val (Value.notImplemented)) := fun prog w A R s h q => decl_bin h q
theorem decl_floordiv (a : Int) (t : Tok) (x : Addr) : GivesAt (NoInt x) (Builtin.«int.__floordiv__» ⟨[.int a t, .ref x], []⟩) (.val (Value.notImplemented)) := fun prog w A R s h q => by
  unfold Builtin.«int.__floordiv__»
  refine wpAny_bind ?_
  refine wpAny_bind (m := asInt? (.int a t)) (wpAny_of_eq (a := some a) rfl ?_)
  refine wpAny_bind (m := asInt? (.ref x)) (asInt_no h ?_)
  exact wpAny_pure (decl_bin h q)
/-- what is known of int's own slot for an operator -/
structure IntOp (op : Operator) (idl : String) (B : Builtin) : Prop where
  fl : fillsNumberSlot (.type "int") op.info.2 = pure true
  sl : Slot "int" (PySem.dunder op.info.2) idl
  en : entryFor table idl = some B
  ar : ∀ a b : Value, argsOk idl ⟨[a, b], []⟩
  de : ∀ (a : Int) (t : Tok) (x : Addr), GivesAt (NoInt x) (B ⟨[.int a t, .ref x], []⟩) (.val (Value.notImplemented))
theorem io_add : IntOp .Add "int.__add__" Builtin.«int.__add__» := ⟨PySem.F.fills_int_add, PySem.F.slot_int_add, PySem.F.entry_int_add, PySem.F.args_int_add_2, decl_add⟩
theorem io_sub : IntOp .Sub "int.__sub__" Builtin.«int.__sub__» := ⟨PySem.F.fills_int_sub, PySem.F.slot_int_sub, PySem.F.entry_int_sub, PySem.F.args_int_sub_2, decl_sub⟩
theorem io_mul : IntOp .Mult "int.__mul__" Builtin.«int.__mul__» := ⟨PySem.F.fills_int_mul, PySem.F.slot_int_mul, PySem.F.entry_int_mul, PySem.F.args_int_mul_2, decl_mul⟩
theorem io_fdiv : IntOp .FloorDiv "int.__floordiv__" Builtin.«int.__floordiv__» := ⟨PySem.F.fills_int_floordiv, PySem.F.slot_int_floordiv, PySem.F.entry_int_floordiv, PySem.F.args_int_floordiv_2, decl_floordiv⟩
theorem bin_refl {op : Operator} {idl : String} {B : Builtin} {i : Int} {t : Tok} {Q : Value → Shared → Prop} (io : IntOp op idl B) (X : K.In s.heap) (I : InstAt s.heap x ox C od) (hno : NoInt x s) (hc : selfFirst K C = true)
    (hs : findIn K (.ref C) (PySem.dunder op.info.2) = some (some (.ref f0))) (hsR : findIn K (.ref C) (dunderR op.info.2) = some (some (.ref f))) (hf : isFn K (.ref f) = true) (hsub : subIn K (.ref C) (.type "int") = some false)
    (h : wpAny (model prog w) A (call (.ref f) [.ref x, .int i t]) (PySem.W.CmpBack Q) E s) : wpAny (model prog w) A (binaryOp op (.int i t) (.ref x)) Q E s := by
  obtain ⟨fl, sl, en, ar, de⟩ := io
  obtain ⟨cd, rest, hcd, hm⟩ := ksp_first hc
  rcases hi : op.info with ⟨sym, nm⟩
  rw [hi] at fl sl hs hsR
  simp only [binaryOp, hi]
  refine wpAny_holding (wpAny_bind ?_)
  simp only [binaryOp1]
  have ha := typeIs_int s i t
  refine wpAny_bind (wpAny_typeOf ha (wpAny_bind (I.type.here (wpAny_bind (wpAny_of_eq fl ?_)))))
  have hne : (Value.type "int" == Value.ref C) = false := Bool.eq_false_iff.mpr fun q => by cases beq_iff_eq.mp q
  simp only [hne, Bool.false_eq_true, if_false]
  refine wpAny_bind ((fills_K X hcd hm hs).here ?_)
  simp only [Bool.and_self, if_true]
  refine wpAny_bind ((looks_subIn X hsub).here ?_)
  have hpy : numberSlotInPython (.type "int") nm = pure false := rfl
  simp only [Bool.false_eq_true, if_false, pure_bind, Bool.not_false, Bool.and_self, if_true, hpy]
  simp only [tryMethod]
  refine wpAny_bind (wpAny_bind (wpAny_callSpecial?_slot ha sl (wpAny_mono (call_givesAt (Q := fun v s1 => v = .notImplemented ∧ s1 = s) sl ha en (ar _ _) (de i t x) hno ⟨rfl, rfl⟩) (fun v s1 h1 => ?_) fun _ _ x => x)))
  obtain ⟨rfl, rfl⟩ := h1
  refine wpAny_pure (wpAny_bind (wpAny_bind (special_fn X I hsR (beq_iff_eq.mp hf) (wpAny_mono h (fun v s' hv => ?_) fun _ _ e => e))))
  cases v <;> first | exact hv.elim | exact wpAny_pure (wpAny_bind (wpAny_rule (wpAny_pure (wpAny_pure hv))))
end
/-- what of the text a class must have for an operator -/
structure BinC (K : Frag) (C : Addr) (nm : String) (f g : Addr) : Prop where
  sf : PySem.W.selfFirst K C = true
  at_ : PySem.W.findIn K (.ref C) (PySem.dunder nm) = some (some (.ref f))
  fn : PySem.W.isFn K (.ref f) = true
  atR : PySem.W.findIn K (.ref C) (dunderR nm) = some (some (.ref g))
  fnR : PySem.W.isFn K (.ref g) = true
  su : PySem.W.subIn K (.ref C) (.type "int") = some false
  us : PySem.W.subIn K (.type "int") (.ref C) = some false
  i1 : ∃ fo, PySem.W.findIn K (.type "int") (PySem.dunder nm) = some fo
  i2 : ∃ ro, PySem.W.findIn K (.type "int") (dunderR nm) = some ro
def binB (K : Frag) (C : Addr) (nm : String) (f g : Addr) : Bool := PySem.W.selfFirst K C && (He.eqO (PySem.W.findIn K (.ref C) (PySem.dunder nm)) (some (some (.ref f))) && (PySem.W.isFn K (.ref f) &&
  (He.eqO (PySem.W.findIn K (.ref C) (dunderR nm)) (some (some (.ref g))) && (PySem.W.isFn K (.ref g) && (decide (PySem.W.subIn K (.ref C) (.type "int") = some false) && (decide (PySem.W.subIn K (.type "int") (.ref C) = some false) &&
  ((PySem.W.findIn K (.type "int") (PySem.dunder nm)).isSome && (PySem.W.findIn K (.type "int") (dunderR nm)).isSome)))))))
theorem binB_ok {K : Frag} {C : Addr} {nm : String} {f g : Addr} (q : binB K C nm f g = true) : BinC K C nm f g := by
  obtain ⟨a, q⟩ := He.ba q
  obtain ⟨b, q⟩ := He.ba q
  obtain ⟨c, q⟩ := He.ba q
  obtain ⟨d, q⟩ := He.ba q
  obtain ⟨e, q⟩ := He.ba q
  obtain ⟨f, q⟩ := He.ba q
  obtain ⟨g, q⟩ := He.ba q
  obtain ⟨h, i⟩ := He.ba q
  exact ⟨a, He.eqO_ok b, c, He.eqO_ok d, e, of_decide_eq_true f, of_decide_eq_true g, Option.isSome_iff_exists.mp h, Option.isSome_iff_exists.mp i⟩
/-- x op y, one of them an instance of C, the other too, or an int -/
def rBinL (C : Addr) (sp spR : Sp) (E : XK) : R2 := fun x y H Q =>
  (∃ a dx vs b dy ws, x = .ref a ∧ y = .ref b ∧ SlX.Slt H a C dx vs ∧ SlX.Slt H b C dy ws ∧ sp [x, y] H Q E) ∨
  (∃ a dx vs i, x = .ref a ∧ y = .int i ∧ SlX.Slt H a C dx vs ∧ sp [x, y] H Q E) ∨
  (∃ b dy ws i, x = .int i ∧ y = .ref b ∧ SlX.Slt H b C dy ws ∧ spR [y, x] H Q E)
def tBinL (C : Addr) (sp spR : Sp) (E : L2.St → XK) (ta tb : TE) : TE := fun σ H Q => ta σ H fun x H1 => tb σ H1 fun y H2 => rBinL C sp spR (E σ) x y H2 Q
section
variable {X : Cx} {C f g : Addr} {n k : Nat} {sp spR : Sp} {E : L2.St → XK} {op : Operator} {idl : String} {B : Builtin} {a b : Expr} {ta tb : TE} {pos : Pos}
/-- the callee runs below the running body, what is raised wished for at the slots -/
theorem run_fnAt {CX : CXT} {E : XK} {pins : List (Addr × Obj)} {σ : L2.St} {H : Hp} {s : Shared} {Q : VK} {us : List Value} {ws : List V} (F : FnR X.prog X.w X.K X.mg X.base CX n f sp) (hr : Room n X.A) (hx : PassesAt CX X σ E) (I : Inv X pins σ H s) (r : Vals ws us) (h : sp ws H Q E) :
    codeAny (model X.prog X.w) X.A (.call (.ref f) ⟨us, []⟩) (fun r s' => match r with | .ok (.ret v) => EP X pins σ Q v s' | .ok _ => False | .error e => X.xe e s') s := by
  refine codeAny_mono (F X.A X.stack s H us ws Q E hr I.env0 r h) fun r s' hq => ?_
  match r, hq with
  | .error e, hq => exact hx pins H s e s' I hq
  | .ok (.ret u), hq => exact I.after hq
  | .ok .next, hq => exact hq.elim
  | .ok .brk, hq => exact hq.elim
  | .ok .cont, hq => exact hq.elim
theorem cb_of {pins : List (Addr × Obj)} {σ : L2.St} {Q : VK} {w : Value} {s' : Shared} (z : EP X pins σ Q w s') : PySem.W.CmpBack (EP X pins σ Q) w s' := by
  obtain ⟨v, H', I', rz, qz⟩ := z
  exact SlX.cmpback rz ⟨v, H', I', rz, qz⟩
theorem pe_binL (io : IntOp op idl B) (c : BinC X.K C op.info.2 f g) (F : FnR X.prog X.w X.K X.mg X.base (L2.CX X.prog X.w) n f sp) (hr : Room n X.A) (G : FnR X.prog X.w X.K X.mg X.base (L2.CX X.prog X.w) k g spR) (hr2 : Room k X.A)
    (hx : ∀ σ, PassesAt (L2.CX X.prog X.w) X σ (E σ)) (ha : PE X a ta) (hb : PE X b tb) : PE X (.BinOp a op b pos) (tBinL C sp spR E ta tb) := by
  refine ⟨fun pins s σ H Q I h => wpAny_BinOp (binT ha hb I (R := fun x y H2 => rBinL C sp spR (E σ) x y H2 Q) h fun v u s2 x y H2 I2 rx ry q => ?_)⟩
  obtain ⟨m, hF⟩ := I2.fr
  rcases q with ⟨a, dx, vs, b, dy, ws, rfl, rfl, h1, h2, q⟩ | ⟨a, dx, vs, i, rfl, rfl, h1, q⟩ | ⟨b, dy, ws, i, rfl, rfl, h1, q⟩
  · cases (show v = Value.ref a from rx)
    cases (show u = Value.ref b from ry)
    obtain ⟨sl, od, _, J, _⟩ := SlX.slt_inst I2 h1
    obtain ⟨sl', od', _, J', _⟩ := SlX.slt_inst I2 h2
    exact PySem.W.binop_K hF I2.ok.mod.kin J J'.type c.sf c.at_ c.fn (wpAny_mono (wpAny_call (run_fnAt (us := [.ref a, .ref b]) (ws := [.ref a, .ref b]) F hr (hx σ) I2 (.cons rfl (.cons rfl .nil)) q)) (fun w s' z => cb_of z) fun _ _ x => x)
  · cases (show v = Value.ref a from rx)
    obtain ⟨t, rfl⟩ := (show ∃ t, u = Value.int i t from ry)
    obtain ⟨sl, od, _, J, _⟩ := SlX.slt_inst I2 h1
    obtain ⟨fo, e1⟩ := c.i1
    obtain ⟨ro, e2⟩ := c.i2
    exact PySem.W.ksp_binT (T := "int") hF I2.ok.mod.kin J rfl c.sf c.at_ c.fn c.atR (.inr ⟨_, rfl⟩) e1 e2 c.us (wpAny_mono (wpAny_call (run_fnAt (us := [.ref a, .int i t]) (ws := [.ref a, .int i]) F hr (hx σ) I2 (.cons rfl (.cons ⟨t, rfl⟩ .nil)) q)) (fun w s' z => cb_of z) fun _ _ x => x)
  · obtain ⟨t, rfl⟩ := (show ∃ t, v = Value.int i t from rx)
    cases (show u = Value.ref b from ry)
    obtain ⟨sl, od, _, J, _⟩ := SlX.slt_inst I2 h1
    exact bin_refl io I2.kIn J ⟨_, J.at_, fun _ _ => by intro z; cases z⟩ c.sf c.at_ c.atR c.fnR c.su (wpAny_mono (wpAny_call (run_fnAt (us := [.ref b, .int i t]) (ws := [.ref b, .int i]) G hr2 (hx σ) I2 (.cons rfl (.cons ⟨t, rfl⟩ .nil)) q)) (fun w s' z => cb_of z) fun _ _ x => x)
/-- - x -/
def rNegL (C : Addr) (sp : Sp) : V → Hp → VK → Prop := fun x H Q => ∃ a dx vs, x = .ref a ∧ SlX.Slt H a C dx vs ∧ sp [x] H Q E0
theorem un_negL (hs : PySem.W.findIn X.K (.ref C) "__neg__" = some (some (.ref f))) (hf : PySem.W.isFn X.K (.ref f) = true) (F : FnR X.prog X.w X.K X.mg X.base (L2.CX X.prog X.w) n f sp) (hr : Room n X.A) : UnR X (unaryOp .USub) (rNegL C sp) := by
  intro pins s σ H x v Q I rx h
  obtain ⟨a, dx, vs, rfl, h1, q⟩ := h
  cases (show v = Value.ref a from rx)
  obtain ⟨sl, od, _, J, _⟩ := SlX.slt_inst I h1
  obtain ⟨m, hF⟩ := I.fr
  exact PySem.W.ksp_neg hF I.ok.mod.kin J hs hf (wpAny_call (run_fnR (us := [.ref a]) (vs := [.ref a]) F hr passL I (.cons rfl .nil) q))
/-! raise C(), C a class of the text with no __init__ -/
theorem pmk_own0 {bmB : List Value} {BB newId initId : String} {x : Str} {p : Pos} (F : ExcBaseFacts BB newId initId bmB) (q : PySem.W.excIn X.K C bmB newId = true) (gC : X.mg x = some (.ref C))
    (kC : PySem.W.keepIn X.K (.ref C) = true) (r : Raises X (.ref C)) (hg : Gl X x) (hdb : (x == ("__debug__" : Str)) = false := by decide) :
    PMk X (.Call (.Name x p) [] [] pos) (fun _ H Q => Q (.ref C) none H) := by
  intro pins s σ H Q I h
  refine wpAny_Call_Name_kw (ld_glob I hg gC ?_ hdb)
  refine PySem.W.callWith_K0 (first := []) I.kIn kC ?_
  show wpAny _ _ (call (.ref C) []) _ _ _
  obtain ⟨bm, N, nm, qn, bs, hdct, sn, sub, ab, col, dd, k0, k1, k2, k3, k5, mN, hC, hN, hni, T⟩ := exc_obj I.kIn q
  refine wpAny_call_exc_subT F T hC hN hni (fun h' e hm => ?_) (Nat.zero_le _)
  exact mk_of I hm r h (I.hok.gone hm.new)
end
structure Ex0 (K : Frag) (C : Addr) : Prop where
  ex : PySem.W.excIn K C [.type "ValueError", .type "Exception", .type "BaseException", .type "object"] "ValueError.__new__" = true
  kp : PySem.W.keepIn K (.ref C) = true
  sb : PySem.W.subIn K (.ref C) (.type "BaseException") = some true
  ty : PySem.W.typeIn K (.ref C) = some (.type "type")
def ex0B (K : Frag) (C : Addr) : Bool := PySem.W.excIn K C [.type "ValueError", .type "Exception", .type "BaseException", .type "object"] "ValueError.__new__" && (PySem.W.keepIn K (.ref C) &&
  (decide (PySem.W.subIn K (.ref C) (.type "BaseException") = some true) && decide (PySem.W.typeIn K (.ref C) = some (.type "type"))))
theorem ex0B_ok {K : Frag} {C : Addr} (q : ex0B K C = true) : Ex0 K C := by
  obtain ⟨a, q⟩ := He.ba q
  obtain ⟨b, q⟩ := He.ba q
  obtain ⟨c, d⟩ := He.ba q
  exact ⟨a, b, of_decide_eq_true c, of_decide_eq_true d⟩
theorem ps_raiseP {X : Cx} {C : Addr} {W : WX} {x : Str} {p pos pos2 : Pos} (hc : X.calm = true) (tk : Takes X W) (c : Ex0 X.K C) (hg : Gl X x) (gC : X.mg x = some (.ref C)) (hdb : (x == ("__debug__" : Str)) = false := by decide) :
    PS X (.Raise (some (.Call (.Name x p) [] [] pos)) none pos2) (fun _ σ H => W (.ref C) none σ H) :=
  ps_raise hc tk (pmk_own0 PySem.F.excBase_ValueError c.ex gC c.kp (raises_own c.sb c.ty) hg hdb)
end S
namespace S
open PySem PySem.Spec PyProof.Rows L2
/-! abs(x) by the class's own def -/
section
variable {X : Cx} {C g : Addr} {n : Nat} {sp : Sp}
def rAbsL (C : Addr) (sp : Sp) : List V → Hp → VK → Prop := fun xs H Q => ∃ a dx vs, xs = [V.ref a] ∧ SlX.Slt H a C dx vs ∧ sp [.ref a] H Q E0
theorem call_absL (hs : PySem.W.findIn X.K (.ref C) "__abs__" = some (some (.ref g))) (hf : PySem.W.isFn X.K (.ref g) = true) (F : FnR X.prog X.w X.K X.mg X.base (L2.CX X.prog X.w) n g sp) (hr : Room (n + 1) X.A) : CallR X (.builtin "abs") (rAbsL C sp) := by
  intro pins s σ H xs us Q I r h
  obtain ⟨a, dx, vs, rfl, hsl, q⟩ := h
  obtain ⟨u, rfl, ru⟩ := r.one
  cases (show u = Value.ref a from ru)
  obtain ⟨sl, od, _, J, _⟩ := SlX.slt_inst I hsl
  refine PySem.Calls.call_function_entry kind_abs plain_abs entry_abs (args_abs _) ?_
  unfold Builtin.«abs»
  refine wpAny_bind (wpAny_of_eq (a := .ref a) rfl ?_)
  refine wpAny_bind (PySem.W.special_fn I.kIn J hs (beq_iff_eq.mp hf) (wpAny_mono (wpAny_call (SlX.run_at (us := [.ref a]) (ws := [.ref a]) F hr.in1 I.env0.in1 passL I (.cons rfl .nil) q)) (fun w s' z => ?_) fun _ _ x => x))
  exact wpAny_pure ⟨_, rfl, z⟩
end
end S
namespace S
open PySem PySem.Spec PyProof.Rows L2
/-! // by any divisor but 0 -/
def CDivN (_ j : Int) : Prop := j ≠ 0 ∧ j.natAbs.log2 < 9000
theorem op_fdivN {X : Cx} : OpR X (binaryOp .FloorDiv) (rI CDivN fun i j => .int (i.fdiv j)) := opI fun i j _ _ _ _ _ hc q => floordiv_int hc.1 q (.inl (PyProof.noPylong_of_log2 hc.2))
end S
namespace S
open PySem PySem.Spec PyProof.Rows L2
/-! ### == < .. of slotted instances by their own defs, the right side an instance of the class or an int -/
section
variable {X : Cx} {n : Nat} {C g : Addr} {sp : Sp}
def rCmpL (K : Frag) (C : Addr) (sp : Sp) : R2 := fun x y H Q => ∃ a dx vs, x = .ref a ∧ SlX.Slt H a C dx vs ∧ ((∃ b dy ws, y = .ref b ∧ SlX.Slt H b C dy ws) ∨ ((∃ i, y = .int i) ∧ PySem.W.notFirst K C (.type "int") = true)) ∧ sp [x, y] H Q E0
theorem op_cmpL {op : CmpOp} (hop : ∀ a b, compareOp op a b = richCompare op a b) (hs : PySem.W.findIn X.K (.ref C) (cmpInfo op).2.1 = some (some (.ref g))) (hf : PySem.W.isFn X.K (.ref g) = true)
    (F : FnR X.prog X.w X.K X.mg X.base (L2.CX X.prog X.w) n g sp) (hr : Room n X.A) : OpR X (compareOp op) (rCmpL X.K C sp) := by
  intro pins s σ H x y v u Q I rx ry h
  obtain ⟨a, dx, vs, rfl, h1, hy, q⟩ := h
  cases (show v = Value.ref a from rx)
  obtain ⟨sl, od, _, J, _⟩ := SlX.slt_inst I h1
  obtain ⟨m, hF⟩ := I.fr
  rw [hop]
  rcases hy with ⟨b, dy, ws, rfl, h2⟩ | ⟨⟨i, rfl⟩, hn⟩
  · cases (show u = Value.ref b from ry)
    obtain ⟨sl', od', _, J', _⟩ := SlX.slt_inst I h2
    refine PySem.W.cmp_K (op := op) (tb := .ref C) hr.units0 hF I.ok.mod.kin J J'.type (by simp [PySem.W.notFirst]) hs hf ?_
    refine wpAny_mono (wpAny_call (run_fnR (us := [.ref a, .ref b]) (vs := [.ref a, .ref b]) F hr passL I (.cons rfl (.cons rfl .nil)) q)) (fun w s' z => ?_) fun _ _ x => x
    obtain ⟨z2, H2, I2, rz, qz⟩ := z
    exact SlX.cmpback rz ⟨z2, H2, I2, rz, qz⟩
  · obtain ⟨t, rfl⟩ := (show ∃ t, u = Value.int i t from ry)
    refine PySem.W.cmp_K (op := op) (tb := .type "int") hr.units0 hF I.ok.mod.kin J (PySem.W.Looks.of_pure rfl) hn hs hf ?_
    refine wpAny_mono (wpAny_call (run_fnR (us := [.ref a, .int i t]) (vs := [.ref a, .int i]) F hr passL I (.cons rfl (.cons ⟨t, rfl⟩ .nil)) q)) (fun w s' z => ?_) fun _ _ x => x
    obtain ⟨z2, H2, I2, rz, qz⟩ := z
    exact SlX.cmpback rz ⟨z2, H2, I2, rz, qz⟩
/-- x != y by x's own ==, both of the class -/
def rNeL (C : Addr) (sp : Sp) : R2 := fun x y H Q => ∃ a dx vs b dy ws, x = .ref a ∧ y = .ref b ∧ SlX.Slt H a C dx vs ∧ SlX.Slt H b C dy ws ∧ sp [x, y] H (fun z H2 => ∃ r, z = .bl r ∧ Q (.bl (!r)) H2) E0
theorem op_neL (hne : PySem.W.findIn X.K (.ref C) "__ne__" = some (some (.builtin "object.__ne__"))) (hm : PySem.W.mroIn X.K C (.type "object") = some true)
    (hs : PySem.W.findIn X.K (.ref C) "__eq__" = some (some (.ref g))) (hf : PySem.W.isFn X.K (.ref g) = true)
    (F : FnR X.prog X.w X.K X.mg X.base (L2.CX X.prog X.w) n g sp) (hr : Room (n + 1) X.A) : OpR X (compareOp .NotEq) (rNeL C sp) := by
  intro pins s σ H x y v u Q I rx ry h
  obtain ⟨a, dx, fs, b, dy, gs, rfl, rfl, ha, hb, q⟩ := h
  cases (show v = Value.ref a from rx)
  cases (show u = Value.ref b from ry)
  obtain ⟨sl, od, _, J, _⟩ := SlX.slt_inst I ha
  obtain ⟨sl', od', _, J2, _⟩ := SlX.slt_inst I hb
  show wpAny _ _ (richCompare .NotEq (.ref a) (.ref b)) _ _ _
  refine ne_K (tb := .ref C) (hu_of hr) I.kIn J J2.type (by simp [PySem.W.notFirst]) hne hm hs hf ?_
  refine wpAny_mono (wpAny_call (SlX.run_at (us := [.ref a, .ref b]) (ws := [.ref a, .ref b]) F hr.in1 I.env0.in1 passL I (.cons rfl (.cons rfl .nil)) q)) (fun w s' z => ?_) fun _ _ x => x
  obtain ⟨z2, H2, I2, rz, r, rfl, qz⟩ := z
  cases (show w = Value.bool r from rz)
  exact ⟨r, rfl, .bl (!r), H2, I2, rfl, qz⟩
end
end S
namespace S
open PySem PySem.Spec PyProof.Rows L2
/-! ### [e for x in ..] by an invariant over the turn and the heap -/
section
variable {K : Frag} {a D : Addr} {xs : List V} {g : TG} {te : TE} {σ : L2.St} {H : Hp} {vs : List Nat} {R0 : Hp → Prop}
theorem lc_list (Pv : Nat → Hp → Prop) (h0 : Pv 0 (upd H D (.lst []))) (hl : ∀ i H, i ≤ xs.length → Pv i H → SqL K H a xs)
    (hs : ∀ i x H, xs[i]? = some x → Pv i H → g x (wipe σ vs) H fun σ2 H2 => wipe σ2 vs = wipe σ vs ∧ te σ2 H2 fun y H4 => ∃ acc, H4 D = some (.lst acc) ∧ acc.length < sizeLine ∧ Pv (i + 1) (upd H4 D (.lst (acc ++ [y]))))
    (hd : ∀ H, Pv xs.length H → R0 H)
    (mono : ∀ x H R R', (∀ σ2 H2, R σ2 H2 → R' σ2 H2) → g x (wipe σ vs) H R → g x (wipe σ vs) H R') :
    ∃ W : Nat → Nat → Hp → Prop, (∃ m, W 0 m (upd H D (.lst []))) ∧ ∀ i m H, W i m H →
      ((Itl K a).stop i H ∧ R0 H) ∨ ((Itl K a).go i H ∧ ∃ Nx : Hp → Prop, (∀ H', Nx H' → ∃ m', m' < m ∧ W (i + 1) m' H') ∧ ∀ x H', (Itl K a).yld i H x H' → g x (wipe σ vs) H' fun σ2 H2 => wipe σ2 vs = wipe σ vs ∧ tYes σ2 H2 fun b H3 =>
        if b = true then te σ2 H3 fun y H4 => ∃ acc, H4 D = some (.lst acc) ∧ acc.length < sizeLine ∧ Nx (upd H4 D (.lst (acc ++ [y]))) else Nx H3) := by
  refine ⟨fun i m H => m = xs.length - i ∧ i ≤ xs.length ∧ Pv i H, ⟨xs.length, by simp, Nat.zero_le _, h0⟩, ?_⟩
  rintro i m H ⟨rfl, hi, p⟩
  have q := hl i H hi p
  by_cases hlt : i < xs.length
  · refine .inr ⟨⟨xs, xs[i], q, by simp [hlt]⟩, Pv (i + 1), fun H' p' => ⟨xs.length - (i + 1), by omega, rfl, hlt, p'⟩, fun x H' y => ?_⟩
    obtain ⟨e, y⟩ := y
    subst e
    exact mono _ _ _ _ (fun σ2 H2 z => ⟨z.1, by unfold tYes; exact iteT z.2⟩) (hs i x _ (y xs q) p)
  · have e : i = xs.length := by omega
    subst e
    exact .inl ⟨⟨xs, q, Nat.le_refl _⟩, hd H p⟩
theorem lc_range {lo : Int} {n : Nat} (Pv : Nat → Hp → Prop) (h0 : Pv 0 (upd H D (.lst [])))
    (hs : ∀ i H, i < n → Pv i H → g (.int (lo + i)) (wipe σ vs) H fun σ2 H2 => wipe σ2 vs = wipe σ vs ∧ te σ2 H2 fun y H4 => ∃ acc, H4 D = some (.lst acc) ∧ acc.length < sizeLine ∧ Pv (i + 1) (upd H4 D (.lst (acc ++ [y]))))
    (hd : ∀ H, Pv n H → R0 H)
    (mono : ∀ x H R R', (∀ σ2 H2, R σ2 H2 → R' σ2 H2) → g x (wipe σ vs) H R → g x (wipe σ vs) H R') :
    ∃ W : Nat → Nat → Hp → Prop, (∃ m, W 0 m (upd H D (.lst []))) ∧ ∀ i m H, W i m H →
      ((Itr lo n).stop i H ∧ R0 H) ∨ ((Itr lo n).go i H ∧ ∃ Nx : Hp → Prop, (∀ H', Nx H' → ∃ m', m' < m ∧ W (i + 1) m' H') ∧ ∀ x H', (Itr lo n).yld i H x H' → g x (wipe σ vs) H' fun σ2 H2 => wipe σ2 vs = wipe σ vs ∧ tYes σ2 H2 fun b H3 =>
        if b = true then te σ2 H3 fun y H4 => ∃ acc, H4 D = some (.lst acc) ∧ acc.length < sizeLine ∧ Nx (upd H4 D (.lst (acc ++ [y]))) else Nx H3) := by
  refine ⟨fun i m H => m = n - i ∧ i ≤ n ∧ Pv i H, ⟨n, by simp, Nat.zero_le _, h0⟩, ?_⟩
  rintro i m H ⟨rfl, hi, p⟩
  by_cases hlt : i < n
  · refine .inr ⟨hlt, Pv (i + 1), fun H' p' => ⟨n - (i + 1), by omega, rfl, hlt, p'⟩, fun x H' y => ?_⟩
    obtain ⟨e, y⟩ := y
    subst e y
    exact mono _ _ _ _ (fun σ2 H2 z => ⟨z.1, by unfold tYes; exact iteT z.2⟩) (hs i _ hlt p)
  · have e : i = n := by omega
    subst e
    exact .inl ⟨Nat.le_refl _, hd H p⟩
theorem gName_mono {i : Nat} {σ : L2.St} : ∀ (x : V) (H : Hp) (R R' : L2.St → Hp → Prop), (∀ σ2 H2, R σ2 H2 → R' σ2 H2) → gName i x σ H R → gName i x σ H R' := fun _ _ _ _ k h => k _ _ h
theorem sumK {X : Cx} (hK : X.K = K) (hc : X.calm = true) : CallR X (.builtin "sum") (rSum K) := hK ▸ cr_sum hc
theorem boot_sum : bootBuiltins "sum" = some (.builtin "sum") := by decide +kernel
end
end S
namespace W
open PySem PySem.Spec PyProof.Rows L2
def top (i : Nat) : Stmt := PySem.Challenge.pw_seenshares_k04_whole_shares_are_exact.main.body.getD i (.Pass ⟨0, 0, 0, 0⟩)
abbrev s_is_integer : Stmt := top 1
theorem sc_is_integer : FnScope ["value"] ["value"] (defScope s_is_integer) := by
  refine ⟨rfl, rfl, rfl, ?_, rfl, ?_, ?_⟩ <;> decide +kernel
abbrev d_is_integer : He.DefD := ⟨("is_integer", none), "is_integer", "is_integer", defArgs s_is_integer, defBody s_is_integer, defScope s_is_integer, [], []⟩
abbrev s_BadShare___init__ : Stmt := inClass (top 4) 0
theorem sc_BadShare___init__ : FnScope ["self", "part"] ["self", "part"] (defScope s_BadShare___init__) := by
  refine ⟨rfl, rfl, rfl, ?_, rfl, ?_, ?_⟩ <;> decide +kernel
abbrev d_BadShare___init__ : He.DefD := ⟨("BadShare", some "__init__"), "__init__", "BadShare.__init__", defArgs s_BadShare___init__, defBody s_BadShare___init__, defScope s_BadShare___init__, [], []⟩
abbrev s_common_divisor : Stmt := top 7
theorem sc_common_divisor : FnScope ["first", "second"] ["first", "second"] (defScope s_common_divisor) := by
  refine ⟨rfl, rfl, rfl, ?_, rfl, ?_, ?_⟩ <;> decide +kernel
abbrev d_common_divisor : He.DefD := ⟨("common_divisor", none), "common_divisor", "common_divisor", defArgs s_common_divisor, defBody s_common_divisor, defScope s_common_divisor, [], []⟩
abbrev s_is_number : Stmt := top 8
theorem sc_is_number : FnScope ["value"] ["value"] (defScope s_is_number) := by
  refine ⟨rfl, rfl, rfl, ?_, rfl, ?_, ?_⟩ <;> decide +kernel
abbrev d_is_number : He.DefD := ⟨("is_number", none), "is_number", "is_number", defArgs s_is_number, defBody s_is_number, defScope s_is_number, [], []⟩
abbrev s_top_of : Stmt := top 9
theorem sc_top_of : FnScope ["value"] ["value"] (defScope s_top_of) := by
  refine ⟨rfl, rfl, rfl, ?_, rfl, ?_, ?_⟩ <;> decide +kernel
abbrev d_top_of : He.DefD := ⟨("top_of", none), "top_of", "top_of", defArgs s_top_of, defBody s_top_of, defScope s_top_of, [], []⟩
abbrev s_bottom_of : Stmt := top 10
theorem sc_bottom_of : FnScope ["value"] ["value"] (defScope s_bottom_of) := by
  refine ⟨rfl, rfl, rfl, ?_, rfl, ?_, ?_⟩ <;> decide +kernel
abbrev d_bottom_of : He.DefD := ⟨("bottom_of", none), "bottom_of", "bottom_of", defArgs s_bottom_of, defBody s_bottom_of, defScope s_bottom_of, [], []⟩
abbrev s_Share___init__ : Stmt := inClass (top 11) 1
theorem sc_Share___init__ : FnScope ["self", "top", "bottom", "shared"] ["self", "top", "bottom"] (defScope s_Share___init__) := by
  refine ⟨rfl, rfl, rfl, ?_, rfl, ?_, ?_⟩ <;> decide +kernel
abbrev d_Share___init__ : He.DefD := ⟨("Share", some "__init__"), "__init__", "Share.__init__", defArgs s_Share___init__, defBody s_Share___init__, defScope s_Share___init__, [.int 1], []⟩
abbrev s_Share_over : Stmt := inClass (top 11) 2
theorem sc_Share_over : FnScope ["self", "other"] ["self", "other"] (defScope s_Share_over) := by
  refine ⟨rfl, rfl, rfl, ?_, rfl, ?_, ?_⟩ <;> decide +kernel
abbrev d_Share_over : He.DefD := ⟨("Share", some "over"), "over", "Share.over", defArgs s_Share_over, defBody s_Share_over, defScope s_Share_over, [], []⟩
abbrev s_Share_floor : Stmt := inClass (top 11) 3
theorem sc_Share_floor : FnScope ["self"] ["self"] (defScope s_Share_floor) := by
  refine ⟨rfl, rfl, rfl, ?_, rfl, ?_, ?_⟩ <;> decide +kernel
abbrev d_Share_floor : He.DefD := ⟨("Share", some "floor"), "floor", "Share.floor", defArgs s_Share_floor, defBody s_Share_floor, defScope s_Share_floor, [], []⟩
abbrev s_Share___add__ : Stmt := inClass (top 11) 4
theorem sc_Share___add__ : FnScope ["self", "other", "top"] ["self", "other"] (defScope s_Share___add__) := by
  refine ⟨rfl, rfl, rfl, ?_, rfl, ?_, ?_⟩ <;> decide +kernel
abbrev d_Share___add__ : He.DefD := ⟨("Share", some "__add__"), "__add__", "Share.__add__", defArgs s_Share___add__, defBody s_Share___add__, defScope s_Share___add__, [], []⟩
abbrev s_Share___radd__ : Stmt := inClass (top 11) 5
theorem sc_Share___radd__ : FnScope ["self", "other"] ["self", "other"] (defScope s_Share___radd__) := by
  refine ⟨rfl, rfl, rfl, ?_, rfl, ?_, ?_⟩ <;> decide +kernel
abbrev d_Share___radd__ : He.DefD := ⟨("Share", some "__radd__"), "__radd__", "Share.__radd__", defArgs s_Share___radd__, defBody s_Share___radd__, defScope s_Share___radd__, [], []⟩
abbrev s_Share___sub__ : Stmt := inClass (top 11) 6
theorem sc_Share___sub__ : FnScope ["self", "other", "top"] ["self", "other"] (defScope s_Share___sub__) := by
  refine ⟨rfl, rfl, rfl, ?_, rfl, ?_, ?_⟩ <;> decide +kernel
abbrev d_Share___sub__ : He.DefD := ⟨("Share", some "__sub__"), "__sub__", "Share.__sub__", defArgs s_Share___sub__, defBody s_Share___sub__, defScope s_Share___sub__, [], []⟩
abbrev s_Share___rsub__ : Stmt := inClass (top 11) 7
theorem sc_Share___rsub__ : FnScope ["self", "other"] ["self", "other"] (defScope s_Share___rsub__) := by
  refine ⟨rfl, rfl, rfl, ?_, rfl, ?_, ?_⟩ <;> decide +kernel
abbrev d_Share___rsub__ : He.DefD := ⟨("Share", some "__rsub__"), "__rsub__", "Share.__rsub__", defArgs s_Share___rsub__, defBody s_Share___rsub__, defScope s_Share___rsub__, [], []⟩
abbrev s_Share___mul__ : Stmt := inClass (top 11) 8
theorem sc_Share___mul__ : FnScope ["self", "other"] ["self", "other"] (defScope s_Share___mul__) := by
  refine ⟨rfl, rfl, rfl, ?_, rfl, ?_, ?_⟩ <;> decide +kernel
abbrev d_Share___mul__ : He.DefD := ⟨("Share", some "__mul__"), "__mul__", "Share.__mul__", defArgs s_Share___mul__, defBody s_Share___mul__, defScope s_Share___mul__, [], []⟩
abbrev s_Share___rmul__ : Stmt := inClass (top 11) 9
theorem sc_Share___rmul__ : FnScope ["self", "other"] ["self", "other"] (defScope s_Share___rmul__) := by
  refine ⟨rfl, rfl, rfl, ?_, rfl, ?_, ?_⟩ <;> decide +kernel
abbrev d_Share___rmul__ : He.DefD := ⟨("Share", some "__rmul__"), "__rmul__", "Share.__rmul__", defArgs s_Share___rmul__, defBody s_Share___rmul__, defScope s_Share___rmul__, [], []⟩
abbrev s_Share___floordiv__ : Stmt := inClass (top 11) 10
theorem sc_Share___floordiv__ : FnScope ["self", "other"] ["self", "other"] (defScope s_Share___floordiv__) := by
  refine ⟨rfl, rfl, rfl, ?_, rfl, ?_, ?_⟩ <;> decide +kernel
abbrev d_Share___floordiv__ : He.DefD := ⟨("Share", some "__floordiv__"), "__floordiv__", "Share.__floordiv__", defArgs s_Share___floordiv__, defBody s_Share___floordiv__, defScope s_Share___floordiv__, [], []⟩
abbrev s_Share___rfloordiv__ : Stmt := inClass (top 11) 11
theorem sc_Share___rfloordiv__ : FnScope ["self", "other"] ["self", "other"] (defScope s_Share___rfloordiv__) := by
  refine ⟨rfl, rfl, rfl, ?_, rfl, ?_, ?_⟩ <;> decide +kernel
abbrev d_Share___rfloordiv__ : He.DefD := ⟨("Share", some "__rfloordiv__"), "__rfloordiv__", "Share.__rfloordiv__", defArgs s_Share___rfloordiv__, defBody s_Share___rfloordiv__, defScope s_Share___rfloordiv__, [], []⟩
abbrev s_Share___eq__ : Stmt := inClass (top 11) 14
theorem sc_Share___eq__ : FnScope ["self", "other"] ["self", "other"] (defScope s_Share___eq__) := by
  refine ⟨rfl, rfl, rfl, ?_, rfl, ?_, ?_⟩ <;> decide +kernel
abbrev d_Share___eq__ : He.DefD := ⟨("Share", some "__eq__"), "__eq__", "Share.__eq__", defArgs s_Share___eq__, defBody s_Share___eq__, defScope s_Share___eq__, [], []⟩
abbrev s__law_cell : Stmt := top 13
theorem sc__law_cell : FnScope ["_law_script", "_law_k", "_law_cell_here", "_law_number", "_law_total", "_law_step"] ["_law_script", "_law_k"] (defScope s__law_cell) := by
  refine ⟨rfl, rfl, rfl, ?_, rfl, ?_, ?_⟩ <;> decide +kernel
abbrev d__law_cell : He.DefD := ⟨("_law_cell", none), "_law_cell", "_law_cell", defArgs s__law_cell, defBody s__law_cell, defScope s__law_cell, [], []⟩
abbrev s__law_take : Stmt := top 14
theorem sc__law_take : FnScope ["_law_draw", "_law_size", "_law_taken"] ["_law_draw", "_law_size"] (defScope s__law_take) := by
  refine ⟨rfl, rfl, rfl, ?_, rfl, ?_, ?_⟩ <;> decide +kernel
abbrev d__law_take : He.DefD := ⟨("_law_take", none), "_law_take", "_law_take", defArgs s__law_take, defBody s__law_take, defScope s__law_take, [], []⟩
abbrev s__law_is_integer : Stmt := top 15
theorem sc__law_is_integer : FnScope ["_law_value"] ["_law_value"] (defScope s__law_is_integer) := by
  refine ⟨rfl, rfl, rfl, ?_, rfl, ?_, ?_⟩ <;> decide +kernel
abbrev d__law_is_integer : He.DefD := ⟨("_law_is_integer", none), "_law_is_integer", "_law_is_integer", defArgs s__law_is_integer, defBody s__law_is_integer, defScope s__law_is_integer, [], []⟩
abbrev s__law_gcd : Stmt := top 16
theorem sc__law_gcd : FnScope ["_law_one", "_law_two", "_law_a", "_law_b", "_law_k", "_law_rest"] ["_law_one", "_law_two"] (defScope s__law_gcd) := by
  refine ⟨rfl, rfl, rfl, ?_, rfl, ?_, ?_⟩ <;> decide +kernel
abbrev d__law_gcd : He.DefD := ⟨("_law_gcd", none), "_law_gcd", "_law_gcd", defArgs s__law_gcd, defBody s__law_gcd, defScope s__law_gcd, [], []⟩
abbrev s__law_is_share : Stmt := top 17
theorem sc__law_is_share : FnScope ["_law_value", "_law_top", "_law_bottom"] ["_law_value", "_law_top", "_law_bottom"] (defScope s__law_is_share) := by
  refine ⟨rfl, rfl, rfl, ?_, rfl, ?_, ?_⟩ <;> decide +kernel
abbrev d__law_is_share : He.DefD := ⟨("_law_is_share", none), "_law_is_share", "_law_is_share", defArgs s__law_is_share, defBody s__law_is_share, defScope s__law_is_share, [], []⟩
abbrev s__law_part : Stmt := top 18
theorem sc__law_part : FnScope ["_law_cell_here", "_law_bottom"] ["_law_cell_here"] (defScope s__law_part) := by
  refine ⟨rfl, rfl, rfl, ?_, rfl, ?_, ?_⟩ <;> decide +kernel
abbrev d__law_part : He.DefD := ⟨("_law_part", none), "_law_part", "_law_part", defArgs s__law_part, defBody s__law_part, defScope s__law_part, [], []⟩
abbrev s_law : Stmt := top 19
theorem sc_law : FnScope ["_law_script", "_law_many", "_law_parts", "_law_k", "_law_shares", "_law_part_here", "_law_scale", "_law_factor", "_law_common", "_law_top", "_law_total", "_law_scaled", "_law_floors", "_law_share", "_law_back", "_law_rest"] ["_law_script"] (defScope s_law) := by
  refine ⟨rfl, rfl, rfl, ?_, rfl, ?_, ?_⟩ <;> decide +kernel
abbrev d_law : He.DefD := ⟨("law", none), "law", "law", defArgs s_law, defBody s_law, defScope s_law, [], []⟩
def fns : List He.DefD := [d_is_integer, d_BadShare___init__, d_common_divisor, d_is_number, d_top_of, d_bottom_of, d_Share___init__, d_Share_over, d_Share_floor, d_Share___add__, d_Share___radd__, d_Share___sub__, d_Share___rsub__, d_Share___mul__, d_Share___rmul__, d_Share___floordiv__, d_Share___rfloordiv__, d_Share___eq__, d__law_cell, d__law_take, d__law_is_integer, d__law_gcd, d__law_is_share, d__law_part, d_law]
def cks : List S.Ck := [
  (He.Fa.glo "is_integer").ok,
  (He.Fa.glo "common_divisor").ok,
  (He.Fa.glo "is_number").ok,
  (He.Fa.glo "top_of").ok,
  (He.Fa.glo "bottom_of").ok,
  (He.Fa.glo "_law_cell").ok,
  (He.Fa.glo "_law_take").ok,
  (He.Fa.glo "_law_is_integer").ok,
  (He.Fa.glo "_law_gcd").ok,
  (He.Fa.glo "_law_is_share").ok,
  (He.Fa.glo "_law_part").ok,
  (He.Fa.glo "law").ok,
  (He.Fa.glo "SeenError").ok,
  (He.Fa.glo "BadShare").ok,
  (He.Fa.glo "NoShare").ok,
  (He.Fa.glo "Share").ok,
  (He.Fa.free "int").ok,
  (He.Fa.free "bool").ok,
  (He.Fa.free "str").ok,
  (He.Fa.free "isinstance").ok,
  (He.Fa.free "len").ok,
  (He.Fa.free "range").ok,
  (He.Fa.free "abs").ok,
  (He.Fa.free "sum").ok,
  (fun K => S.oexB K (He.ga K "SeenError")),
  (fun K => S.excB K (He.ga K "SeenError")),
  (fun K => xfB K (He.ga K "SeenError")),
  (He.Fa.exm "SeenError" "SeenError" true).ok,
  (fun K => decide (PySem.W.kitOne K (.ref (He.ga K "SeenError")) (.ref (He.ga K "SeenError")) = some true)),
  (He.Fa.exm "SeenError" "BadShare" false).ok,
  (fun K => decide (PySem.W.kitOne K (.ref (He.ga K "SeenError")) (.ref (He.ga K "BadShare")) = some false)),
  (He.Fa.exm "SeenError" "NoShare" false).ok,
  (fun K => decide (PySem.W.kitOne K (.ref (He.ga K "SeenError")) (.ref (He.ga K "NoShare")) = some false)),
  (fun K => S.oexB K (He.ga K "BadShare")),
  (fun K => S.excB K (He.ga K "BadShare")),
  (fun K => xfB K (He.ga K "BadShare")),
  (fun K => He.eqO (PySem.W.findIn K (.ref (He.ga K "BadShare")) "__init__") (some (some (.ref (He.ma K (He.ga K "BadShare") "__init__"))))),
  (fun K => decide (PySem.W.typeIn K (.ref (He.ma K (He.ga K "BadShare") "__init__")) = some (.type "function"))),
  (fun K => He.eqO (PySem.W.findIn K (.ref (He.ga K "BadShare")) "part") (some none)),
  (He.Fa.exm "BadShare" "SeenError" true).ok,
  (fun K => decide (PySem.W.kitOne K (.ref (He.ga K "BadShare")) (.ref (He.ga K "SeenError")) = some true)),
  (He.Fa.exm "BadShare" "BadShare" true).ok,
  (fun K => decide (PySem.W.kitOne K (.ref (He.ga K "BadShare")) (.ref (He.ga K "BadShare")) = some true)),
  (He.Fa.exm "BadShare" "NoShare" false).ok,
  (fun K => decide (PySem.W.kitOne K (.ref (He.ga K "BadShare")) (.ref (He.ga K "NoShare")) = some false)),
  (fun K => S.oexB K (He.ga K "NoShare")),
  (fun K => S.excB K (He.ga K "NoShare")),
  (fun K => xfB K (He.ga K "NoShare")),
  (He.Fa.exm "NoShare" "SeenError" true).ok,
  (fun K => decide (PySem.W.kitOne K (.ref (He.ga K "NoShare")) (.ref (He.ga K "SeenError")) = some true)),
  (He.Fa.exm "NoShare" "BadShare" false).ok,
  (fun K => decide (PySem.W.kitOne K (.ref (He.ga K "NoShare")) (.ref (He.ga K "BadShare")) = some false)),
  (He.Fa.exm "NoShare" "NoShare" true).ok,
  (fun K => decide (PySem.W.kitOne K (.ref (He.ga K "NoShare")) (.ref (He.ga K "NoShare")) = some true)),
  (fun K => S.sclB K (He.ga K "Share")),
  (fun K => S.insB K (He.ga K "Share")),
  (He.Fa.mkr "Share").ok,
  (fun K => S.sltB K (He.ga K "Share") "bottom" 0),
  (fun K => S.sltB K (He.ga K "Share") "top" 1),
  (He.Fa.meth "Share" "__init__").ok,
  (He.Fa.meth "Share" "over").ok,
  (He.Fa.meth "Share" "floor").ok,
  (He.Fa.meth "Share" "__add__").ok,
  (He.Fa.meth "Share" "__radd__").ok,
  (He.Fa.meth "Share" "__sub__").ok,
  (He.Fa.meth "Share" "__rsub__").ok,
  (He.Fa.meth "Share" "__mul__").ok,
  (He.Fa.meth "Share" "__rmul__").ok,
  (He.Fa.meth "Share" "__floordiv__").ok,
  (He.Fa.meth "Share" "__rfloordiv__").ok,
  (He.Fa.meth "Share" "__eq__").ok,
  (fun K => decide (PySem.W.kitOne K (.ref (He.ga K "Share")) (.type "int") = some false)),
  (fun K => decide (PySem.W.kitOne K (.ref (He.ga K "Share")) (.type "bool") = some false)),
  (fun K => decide (PySem.W.kitOne K (.ref (He.ga K "Share")) (.type "str") = some false)),
  (fun K => decide (PySem.W.kitOne K (.ref (He.ga K "Share")) (.type "list") = some false)),
  (fun K => decide (PySem.W.kitOne K (.ref (He.ga K "Share")) (.type "tuple") = some false)),
  (fun K => decide (PySem.W.kitOne K (.ref (He.ga K "Share")) (.type "dict") = some false)),
  (fun K => decide (PySem.W.kitOne K (.ref (He.ga K "Share")) (.ref (He.ga K "Share")) = some true)),
  (fun K => decide (PySem.W.kitOne K (.type "int") (.ref (He.ga K "Share")) = some false)),
  (fun K => decide (PySem.W.kitOne K (.type "bool") (.ref (He.ga K "Share")) = some false)),
  (fun K => decide (PySem.W.kitOne K (.type "str") (.ref (He.ga K "Share")) = some false)),
  (fun K => decide (PySem.W.kitOne K (.type "list") (.ref (He.ga K "Share")) = some false)),
  (fun K => decide (PySem.W.kitOne K (.type "tuple") (.ref (He.ga K "Share")) = some false)),
  (fun K => decide (PySem.W.kitOne K (.type "dict") (.ref (He.ga K "Share")) = some false)),
  (fun K => decide (PySem.W.kitOne K (.type "NoneType") (.ref (He.ga K "Share")) = some false)),
  (fun K => S.binB K (He.ga K "Share") "add" (He.ma K (He.ga K "Share") "__add__") (He.ma K (He.ga K "Share") "__radd__")),
  (fun K => S.binB K (He.ga K "Share") "sub" (He.ma K (He.ga K "Share") "__sub__") (He.ma K (He.ga K "Share") "__rsub__")),
  (fun K => S.binB K (He.ga K "Share") "mul" (He.ma K (He.ga K "Share") "__mul__") (He.ma K (He.ga K "Share") "__rmul__")),
  (fun K => S.binB K (He.ga K "Share") "floordiv" (He.ma K (He.ga K "Share") "__floordiv__") (He.ma K (He.ga K "Share") "__rfloordiv__")),
  (fun K => S.ex0B K (He.ga K "NoShare")),
  (fun K => PySem.W.notFirst K (He.ga K "Share") (.type "int")),
  (fun K => He.eqO (PySem.W.findIn K (.ref (He.ga K "Share")) "__ne__") (some (some (.builtin "object.__ne__"))))]
structure Txt (K : S.Frag) (mg : Str → Option Value) : Prop where
  F_is_integer : S.FunA K d_is_integer
  F_BadShare___init__ : S.FunA K d_BadShare___init__
  F_common_divisor : S.FunA K d_common_divisor
  F_is_number : S.FunA K d_is_number
  F_top_of : S.FunA K d_top_of
  F_bottom_of : S.FunA K d_bottom_of
  F_Share___init__ : S.FunA K d_Share___init__
  F_Share_over : S.FunA K d_Share_over
  F_Share_floor : S.FunA K d_Share_floor
  F_Share___add__ : S.FunA K d_Share___add__
  F_Share___radd__ : S.FunA K d_Share___radd__
  F_Share___sub__ : S.FunA K d_Share___sub__
  F_Share___rsub__ : S.FunA K d_Share___rsub__
  F_Share___mul__ : S.FunA K d_Share___mul__
  F_Share___rmul__ : S.FunA K d_Share___rmul__
  F_Share___floordiv__ : S.FunA K d_Share___floordiv__
  F_Share___rfloordiv__ : S.FunA K d_Share___rfloordiv__
  F_Share___eq__ : S.FunA K d_Share___eq__
  F__law_cell : S.FunA K d__law_cell
  F__law_take : S.FunA K d__law_take
  F__law_is_integer : S.FunA K d__law_is_integer
  F__law_gcd : S.FunA K d__law_gcd
  F__law_is_share : S.FunA K d__law_is_share
  F__law_part : S.FunA K d__law_part
  F_law : S.FunA K d_law
  g_is_integer : mg "is_integer" = some (.ref (He.ga K "is_integer"))
  g_common_divisor : mg "common_divisor" = some (.ref (He.ga K "common_divisor"))
  g_is_number : mg "is_number" = some (.ref (He.ga K "is_number"))
  g_top_of : mg "top_of" = some (.ref (He.ga K "top_of"))
  g_bottom_of : mg "bottom_of" = some (.ref (He.ga K "bottom_of"))
  g__law_cell : mg "_law_cell" = some (.ref (He.ga K "_law_cell"))
  g__law_take : mg "_law_take" = some (.ref (He.ga K "_law_take"))
  g__law_is_integer : mg "_law_is_integer" = some (.ref (He.ga K "_law_is_integer"))
  g__law_gcd : mg "_law_gcd" = some (.ref (He.ga K "_law_gcd"))
  g__law_is_share : mg "_law_is_share" = some (.ref (He.ga K "_law_is_share"))
  g__law_part : mg "_law_part" = some (.ref (He.ga K "_law_part"))
  g_law : mg "law" = some (.ref (He.ga K "law"))
  g_SeenError : mg "SeenError" = some (.ref (He.ga K "SeenError"))
  g_BadShare : mg "BadShare" = some (.ref (He.ga K "BadShare"))
  g_NoShare : mg "NoShare" = some (.ref (He.ga K "NoShare"))
  g_Share : mg "Share" = some (.ref (He.ga K "Share"))
  n_int : mg "int" = none
  n_bool : mg "bool" = none
  n_str : mg "str" = none
  n_isinstance : mg "isinstance" = none
  n_len : mg "len" = none
  n_range : mg "range" = none
  n_abs : mg "abs" = none
  n_sum : mg "sum" = none
  ox_SeenError : OexC K (He.ga K "SeenError")
  xc_SeenError : ExcC K (He.ga K "SeenError")
  xf_SeenError : XfC K (He.ga K "SeenError")
  xm_SeenError_SeenError : PySem.W.exmOne K (.ref (He.ga K "SeenError")) (.ref (He.ga K "SeenError")) = some true
  xk_SeenError_SeenError : PySem.W.kitOne K (.ref (He.ga K "SeenError")) (.ref (He.ga K "SeenError")) = some true
  xm_SeenError_BadShare : PySem.W.exmOne K (.ref (He.ga K "SeenError")) (.ref (He.ga K "BadShare")) = some false
  xk_SeenError_BadShare : PySem.W.kitOne K (.ref (He.ga K "SeenError")) (.ref (He.ga K "BadShare")) = some false
  xm_SeenError_NoShare : PySem.W.exmOne K (.ref (He.ga K "SeenError")) (.ref (He.ga K "NoShare")) = some false
  xk_SeenError_NoShare : PySem.W.kitOne K (.ref (He.ga K "SeenError")) (.ref (He.ga K "NoShare")) = some false
  ox_BadShare : OexC K (He.ga K "BadShare")
  xc_BadShare : ExcC K (He.ga K "BadShare")
  xf_BadShare : XfC K (He.ga K "BadShare")
  xi_BadShare : PySem.W.findIn K (.ref (He.ga K "BadShare")) "__init__" = some (some (.ref (He.ma K (He.ga K "BadShare") "__init__")))
  xt_BadShare : PySem.W.typeIn K (.ref (He.ma K (He.ga K "BadShare") "__init__")) = some (.type "function")
  xn_BadShare_part : PySem.W.findIn K (.ref (He.ga K "BadShare")) "part" = some none
  xm_BadShare_SeenError : PySem.W.exmOne K (.ref (He.ga K "BadShare")) (.ref (He.ga K "SeenError")) = some true
  xk_BadShare_SeenError : PySem.W.kitOne K (.ref (He.ga K "BadShare")) (.ref (He.ga K "SeenError")) = some true
  xm_BadShare_BadShare : PySem.W.exmOne K (.ref (He.ga K "BadShare")) (.ref (He.ga K "BadShare")) = some true
  xk_BadShare_BadShare : PySem.W.kitOne K (.ref (He.ga K "BadShare")) (.ref (He.ga K "BadShare")) = some true
  xm_BadShare_NoShare : PySem.W.exmOne K (.ref (He.ga K "BadShare")) (.ref (He.ga K "NoShare")) = some false
  xk_BadShare_NoShare : PySem.W.kitOne K (.ref (He.ga K "BadShare")) (.ref (He.ga K "NoShare")) = some false
  ox_NoShare : OexC K (He.ga K "NoShare")
  xc_NoShare : ExcC K (He.ga K "NoShare")
  xf_NoShare : XfC K (He.ga K "NoShare")
  xm_NoShare_SeenError : PySem.W.exmOne K (.ref (He.ga K "NoShare")) (.ref (He.ga K "SeenError")) = some true
  xk_NoShare_SeenError : PySem.W.kitOne K (.ref (He.ga K "NoShare")) (.ref (He.ga K "SeenError")) = some true
  xm_NoShare_BadShare : PySem.W.exmOne K (.ref (He.ga K "NoShare")) (.ref (He.ga K "BadShare")) = some false
  xk_NoShare_BadShare : PySem.W.kitOne K (.ref (He.ga K "NoShare")) (.ref (He.ga K "BadShare")) = some false
  xm_NoShare_NoShare : PySem.W.exmOne K (.ref (He.ga K "NoShare")) (.ref (He.ga K "NoShare")) = some true
  xk_NoShare_NoShare : PySem.W.kitOne K (.ref (He.ga K "NoShare")) (.ref (He.ga K "NoShare")) = some true
  sc_Share : SlX.SCls K (He.ga K "Share")
  si_Share : SlX.SIsi K (He.ga K "Share")
  mk_Share : Mk K (He.ga K "Share") (He.ma K (He.ga K "Share") "__init__")
  sl_Share_bottom : SlX.Slot1 K (He.ga K "Share") "bottom" (S.slA K (He.ga K "Share") "bottom") 0
  sl_Share_top : SlX.Slot1 K (He.ga K "Share") "top" (S.slA K (He.ga K "Share") "top") 1
  me_Share___init__ : Meth K (He.ga K "Share") "__init__" (He.ma K (He.ga K "Share") "__init__")
  me_Share_over : Meth K (He.ga K "Share") "over" (He.ma K (He.ga K "Share") "over")
  me_Share_floor : Meth K (He.ga K "Share") "floor" (He.ma K (He.ga K "Share") "floor")
  me_Share___add__ : Meth K (He.ga K "Share") "__add__" (He.ma K (He.ga K "Share") "__add__")
  me_Share___radd__ : Meth K (He.ga K "Share") "__radd__" (He.ma K (He.ga K "Share") "__radd__")
  me_Share___sub__ : Meth K (He.ga K "Share") "__sub__" (He.ma K (He.ga K "Share") "__sub__")
  me_Share___rsub__ : Meth K (He.ga K "Share") "__rsub__" (He.ma K (He.ga K "Share") "__rsub__")
  me_Share___mul__ : Meth K (He.ga K "Share") "__mul__" (He.ma K (He.ga K "Share") "__mul__")
  me_Share___rmul__ : Meth K (He.ga K "Share") "__rmul__" (He.ma K (He.ga K "Share") "__rmul__")
  me_Share___floordiv__ : Meth K (He.ga K "Share") "__floordiv__" (He.ma K (He.ga K "Share") "__floordiv__")
  me_Share___rfloordiv__ : Meth K (He.ga K "Share") "__rfloordiv__" (He.ma K (He.ga K "Share") "__rfloordiv__")
  me_Share___eq__ : Meth K (He.ga K "Share") "__eq__" (He.ma K (He.ga K "Share") "__eq__")
  kt_Share_int : PySem.W.kitOne K (.ref (He.ga K "Share")) (.type "int") = some false
  kt_Share_bool : PySem.W.kitOne K (.ref (He.ga K "Share")) (.type "bool") = some false
  kt_Share_str : PySem.W.kitOne K (.ref (He.ga K "Share")) (.type "str") = some false
  kt_Share_list : PySem.W.kitOne K (.ref (He.ga K "Share")) (.type "list") = some false
  kt_Share_tuple : PySem.W.kitOne K (.ref (He.ga K "Share")) (.type "tuple") = some false
  kt_Share_dict : PySem.W.kitOne K (.ref (He.ga K "Share")) (.type "dict") = some false
  ko_Share_Share : PySem.W.kitOne K (.ref (He.ga K "Share")) (.ref (He.ga K "Share")) = some true
  kb_Share_int : PySem.W.kitOne K (.type "int") (.ref (He.ga K "Share")) = some false
  kb_Share_bool : PySem.W.kitOne K (.type "bool") (.ref (He.ga K "Share")) = some false
  kb_Share_str : PySem.W.kitOne K (.type "str") (.ref (He.ga K "Share")) = some false
  kb_Share_list : PySem.W.kitOne K (.type "list") (.ref (He.ga K "Share")) = some false
  kb_Share_tuple : PySem.W.kitOne K (.type "tuple") (.ref (He.ga K "Share")) = some false
  kb_Share_dict : PySem.W.kitOne K (.type "dict") (.ref (He.ga K "Share")) = some false
  kb_Share_NoneType : PySem.W.kitOne K (.type "NoneType") (.ref (He.ga K "Share")) = some false
  bn_add : S.BinC K (He.ga K "Share") "add" (He.ma K (He.ga K "Share") "__add__") (He.ma K (He.ga K "Share") "__radd__")
  bn_sub : S.BinC K (He.ga K "Share") "sub" (He.ma K (He.ga K "Share") "__sub__") (He.ma K (He.ga K "Share") "__rsub__")
  bn_mul : S.BinC K (He.ga K "Share") "mul" (He.ma K (He.ga K "Share") "__mul__") (He.ma K (He.ga K "Share") "__rmul__")
  bn_floordiv : S.BinC K (He.ga K "Share") "floordiv" (He.ma K (He.ga K "Share") "__floordiv__") (He.ma K (He.ga K "Share") "__rfloordiv__")
  op_NoShare : S.Ex0 K (He.ga K "NoShare")
  nf_Share : PySem.W.notFirst K (He.ga K "Share") (.type "int") = true
  ne_Share : PySem.W.findIn K (.ref (He.ga K "Share")) "__ne__" = some (some (.builtin "object.__ne__"))
theorem txt_of {K : S.Frag} {h : Heap} {mg : Str → Option Value} (X : K.In h) (G : h.Ns mainGlobals mg) (c : S.SaysX cks fns K) : Txt K mg where
  F_is_integer := c.def_ 0
  F_BadShare___init__ := c.def_ 1
  F_common_divisor := c.def_ 2
  F_is_number := c.def_ 3
  F_top_of := c.def_ 4
  F_bottom_of := c.def_ 5
  F_Share___init__ := c.def_ 6
  F_Share_over := c.def_ 7
  F_Share_floor := c.def_ 8
  F_Share___add__ := c.def_ 9
  F_Share___radd__ := c.def_ 10
  F_Share___sub__ := c.def_ 11
  F_Share___rsub__ := c.def_ 12
  F_Share___mul__ := c.def_ 13
  F_Share___rmul__ := c.def_ 14
  F_Share___floordiv__ := c.def_ 15
  F_Share___rfloordiv__ := c.def_ 16
  F_Share___eq__ := c.def_ 17
  F__law_cell := c.def_ 18
  F__law_take := c.def_ 19
  F__law_is_integer := c.def_ 20
  F__law_gcd := c.def_ 21
  F__law_is_share := c.def_ 22
  F__law_part := c.def_ 23
  F_law := c.def_ 24
  g_is_integer := He.glo_ok X G (c.fact 0)
  g_common_divisor := He.glo_ok X G (c.fact 1)
  g_is_number := He.glo_ok X G (c.fact 2)
  g_top_of := He.glo_ok X G (c.fact 3)
  g_bottom_of := He.glo_ok X G (c.fact 4)
  g__law_cell := He.glo_ok X G (c.fact 5)
  g__law_take := He.glo_ok X G (c.fact 6)
  g__law_is_integer := He.glo_ok X G (c.fact 7)
  g__law_gcd := He.glo_ok X G (c.fact 8)
  g__law_is_share := He.glo_ok X G (c.fact 9)
  g__law_part := He.glo_ok X G (c.fact 10)
  g_law := He.glo_ok X G (c.fact 11)
  g_SeenError := He.glo_ok X G (c.fact 12)
  g_BadShare := He.glo_ok X G (c.fact 13)
  g_NoShare := He.glo_ok X G (c.fact 14)
  g_Share := He.glo_ok X G (c.fact 15)
  n_int := He.free_ok X G (c.fact 16)
  n_bool := He.free_ok X G (c.fact 17)
  n_str := He.free_ok X G (c.fact 18)
  n_isinstance := He.free_ok X G (c.fact 19)
  n_len := He.free_ok X G (c.fact 20)
  n_range := He.free_ok X G (c.fact 21)
  n_abs := He.free_ok X G (c.fact 22)
  n_sum := He.free_ok X G (c.fact 23)
  ox_SeenError := S.oexB_ok (c.fact 24)
  xc_SeenError := S.excB_ok (c.fact 25)
  xf_SeenError := xfB_ok (c.fact 26)
  xm_SeenError_SeenError := He.exm_ok (c.fact 27)
  xk_SeenError_SeenError := of_decide_eq_true (c.fact 28)
  xm_SeenError_BadShare := He.exm_ok (c.fact 29)
  xk_SeenError_BadShare := of_decide_eq_true (c.fact 30)
  xm_SeenError_NoShare := He.exm_ok (c.fact 31)
  xk_SeenError_NoShare := of_decide_eq_true (c.fact 32)
  ox_BadShare := S.oexB_ok (c.fact 33)
  xc_BadShare := S.excB_ok (c.fact 34)
  xf_BadShare := xfB_ok (c.fact 35)
  xi_BadShare := He.eqO_ok (c.fact 36)
  xt_BadShare := of_decide_eq_true (c.fact 37)
  xn_BadShare_part := He.eqO_ok (c.fact 38)
  xm_BadShare_SeenError := He.exm_ok (c.fact 39)
  xk_BadShare_SeenError := of_decide_eq_true (c.fact 40)
  xm_BadShare_BadShare := He.exm_ok (c.fact 41)
  xk_BadShare_BadShare := of_decide_eq_true (c.fact 42)
  xm_BadShare_NoShare := He.exm_ok (c.fact 43)
  xk_BadShare_NoShare := of_decide_eq_true (c.fact 44)
  ox_NoShare := S.oexB_ok (c.fact 45)
  xc_NoShare := S.excB_ok (c.fact 46)
  xf_NoShare := xfB_ok (c.fact 47)
  xm_NoShare_SeenError := He.exm_ok (c.fact 48)
  xk_NoShare_SeenError := of_decide_eq_true (c.fact 49)
  xm_NoShare_BadShare := He.exm_ok (c.fact 50)
  xk_NoShare_BadShare := of_decide_eq_true (c.fact 51)
  xm_NoShare_NoShare := He.exm_ok (c.fact 52)
  xk_NoShare_NoShare := of_decide_eq_true (c.fact 53)
  sc_Share := S.sclB_ok (c.fact 54)
  si_Share := S.sisB_ok (c.fact 55)
  mk_Share := He.mkr_ok (c.fact 56)
  sl_Share_bottom := S.sltB_ok (by decide) (c.fact 57)
  sl_Share_top := S.sltB_ok (by decide) (c.fact 58)
  me_Share___init__ := He.meth_ok (c.fact 59)
  me_Share_over := He.meth_ok (c.fact 60)
  me_Share_floor := He.meth_ok (c.fact 61)
  me_Share___add__ := He.meth_ok (c.fact 62)
  me_Share___radd__ := He.meth_ok (c.fact 63)
  me_Share___sub__ := He.meth_ok (c.fact 64)
  me_Share___rsub__ := He.meth_ok (c.fact 65)
  me_Share___mul__ := He.meth_ok (c.fact 66)
  me_Share___rmul__ := He.meth_ok (c.fact 67)
  me_Share___floordiv__ := He.meth_ok (c.fact 68)
  me_Share___rfloordiv__ := He.meth_ok (c.fact 69)
  me_Share___eq__ := He.meth_ok (c.fact 70)
  kt_Share_int := of_decide_eq_true (c.fact 71)
  kt_Share_bool := of_decide_eq_true (c.fact 72)
  kt_Share_str := of_decide_eq_true (c.fact 73)
  kt_Share_list := of_decide_eq_true (c.fact 74)
  kt_Share_tuple := of_decide_eq_true (c.fact 75)
  kt_Share_dict := of_decide_eq_true (c.fact 76)
  ko_Share_Share := of_decide_eq_true (c.fact 77)
  kb_Share_int := of_decide_eq_true (c.fact 78)
  kb_Share_bool := of_decide_eq_true (c.fact 79)
  kb_Share_str := of_decide_eq_true (c.fact 80)
  kb_Share_list := of_decide_eq_true (c.fact 81)
  kb_Share_tuple := of_decide_eq_true (c.fact 82)
  kb_Share_dict := of_decide_eq_true (c.fact 83)
  kb_Share_NoneType := of_decide_eq_true (c.fact 84)
  bn_add := S.binB_ok (c.fact 85)
  bn_sub := S.binB_ok (c.fact 86)
  bn_mul := S.binB_ok (c.fact 87)
  bn_floordiv := S.binB_ok (c.fact 88)
  op_NoShare := S.ex0B_ok (c.fact 89)
  nf_Share := (c.fact 90)
  ne_Share := He.eqO_ok (c.fact 91)
theorem kb_is_integer_1 {K : S.Frag} {mg : Str → Option Value} (T : Txt K mg) : KBn K (S.fdA K ("is_integer", none)) ["value"] 1 [] (fun us _ => us ++ []) (fun vs _ => vs ++ []) :=
  S.kb_of_binds (T.F_is_integer.bindsN fun _ _ _ _ _ _ us hl => match us, hl with | [_], _ => rfl) .nil rfl
theorem kb_BadShare___init___2 {K : S.Frag} {mg : Str → Option Value} (T : Txt K mg) : KBn K (S.fdA K ("BadShare", some "__init__")) ["self", "part"] 2 [] (fun us _ => us ++ []) (fun vs _ => vs ++ []) :=
  S.kb_of_binds (T.F_BadShare___init__.bindsN fun _ _ _ _ _ _ us hl => match us, hl with | [_, _], _ => rfl) .nil rfl
theorem kb_common_divisor_2 {K : S.Frag} {mg : Str → Option Value} (T : Txt K mg) : KBn K (S.fdA K ("common_divisor", none)) ["first", "second"] 2 [] (fun us _ => us ++ []) (fun vs _ => vs ++ []) :=
  S.kb_of_binds (T.F_common_divisor.bindsN fun _ _ _ _ _ _ us hl => match us, hl with | [_, _], _ => rfl) .nil rfl
theorem kb_top_of_1 {K : S.Frag} {mg : Str → Option Value} (T : Txt K mg) : KBn K (S.fdA K ("top_of", none)) ["value"] 1 [] (fun us _ => us ++ []) (fun vs _ => vs ++ []) :=
  S.kb_of_binds (T.F_top_of.bindsN fun _ _ _ _ _ _ us hl => match us, hl with | [_], _ => rfl) .nil rfl
theorem kb_Share___init___3 {K : S.Frag} {mg : Str → Option Value} (T : Txt K mg) : ∃ g, KBn K (S.fdA K ("Share", some "__init__")) ["self", "top", "bottom"] 3 [] g (fun vs zs => vs) := by
  obtain ⟨_, h⟩ := T.F_Share___init__.kbindsD (ps := ["self", "top", "bottom"]) 3 [] (fun us its ws => us) (List.cons_ne_nil _ _) (fun a b d => a)
    (fun _ _ _ _ _ _ _ us its ws l1 l2 l4 => match us, its, ws, l1, l2, l4 with | [_, _, _], [_], [], _, _, _ => ⟨_, rfl, rfl⟩)
  exact ⟨_, h⟩
theorem kb_bottom_of_1 {K : S.Frag} {mg : Str → Option Value} (T : Txt K mg) : KBn K (S.fdA K ("bottom_of", none)) ["value"] 1 [] (fun us _ => us ++ []) (fun vs _ => vs ++ []) :=
  S.kb_of_binds (T.F_bottom_of.bindsN fun _ _ _ _ _ _ us hl => match us, hl with | [_], _ => rfl) .nil rfl
theorem kb_is_number_1 {K : S.Frag} {mg : Str → Option Value} (T : Txt K mg) : KBn K (S.fdA K ("is_number", none)) ["value"] 1 [] (fun us _ => us ++ []) (fun vs _ => vs ++ []) :=
  S.kb_of_binds (T.F_is_number.bindsN fun _ _ _ _ _ _ us hl => match us, hl with | [_], _ => rfl) .nil rfl
theorem kb__law_is_integer_1 {K : S.Frag} {mg : Str → Option Value} (T : Txt K mg) : KBn K (S.fdA K ("_law_is_integer", none)) ["_law_value"] 1 [] (fun us _ => us ++ []) (fun vs _ => vs ++ []) :=
  S.kb_of_binds (T.F__law_is_integer.bindsN fun _ _ _ _ _ _ us hl => match us, hl with | [_], _ => rfl) .nil rfl
theorem kb__law_gcd_2 {K : S.Frag} {mg : Str → Option Value} (T : Txt K mg) : KBn K (S.fdA K ("_law_gcd", none)) ["_law_one", "_law_two"] 2 [] (fun us _ => us ++ []) (fun vs _ => vs ++ []) :=
  S.kb_of_binds (T.F__law_gcd.bindsN fun _ _ _ _ _ _ us hl => match us, hl with | [_, _], _ => rfl) .nil rfl
theorem kb__law_cell_2 {K : S.Frag} {mg : Str → Option Value} (T : Txt K mg) : KBn K (S.fdA K ("_law_cell", none)) ["_law_script", "_law_k"] 2 [] (fun us _ => us ++ []) (fun vs _ => vs ++ []) :=
  S.kb_of_binds (T.F__law_cell.bindsN fun _ _ _ _ _ _ us hl => match us, hl with | [_, _], _ => rfl) .nil rfl
theorem kb__law_part_1 {K : S.Frag} {mg : Str → Option Value} (T : Txt K mg) : KBn K (S.fdA K ("_law_part", none)) ["_law_cell_here"] 1 [] (fun us _ => us ++ []) (fun vs _ => vs ++ []) :=
  S.kb_of_binds (T.F__law_part.bindsN fun _ _ _ _ _ _ us hl => match us, hl with | [_], _ => rfl) .nil rfl
theorem kb_Share___init___2 {K : S.Frag} {mg : Str → Option Value} (T : Txt K mg) : ∃ g, KBn K (S.fdA K ("Share", some "__init__")) ["self", "top", "bottom"] 2 [] g (fun vs zs => vs ++ (([V.int 1] : List V).drop 0)) := by
  obtain ⟨_, h⟩ := T.F_Share___init__.kbindsD (ps := ["self", "top", "bottom"]) 2 [] (fun us its ws => us ++ (its.drop 0)) (List.cons_ne_nil _ _) (fun a b d => (a.append (b.drop 0)))
    (fun _ _ _ _ _ _ _ us its ws l1 l2 l4 => match us, its, ws, l1, l2, l4 with | [_, _], [_], [], _, _, _ => ⟨_, rfl, rfl⟩)
  exact ⟨_, h⟩
theorem kb_Share_floor_1 {K : S.Frag} {mg : Str → Option Value} (T : Txt K mg) : KBn K (S.fdA K ("Share", some "floor")) ["self"] 1 [] (fun us _ => us ++ []) (fun vs _ => vs ++ []) :=
  S.kb_of_binds (T.F_Share_floor.bindsN fun _ _ _ _ _ _ us hl => match us, hl with | [_], _ => rfl) .nil rfl
theorem kb__law_is_share_3 {K : S.Frag} {mg : Str → Option Value} (T : Txt K mg) : KBn K (S.fdA K ("_law_is_share", none)) ["_law_value", "_law_top", "_law_bottom"] 3 [] (fun us _ => us ++ []) (fun vs _ => vs ++ []) :=
  S.kb_of_binds (T.F__law_is_share.bindsN fun _ _ _ _ _ _ us hl => match us, hl with | [_, _, _], _ => rfl) .nil rfl
theorem kb_Share_over_2 {K : S.Frag} {mg : Str → Option Value} (T : Txt K mg) : KBn K (S.fdA K ("Share", some "over")) ["self", "other"] 2 [] (fun us _ => us ++ []) (fun vs _ => vs ++ []) :=
  S.kb_of_binds (T.F_Share_over.bindsN fun _ _ _ _ _ _ us hl => match us, hl with | [_, _], _ => rfl) .nil rfl
theorem kb_Share___add___2 {K : S.Frag} {mg : Str → Option Value} (T : Txt K mg) : KBn K (S.fdA K ("Share", some "__add__")) ["self", "other"] 2 [] (fun us _ => us ++ []) (fun vs _ => vs ++ []) :=
  S.kb_of_binds (T.F_Share___add__.bindsN fun _ _ _ _ _ _ us hl => match us, hl with | [_, _], _ => rfl) .nil rfl
theorem kb_Share___radd___2 {K : S.Frag} {mg : Str → Option Value} (T : Txt K mg) : KBn K (S.fdA K ("Share", some "__radd__")) ["self", "other"] 2 [] (fun us _ => us ++ []) (fun vs _ => vs ++ []) :=
  S.kb_of_binds (T.F_Share___radd__.bindsN fun _ _ _ _ _ _ us hl => match us, hl with | [_, _], _ => rfl) .nil rfl
theorem kb_Share___sub___2 {K : S.Frag} {mg : Str → Option Value} (T : Txt K mg) : KBn K (S.fdA K ("Share", some "__sub__")) ["self", "other"] 2 [] (fun us _ => us ++ []) (fun vs _ => vs ++ []) :=
  S.kb_of_binds (T.F_Share___sub__.bindsN fun _ _ _ _ _ _ us hl => match us, hl with | [_, _], _ => rfl) .nil rfl
theorem kb_Share___rsub___2 {K : S.Frag} {mg : Str → Option Value} (T : Txt K mg) : KBn K (S.fdA K ("Share", some "__rsub__")) ["self", "other"] 2 [] (fun us _ => us ++ []) (fun vs _ => vs ++ []) :=
  S.kb_of_binds (T.F_Share___rsub__.bindsN fun _ _ _ _ _ _ us hl => match us, hl with | [_, _], _ => rfl) .nil rfl
theorem kb_Share___mul___2 {K : S.Frag} {mg : Str → Option Value} (T : Txt K mg) : KBn K (S.fdA K ("Share", some "__mul__")) ["self", "other"] 2 [] (fun us _ => us ++ []) (fun vs _ => vs ++ []) :=
  S.kb_of_binds (T.F_Share___mul__.bindsN fun _ _ _ _ _ _ us hl => match us, hl with | [_, _], _ => rfl) .nil rfl
theorem kb_Share___rmul___2 {K : S.Frag} {mg : Str → Option Value} (T : Txt K mg) : KBn K (S.fdA K ("Share", some "__rmul__")) ["self", "other"] 2 [] (fun us _ => us ++ []) (fun vs _ => vs ++ []) :=
  S.kb_of_binds (T.F_Share___rmul__.bindsN fun _ _ _ _ _ _ us hl => match us, hl with | [_, _], _ => rfl) .nil rfl
theorem kb_Share___floordiv___2 {K : S.Frag} {mg : Str → Option Value} (T : Txt K mg) : KBn K (S.fdA K ("Share", some "__floordiv__")) ["self", "other"] 2 [] (fun us _ => us ++ []) (fun vs _ => vs ++ []) :=
  S.kb_of_binds (T.F_Share___floordiv__.bindsN fun _ _ _ _ _ _ us hl => match us, hl with | [_, _], _ => rfl) .nil rfl
theorem kb_Share___rfloordiv___2 {K : S.Frag} {mg : Str → Option Value} (T : Txt K mg) : KBn K (S.fdA K ("Share", some "__rfloordiv__")) ["self", "other"] 2 [] (fun us _ => us ++ []) (fun vs _ => vs ++ []) :=
  S.kb_of_binds (T.F_Share___rfloordiv__.bindsN fun _ _ _ _ _ _ us hl => match us, hl with | [_, _], _ => rfl) .nil rfl
theorem kb_Share___eq___2 {K : S.Frag} {mg : Str → Option Value} (T : Txt K mg) : KBn K (S.fdA K ("Share", some "__eq__")) ["self", "other"] 2 [] (fun us _ => us ++ []) (fun vs _ => vs ++ []) :=
  S.kb_of_binds (T.F_Share___eq__.bindsN fun _ _ _ _ _ _ us hl => match us, hl with | [_, _], _ => rfl) .nil rfl
end W

namespace W
open PySem PySem.Spec PyProof.Rows L2
section
variable {P : Program} {w : World} {K : S.Frag} {mg : Str → Option Value} {base : Heap}
open S
theorem isi_true {H : Hp} {i : Int} : TyX K H (.int i) (.type "int") := .base (.int i)
def sp_isint (K : S.Frag) : Sp := Sp1 fun x H Q _ => ∃ b, IsI K H x b ∧ Q (.bl b) H
theorem ok_is_integer (T : Txt K mg) : FnOk P w K mg base (L2.CX P w) 1 (He.fAd K ("is_integer", none)) (S.fdA K ("is_integer", none)) ["value"] (sp_isint K) := by
  refine FunD.ok T.F_is_integer sc_is_integer (fun vs H Q E h => S.splen1 h) (fun cdv A outer s H vs Q E hr h => ?_)
  have hu := hu_of hr
  refine ⟨_, (pss_one (ps_ret (pe_and (pe_callB (S.isiK (K := K) rfl) rfl T.n_isinstance S.boot_isinstance (pa_cons (pv 0) (pa_cons (pe_bltn (v := .ty "int") rfl T.n_int S.boot_int rfl) pa_nil))) (pe_one (pe_not (pe_callB (S.isiK (K := K) rfl) rfl T.n_isinstance S.boot_isinstance (pa_cons (pv 0) (pa_cons (pe_bltn (v := .ty "bool") rfl T.n_bool S.boot_bool rfl) pa_nil)))))))), ?_⟩
  obtain ⟨x, rfl, b, hb, q⟩ := h
  cases hb with
  | int i => exact ⟨_, rfl, _, _, _, _, true, rfl, .ty _, isi_true, kit_ty (by decide +kernel), _, rfl, _, rfl, _, _, _, _, false, rfl, .ty _, isi_true, kit_ty (by decide +kernel), _, rfl, q⟩
  | bl b => exact ⟨_, rfl, _, _, _, _, true, rfl, .ty _, .base (.bl b), kit_ty (by decide +kernel), _, rfl, _, rfl, _, _, _, _, true, rfl, .ty _, .base (.bl b), kit_ty (by decide +kernel), _, rfl, q⟩
  | oth h e => exact ⟨_, rfl, _, _, _, _, false, rfl, .ty _, h, e, _, rfl, q⟩
/-- x is an integer from a to c, or not, as b says -/
def Win (K : S.Frag) (H : Hp) (x : V) (a c : Int) (b : Bool) : Prop := (∃ i, x = .int i ∧ b = (decide (a ≤ i) && decide (i ≤ c))) ∨ (IsI K H x false ∧ b = false)
def sp_within (K : S.Frag) : Sp := Sp3 fun x lo hi H Q _ => ∃ a c b, lo = .int a ∧ hi = .int c ∧ Win K H x a c b ∧ Q (.bl b) H
end
end W

namespace W
open PySem PySem.Spec PyProof.Rows L2
section
variable {P : Program} {w : World} {K : S.Frag} {mg : Str → Option Value} {base : Heap}
open S
/-- the values that the law hands about -/
inductive Od (H : Hp) : V → Prop where
  | int (i : Int) : Od H (.int i)
  | non : Od H .non
  | bl (b : Bool) : Od H (.bl b)
  | str (z : Str) : Od H (.str z)
  | tup {a : Addr} {xs : List V} (h : H a = some (.tup xs)) : Od H (.ref a)
  | lst {a : Addr} {xs : List V} (h : H a = some (.lst xs)) : Od H (.ref a)
  | dK {a : Addr} {xs : List (Key × V)} (h : H a = some (.dK xs)) : Od H (.ref a)
theorem Od.mono {H H' : Hp} {x : V} (h : Od H x) (s : Same H H') : Od H' x := by
  cases h with
  | int i => exact .int i
  | non => exact .non
  | bl b => exact .bl b
  | str z => exact .str z
  | tup h => exact .tup (s _ _ h)
  | lst h => exact .lst (s _ _ h)
  | dK h => exact .dK (s _ _ h)
def isInt : V → Bool
  | .int _ => true
  | _ => false
theorem Od.isi {H : Hp} {x : V} (h : Od H x) : IsI K H x (isInt x) := by
  cases h with
  | int i => exact .int i
  | non => exact .oth (.base .non) (kit_ty (by decide +kernel))
  | bl b => exact .bl b
  | str z => exact .oth (.base (.str z)) (kit_ty (by decide +kernel))
  | tup h => exact .oth (.base (.tup h)) (kit_ty (by decide +kernel))
  | lst h => exact .oth (.base (.lst h)) (kit_ty (by decide +kernel))
  | dK h => exact .oth (.base (.dK h)) (kit_ty (by decide +kernel))
/-- an integer from a to b -/
def inR (a b : Int) : V → Bool
  | .int i => decide (a ≤ i) && decide (i ≤ b)
  | _ => false
theorem Od.within {H : Hp} {x : V} {a b : Int} (h : Od H x) : Win K H x a b (inR a b x) := by
  cases h with
  | int i => exact .inl ⟨i, rfl, rfl⟩
  | non => exact .inr ⟨Od.isi .non, rfl⟩
  | bl b => exact .inr ⟨Od.isi (.bl b), rfl⟩
  | str z => exact .inr ⟨Od.isi (.str z), rfl⟩
  | tup h => exact .inr ⟨Od.isi (.tup h), rfl⟩
  | lst h => exact .inr ⟨Od.isi (.lst h), rfl⟩
  | dK h => exact .inr ⟨Od.isi (.dK h), rfl⟩
end
end W

namespace W
open PySem PySem.Spec PyProof.Rows L2
section
variable {P : Program} {w : World} {K : S.Frag} {mg : Str → Option Value} {base : Heap}
open S
theorem ok__law_cell (T : Txt K mg) : FnOk P w K mg base (L2.CX P w) 1 (He.fAd K ("_law_cell", none)) (S.fdA K ("_law_cell", none)) ["_law_script", "_law_k"] (spCellN K) := by
  refine FunD.ok T.F__law_cell sc__law_cell (fun vs H Q E h => S.splen2 h) (fun cdv A outer s H vs Q E hr h => ?_)
  have hu := hu_of hr
  refine ⟨_, (pss_cons (ps_set (i := 2) sc__law_cell.nd rfl (by first | exact Or.inl rfl | exact Or.inr rfl) pe_int)
      (S.pss_cut (ps_if (pt_cmpR op_lt (pv 1) (pe_callB (S.lenK (K := K) rfl) rfl T.n_len S.boot_len (pa_cons (pv 0) pa_nil)) (nomark _)) (pss_one (ps_set (i := 2) sc__law_cell.nd rfl (by first | exact Or.inl rfl | exact Or.inr rfl) (pe_ix (S.ixK (K := K) rfl) (pv 0) (pv 1) (fun _ _ => rfl)))) pss_nil)
      (pss_cons (ps_if (pt_cmpR op_ge (pv 2) (pe_op op_pow pe_int pe_int) (nomark _)) (pss_one (ps_ret (pv 2))) pss_nil)
      (pss_cons (ps_set (i := 3) sc__law_cell.nd rfl (by first | exact Or.inl rfl | exact Or.inr rfl) (pe_op op_mod (pe_callTy call_int1 rfl T.n_int S.boot_int (pa_cons (pe_op op_add (pe_op op_add (pe_op S.op_mulA (pv 2) pe_int) (pe_op S.op_mulA (pv 1) pe_int)) pe_int) pa_nil)) pe_int))
      (pss_cons (ps_set (i := 4) sc__law_cell.nd rfl (by first | exact Or.inl rfl | exact Or.inr rfl) pe_int)
      (pss_cons (ps_for (S.own_of rfl) rfl (pi_range1 rfl T.n_range (pa_cons pe_int pa_nil)) (pg_name (i := 5) sc__law_cell.nd rfl (by first | exact Or.inl rfl | exact Or.inr rfl))
        (pss_cons (ps_set (i := 3) sc__law_cell.nd rfl (by first | exact Or.inl rfl | exact Or.inr rfl) (pe_op op_mod (pe_callTy call_int1 rfl T.n_int S.boot_int (pa_cons (pe_op op_add (pe_op op_add (pe_op S.op_mulA (pv 3) pe_int) (pe_op S.op_mulA (pv 5) pe_int)) pe_int) pa_nil)) pe_int))
      (pss_cons (ps_set (i := 3) sc__law_cell.nd rfl (by first | exact Or.inl rfl | exact Or.inr rfl) (pe_op op_mod (pe_callTy call_int1 rfl T.n_int S.boot_int (pa_cons (pe_op S.op_mulA (pv 3) (pe_op op_add (pe_op op_fdivW (pv 3) pe_int) pe_int)) pa_nil)) pe_int))
      (pss_one (ps_set (i := 4) sc__law_cell.nd rfl (by first | exact Or.inl rfl | exact Or.inr rfl) (pe_op op_add (pe_op S.op_mulA (pv 4) pe_int) (pv 3)))))))
      (pss_one (ps_ret (pv 4))))))))), ?_⟩
  obtain ⟨_, _, rfl, a, ns, k, rfl, rfl, hk, hS, q⟩ := h
  refine ⟨fun τ J => J = H ∧ ∃ c : Int, τ = [some (.ref a), some (.int k), some (.int c), none, none, none], ?_, ?_⟩
  · refine ⟨_, rfl, _, rfl, _, (ns.map V.int).length, rfl, .inl ⟨_, hS, rfl⟩, _, _, rfl, rfl, _, rfl, ?_⟩
    by_cases c : k < ((ns.map V.int).length : Int)
    · obtain ⟨m, rfl⟩ : ∃ m : Nat, k = (m : Int) := ⟨k.toNat, by omega⟩
      rw [List.length_map] at c
      exact iteY (by simpa using c) ⟨_, rfl, _, rfl, .inl ⟨a, _, _, _, rfl, rfl, hS, int_at (by omega), rfl, _, rfl⟩⟩
    · exact iteN (by simpa using c) ⟨rfl, _, rfl⟩
  · rintro τ J ⟨rfl, c, rfl⟩
    refine ⟨_, rfl, _, _, rfl, rfl, ⟨by decide, by decide, by decide⟩, _, _, rfl, rfl, _, rfl, ?_⟩
    refine ite2 (fun h => ⟨_, rfl, q _ ?_⟩) (fun _ => ?_)
    · have h2 : (10 : Int) ^ 18 ≤ c := by simpa using h
      omega
    refine ⟨_, rfl, _, _, rfl, rfl, mul_small (by decide), _, rfl, _, _, rfl, rfl, mul_small (by decide), _, _, rfl, rfl, _, _, rfl, rfl, .inl ⟨_, rfl, _, _, rfl, rfl, (by show (0 : Int) < 2147483647; decide), ?_⟩⟩
    refine ⟨8, rfl, by decide, by decide, for_range (n := 8) (fun i σ J2 => J2 = J ∧ ∃ (x y : Int) (st : Option V), 0 ≤ x ∧ x < 2147483647 ∧ 0 ≤ y ∧ σ = [some (.ref a), some (.int k), some (.int c), some (.int x), some (.int y), st]) ⟨rfl, _, _, none, Int.emod_nonneg _ (by decide), Int.emod_lt_of_pos _ (by decide), Int.le_refl 0, rfl⟩ ?_ ?_⟩
    · rintro i σ J2 hi ⟨rfl, x, y, st, h0, h1, hy, rfl⟩
      refine ⟨_, rfl, _, _, rfl, rfl, mul_small (by decide), _, rfl, _, _, rfl, rfl, mul_small (by decide), _, _, rfl, rfl, _, _, rfl, rfl, .inl ⟨_, rfl, _, _, rfl, rfl, (by show (0 : Int) < 2147483647; decide), ?_⟩⟩
      refine ⟨_, rfl, _, rfl, _, _, rfl, rfl, div_small (by decide) (by decide), _, _, rfl, rfl, _, _, rfl, rfl, mul_smallL (mod_small _ (by decide) (by decide)), .inl ⟨_, rfl, _, _, rfl, rfl, (by show (0 : Int) < 2147483629; decide), ?_⟩⟩
      refine ⟨_, rfl, _, _, rfl, rfl, mul_small (by decide), _, rfl, _, _, rfl, rfl, rfl, _, _, some (.int (0 + (i : Int))), mod_lo _ (by decide), Int.lt_trans (mod_hi _ (by decide)) (by decide), ?_, rfl⟩
      exact Int.add_nonneg (Int.mul_nonneg hy (by decide)) (mod_lo _ (by decide))
    · rintro σ J2 ⟨rfl, x, y, st, _, _, hy, rfl⟩
      exact ⟨_, rfl, q y hy⟩
def spTake : Sp := Sp2 fun x y H Q _ => ∃ (a : Addr) (n m : Int), x = .ref a ∧ H a = some (.lst [.int n]) ∧ y = .int m ∧ 0 < m ∧ m < 2 ^ 64 ∧ ∀ t n', 0 ≤ t → t < m → Q (.int t) (upd H a (.lst [.int n']))
theorem ok__law_take (T : Txt K mg) : FnOk P w K mg base (L2.CX P w) 1 (He.fAd K ("_law_take", none)) (S.fdA K ("_law_take", none)) ["_law_draw", "_law_size"] (spTake) := by
  refine FunD.ok T.F__law_take sc__law_take (fun vs H Q E h => S.splen2 h) (fun cdv A outer s H vs Q E hr h => ?_)
  have hu := hu_of hr
  refine ⟨_, (pss_cons (ps_set (i := 2) sc__law_take.nd rfl (by first | exact Or.inl rfl | exact Or.inr rfl) (pe_op op_mod (pe_callTy call_int1 rfl T.n_int S.boot_int (pa_cons (pe_ix (S.ixK (K := K) rfl) (pv 0) pe_int (fun _ _ => rfl)) pa_nil)) (pv 1)))
      (pss_cons (ps_asg (pe_op op_fdivW (pe_ix (S.ixK (K := K) rfl) (pv 0) pe_int (fun _ _ => rfl)) (pv 1)) (pg_sub (pv 0) pe_int set_list))
      (pss_one (ps_ret (pv 2))))), ?_⟩
  obtain ⟨_, _, rfl, a, n, m, rfl, ha, rfl, h0, h1, q⟩ := h
  refine ⟨_, rfl, .inl ⟨a, _, 0, _, rfl, rfl, .inl (.inl ha), rfl, .inl ⟨_, rfl, _, rfl, _, _, rfl, rfl, h0, ?_⟩⟩⟩
  refine ⟨_, rfl, .inl ⟨a, _, 0, _, rfl, rfl, .inl (.inl ha), rfl, _, rfl, _, _, rfl, rfl, div_small h0 h1, ?_⟩⟩
  exact ⟨_, rfl, a, _, 0, 0, rfl, rfl, ha, rfl, _, rfl, q _ _ (mod_lo _ h0) (mod_hi _ h0)⟩
end
end W

namespace W
open PySem PySem.Spec PyProof.Rows L2
section
variable {P : Program} {w : World} {K : S.Frag} {mg : Str → Option Value} {base : Heap}
open S
/-- the draws at a went on, all else stands -/
structure Dr (a : Addr) (H H' : Hp) : Prop where
  at_ : ∃ m : Int, H' a = some (.lst [.int m])
  kp : ∀ b o, b ≠ a → H b = some o → H' b = some o
theorem Dr.trans {a : Addr} {H H1 H2 : Hp} (x : Dr a H H1) (y : Dr a H1 H2) : Dr a H H2 := ⟨y.at_, fun b o n h => y.kp b o n (x.kp b o n h)⟩
theorem Dr.upd {a : Addr} {H : Hp} {n : Int} : Dr a H (upd H a (.lst [.int n])) := ⟨⟨n, upd_same⟩, fun b o nb h => by rw [upd_ne nb]; exact h⟩
theorem Dr.same {a : Addr} {H H' : Hp} {n : Int} (h : H a = some (.lst [.int n])) (s : Same H H') : Dr a H H' := ⟨⟨n, s _ _ h⟩, fun b o _ h => s b o h⟩
/-- values that do not lean on the draws -/
inductive Oa (a : Addr) (H : Hp) : V → Prop where
  | int (i : Int) : Oa a H (.int i)
  | non : Oa a H .non
  | bl (b : Bool) : Oa a H (.bl b)
  | str (z : Str) : Oa a H (.str z)
  | tup {c : Addr} {xs : List V} (n : c ≠ a) (h : H c = some (.tup xs)) : Oa a H (.ref c)
  | lst {c : Addr} {xs : List V} (n : c ≠ a) (h : H c = some (.lst xs)) : Oa a H (.ref c)
  | dK {c : Addr} {xs : List (Key × V)} (n : c ≠ a) (h : H c = some (.dK xs)) : Oa a H (.ref c)
theorem Oa.od {a : Addr} {H : Hp} {x : V} (h : Oa a H x) : Od H x := by
  cases h with
  | int i => exact .int i
  | non => exact .non
  | bl b => exact .bl b
  | str z => exact .str z
  | tup n h => exact .tup h
  | lst n h => exact .lst h
  | dK n h => exact .dK h
theorem Oa.dr {a : Addr} {H H' : Hp} {x : V} (h : Oa a H x) (d : Dr a H H') : Oa a H' x := by
  cases h with
  | int i => exact .int i
  | non => exact .non
  | bl b => exact .bl b
  | str z => exact .str z
  | tup n h => exact .tup n (d.kp _ _ n h)
  | lst n h => exact .lst n (d.kp _ _ n h)
  | dK n h => exact .dK n (d.kp _ _ n h)
theorem ix3 {H : Hp} {a : Addr} {xs : List V} {v : V} {i : Int} {Q : VK} (ha : H a = some (.lst xs)) (e : atI xs i = some v) (q : Q v H) : rIx K (.ref a) (.int i) H Q := .inl ⟨a, _, _, _, rfl, rfl, .inl (.inl ha), e, q⟩
theorem ixT {H : Hp} {a : Addr} {xs : List V} {v : V} {i : Int} {Q : VK} (ha : H a = some (.tup xs)) (e : atI xs i = some v) (q : Q v H) : rIx K (.ref a) (.int i) H Q := .inr (.inl ⟨a, _, _, _, rfl, rfl, .inl (.inl ha), e, q⟩)
theorem isInt_int {x : V} (h : isInt x = true) : ∃ i, x = .int i := by cases x <;> first | exact ⟨_, rfl⟩ | cases h
theorem inR_not {x : V} {a b : Int} (h : isInt x = false) : inR a b x = false := by cases x <;> first | rfl | cases h
/-- one new thing at r beside what stood -/
theorem dr_same {r : Addr} {H H1 H2 : Hp} (h : Same H H1) (n : H r = none) (d : Dr r H1 H2) : Same H H2 := fun b o e => d.kp b o (ne_of_none e n) (h b o e)
end
end W

namespace W
open PySem PySem.Spec PyProof.Rows L2
section
variable {P : Program} {w : World} {K : S.Frag} {mg : Str → Option Value} {base : Heap}
open S
theorem ok__law_is_integer (T : Txt K mg) : FnOk P w K mg base (L2.CX P w) 1 (He.fAd K ("_law_is_integer", none)) (S.fdA K ("_law_is_integer", none)) ["_law_value"] (sp_isint K) := by
  refine FunD.ok T.F__law_is_integer sc__law_is_integer (fun vs H Q E h => S.splen1 h) (fun cdv A outer s H vs Q E hr h => ?_)
  have hu := hu_of hr
  refine ⟨_, (pss_one (ps_ret (pe_and (pe_callB (S.isiK (K := K) rfl) rfl T.n_isinstance S.boot_isinstance (pa_cons (pv 0) (pa_cons (pe_bltn (v := .ty "int") rfl T.n_int S.boot_int rfl) pa_nil))) (pe_one (pe_not (pe_callB (S.isiK (K := K) rfl) rfl T.n_isinstance S.boot_isinstance (pa_cons (pv 0) (pa_cons (pe_bltn (v := .ty "bool") rfl T.n_bool S.boot_bool rfl) pa_nil)))))))), ?_⟩
  obtain ⟨x, rfl, b, hb, q⟩ := h
  cases hb with
  | int i => exact ⟨_, rfl, _, _, _, _, true, rfl, .ty _, isi_true, kit_ty (by decide +kernel), _, rfl, _, rfl, _, _, _, _, false, rfl, .ty _, isi_true, kit_ty (by decide +kernel), _, rfl, q⟩
  | bl b => exact ⟨_, rfl, _, _, _, _, true, rfl, .ty _, .base (.bl b), kit_ty (by decide +kernel), _, rfl, _, rfl, _, _, _, _, true, rfl, .ty _, .base (.bl b), kit_ty (by decide +kernel), _, rfl, q⟩
  | oth h e => exact ⟨_, rfl, _, _, _, _, false, rfl, .ty _, h, e, _, rfl, q⟩
end
end W

namespace W
open PySem PySem.Spec PyProof.Rows L2
section
variable {P : Program} {w : World} {K : S.Frag} {mg : Str → Option Value} {base : Heap}
open S
/-! plain law of lowest terms -/
def gI (a b : Int) : Int := ((Nat.gcd a.natAbs b.natAbs : Nat) : Int)
def loT (t b : Int) : Int := (if b < 0 then -t else t) / gI t b
def loB (t b : Int) : Int := (if b < 0 then -b else b) / gI t b
theorem gI_pos {t b : Int} (h : b ≠ 0) : 0 < gI t b := by
  have : 0 < Nat.gcd t.natAbs b.natAbs := Nat.gcd_pos_of_pos_right _ (by omega)
  unfold gI
  omega
theorem gI_le {t b : Int} (h : b ≠ 0) : (gI t b).natAbs ≤ b.natAbs := by
  have : Nat.gcd t.natAbs b.natAbs ≤ b.natAbs := Nat.gcd_le_right _ (by omega)
  unfold gI
  omega
theorem gI_dT (t b : Int) : gI t b ∣ (if b < 0 then -t else t) := by
  have h : gI t b ∣ t := Int.ofNat_dvd_left.mpr (Nat.gcd_dvd_left _ _)
  split
  · exact Int.dvd_neg.mpr h
  · exact h
theorem gI_dB (t b : Int) : gI t b ∣ (if b < 0 then -b else b) := by
  have h : gI t b ∣ b := Int.ofNat_dvd_left.mpr (Nat.gcd_dvd_right _ _)
  split
  · exact Int.dvd_neg.mpr h
  · exact h
theorem lo_eT {t b : Int} : loT t b * gI t b = if b < 0 then -t else t := Int.ediv_mul_cancel (gI_dT t b)
theorem lo_eB {t b : Int} : loB t b * gI t b = if b < 0 then -b else b := Int.ediv_mul_cancel (gI_dB t b)
theorem loB_pos {t b : Int} (h : b ≠ 0) : 0 < loB t b := by
  have g := gI_pos (t := t) h
  have e := lo_eB (t := t) (b := b)
  have p : 0 < (if b < 0 then -b else b) := by split <;> omega
  rw [← e] at p
  exact Int.pos_of_mul_pos_left p g
theorem lo_same {t b : Int} (h : b ≠ 0) : loT t b * b = t * loB t b := by
  have g := gI_pos (t := t) h
  have e1 := lo_eT (t := t) (b := b)
  have e2 := lo_eB (t := t) (b := b)
  refine Int.eq_of_mul_eq_mul_right (Int.ne_of_gt g) ?_
  rw [Int.mul_right_comm, e1, Int.mul_assoc, e2]
  split
  · rw [Int.neg_mul, Int.mul_neg]
  · rfl
theorem lo_one {t b : Int} (h : b ≠ 0) : gI (loT t b) (loB t b) = 1 := by
  have e1 : (loT t b).natAbs * Nat.gcd t.natAbs b.natAbs = t.natAbs := by
    have := congrArg Int.natAbs (lo_eT (t := t) (b := b))
    rw [Int.natAbs_mul] at this
    refine this.trans ?_
    split
    · exact Int.natAbs_neg t
    · rfl
  have e2 : (loB t b).natAbs * Nat.gcd t.natAbs b.natAbs = b.natAbs := by
    have := congrArg Int.natAbs (lo_eB (t := t) (b := b))
    rw [Int.natAbs_mul] at this
    refine this.trans ?_
    split
    · exact Int.natAbs_neg b
    · rfl
  have gp : 0 < Nat.gcd t.natAbs b.natAbs := Nat.gcd_pos_of_pos_right _ (by omega)
  have e3 : Nat.gcd (loT t b).natAbs (loB t b).natAbs * Nat.gcd t.natAbs b.natAbs = 1 * Nat.gcd t.natAbs b.natAbs := by
    rw [← Nat.gcd_mul_right, e1, e2, Nat.one_mul]
  have := Nat.eq_of_mul_eq_mul_right gp e3
  unfold gI
  rw [this]
  rfl
theorem lo_leT {t b : Int} (h : b ≠ 0) : (loT t b).natAbs ≤ t.natAbs := by
  have g := gI_pos (t := t) h
  have := congrArg Int.natAbs (lo_eT (t := t) (b := b))
  rw [Int.natAbs_mul] at this
  have e : (if b < 0 then -t else t).natAbs = t.natAbs := by split <;> omega
  rw [← e, ← this]
  exact Nat.le_mul_of_pos_right _ (by omega)
theorem lo_leB {t b : Int} (h : b ≠ 0) : (loB t b).natAbs ≤ b.natAbs := by
  have g := gI_pos (t := t) h
  have := congrArg Int.natAbs (lo_eB (t := t) (b := b))
  rw [Int.natAbs_mul] at this
  have e : (if b < 0 then -b else b).natAbs = b.natAbs := by split <;> omega
  rw [← e, ← this]
  exact Nat.le_mul_of_pos_right _ (by omega)
theorem gI_one (t : Int) : gI t 1 = 1 := by
  unfold gI
  rw [show (1 : Int).natAbs = 1 from rfl, Nat.gcd_one_right]
  rfl
theorem loT_1 (t : Int) : loT t 1 = t := by
  unfold loT
  rw [gI_one, if_neg (by decide), Int.ediv_one]
theorem loB_1 (t : Int) : loB t 1 = 1 := by
  unfold loB
  rw [gI_one]
  decide
/-! the walk -/
theorem ok_BadShare___init__ (T : Txt K mg) : FnOk P w K mg base (L2.CX P w) 1 (He.fAd K ("BadShare", some "__init__")) (S.fdA K ("BadShare", some "__init__")) ["self", "part"] (sp_err (He.ga K "BadShare") "part") := by
  refine FunD.ok T.F_BadShare___init__ sc_BadShare___init__ (fun vs H Q E h => S.splen2 h) (fun cdv A outer s H vs Q E hr h => ?_)
  have hu := hu_of hr
  refine ⟨_, (pss_one (S.ps_ostK (K := K) rfl (pv 0) (pv 1) rfl)), ?_⟩
  obtain ⟨_, y, rfl, a, rfl, ha, k⟩ := h
  exact ⟨_, rfl, _, rfl, a, _, rfl, T.ox_BadShare, T.xn_BadShare_part, .inl ⟨ha, k⟩⟩
def spGcd : Sp := Sp2 fun x y H Q _ => ∃ a b : Int, x = .int a ∧ y = .int b ∧ 0 ≤ a ∧ 0 ≤ b ∧ Q (.int (gI a b)) H
theorem ok_common_divisor (T : Txt K mg) : FnOk P w K mg base (L2.CX P w) 1 (He.fAd K ("common_divisor", none)) (S.fdA K ("common_divisor", none)) ["first", "second"] (spGcd) := by
  refine FunD.ok T.F_common_divisor sc_common_divisor (fun vs H Q E h => S.splen2 h) (fun cdv A outer s H vs Q E hr h => ?_)
  have hu := hu_of hr
  refine ⟨_, (pss_cons (ps_while (S.own_of rfl) (pt_cmpR op_gt (pv 1) pe_int (nomark _))
        (pss_one (ps_par (i := 0) (j := 1) rfl sc_common_divisor.nd rfl rfl (by decide) rfl rfl (pa_cons (pv 1) (pa_cons (pe_op op_mod (pv 0) (pv 1)) pa_nil)) rfl)))
      (pss_one (ps_ret (pv 0)))), ?_⟩
  obtain ⟨_, _, rfl, a, b, rfl, rfl, ha, hb, q⟩ := h
  refine while_by (fun σ J => J = H ∧ ∃ m n : Nat, Nat.gcd m n = Nat.gcd a.natAbs b.natAbs ∧ σ = [some (.int (m : Int)), some (.int (n : Int))]) (fun σ J => match σ with | [_, some (.int n)] => n.natAbs | _ => 0) ⟨rfl, a.natAbs, b.natAbs, rfl, by rw [Int.natAbs_of_nonneg ha, Int.natAbs_of_nonneg hb]; rfl⟩ ?_ ?_
  · rintro σ J ⟨rfl, m, n, e, rfl⟩
    refine ⟨_, rfl, _, _, rfl, rfl, _, rfl, ?_⟩
    by_cases hn : 0 < n
    · refine iteY (by simpa using hn) ⟨_, rfl, _, rfl, _, rfl, _, _, rfl, rfl, (by omega : (0 : Int) < (n : Int)), _, _, rfl, ⟨rfl, n, m % n, ?_, rfl⟩, ?_⟩
      · rw [Nat.gcd_comm n, ← e, Nat.gcd_comm m n, Nat.gcd_rec n m]
      · exact Nat.mod_lt m hn
    · obtain rfl : n = 0 := by omega
      refine iteN (by simp) ⟨_, rfl, ?_⟩
      rw [Nat.gcd_zero_right] at e
      rw [e]
      exact q
  · exact fun σ J Q Q' k h => by
      obtain ⟨x, hx, y, z, e1, e2, b, hb, h⟩ := h
      exact ⟨x, hx, y, z, e1, e2, b, hb, k _ _ h⟩
def ShAt (K : S.Frag) (H : Hp) (a : Addr) (t b : Int) : Prop := ∃ dx vs, SlX.Slt H a (He.ga K "Share") dx vs ∧ vs[1]? = some (some (.int t)) ∧ vs[0]? = some (some (.int b))
theorem ShAt.same {H H' : Hp} {a : Addr} {t b : Int} (h : ShAt K H a t b) (s : Same H H') : ShAt K H' a t b := by
  obtain ⟨dx, vs, h, h1, h2⟩ := h
  refine ⟨dx, vs, ?_, h1, h2⟩
  rcases h with ⟨x, y⟩ | ⟨x, y⟩
  · exact .inl ⟨s _ _ x, y⟩
  · exact .inr ⟨s _ _ x, s _ _ y⟩
def intV : V → Int
  | .int i => i
  | _ => 0
/-- what is wrong with a top and a bottom, or "" -/
def dueS (t b : V) : Str := if !isInt t then "top" else if !isInt b || decide (intV b = 0) then "bottom" else ""
def bigV (x : V) : Prop := (intV x).natAbs < 2 ^ 4000
def spShare (K : S.Frag) : Sp := Sp3 fun self t b H Q E => ∃ p dx, self = .ref p ∧ H p = some (.ins (He.ga K "Share") dx []) ∧ dx ≠ p ∧ Od H t ∧ Od H b ∧ bigV t ∧ bigV b ∧
  (dueS t b = "" → ∀ H', (∀ c o, H c = some o → c ≠ p → c ≠ dx → H' c = some o) → ShAt K H' p (loT (intV t) (intV b)) (loB (intV t) (intV b)) → Q .non H') ∧
  (dueS t b ≠ "" → ∀ d H', H d = none → Same H H' → H' d = some (.xd [("part", .str (dueS t b))]) → E (.ref (He.ga K "BadShare")) (some d) H')
theorem ok_Share___init__ (T : Txt K mg) : FnOk P w K mg base (L2.CX P w) 3 (He.fAd K ("Share", some "__init__")) (S.fdA K ("Share", some "__init__")) ["self", "top", "bottom"] (spShare K) := by
  have G_is_integer := ok_is_integer (P := P) (w := w) (base := base) T
  have G_BadShare___init__ := ok_BadShare___init__ (P := P) (w := w) (base := base) T
  have G_common_divisor := ok_common_divisor (P := P) (w := w) (base := base) T
  refine FunD.ok T.F_Share___init__ sc_Share___init__ (fun vs H Q E h => S.splen3 h) (fun cdv A outer s H vs Q E hr h => ?_)
  have hu := hu_of hr
  refine ⟨_, (pss_cons (ps_if (pt_not (pt_val (S.pe_fnS G_is_integer (hr.mono (by decide)) rfl T.g_is_integer T.F_is_integer.kp (kb_is_integer_1 T) S.pas0 (pa_cons (pv 1) pa_nil) pk_nil rfl rfl))) (pss_one (S.ps_raiseO rfl (takes_of rfl rfl rfl rfl) T.ox_BadShare T.xi_BadShare T.xt_BadShare G_BadShare___init__ (hr.mono (by decide)) (kb_BadShare___init___2 T) rfl T.g_BadShare (pa_cons pe_str pa_nil))) pss_nil)
      (pss_cons (ps_if (PW.pt (pw_or (pt_not (pt_val (S.pe_fnS G_is_integer (hr.mono (by decide)) rfl T.g_is_integer T.F_is_integer.kp (kb_is_integer_1 T) S.pas0 (pa_cons (pv 2) pa_nil) pk_nil rfl rfl))) (pw_or1 (pt_cmpR op_eq (pv 2) pe_int (nomark _))))) (pss_one (S.ps_raiseO rfl (takes_of rfl rfl rfl rfl) T.ox_BadShare T.xi_BadShare T.xt_BadShare G_BadShare___init__ (hr.mono (by decide)) (kb_BadShare___init___2 T) rfl T.g_BadShare (pa_cons pe_str pa_nil))) pss_nil)
      (S.pss_cut (ps_if (pt_cmpR op_lt (pv 2) pe_int (nomark _)) (pss_one (ps_par (i := 1) (j := 2) rfl sc_Share___init__.nd rfl rfl (by decide) rfl rfl (pa_cons (pe_un un_neg (pv 1)) (pa_cons (pe_un un_neg (pv 2)) pa_nil)) rfl)) pss_nil)
      (pss_cons (ps_set (i := 3) sc_Share___init__.nd rfl (by first | exact Or.inl rfl | exact Or.inr rfl) (S.pe_fnS G_common_divisor (hr.mono (by decide)) rfl T.g_common_divisor T.F_common_divisor.kp (kb_common_divisor_2 T) S.pas0 (pa_cons (pe_callB call_abs rfl T.n_abs S.boot_abs (pa_cons (pv 1) pa_nil)) (pa_cons (pv 2) pa_nil)) pk_nil rfl rfl))
      (pss_cons (S.ps_slK (K := K) rfl (pv 0) (pe_op op_fdivW (pv 1) (pv 3)) rfl)
      (pss_one (S.ps_slK (K := K) rfl (pv 0) (pe_op op_fdivW (pv 2) (pv 3)) rfl))))))), ?_⟩
  obtain ⟨_, t, b, rfl, p, dx, rfl, hp, ne, ot, ob, bt, bb, k1, k2⟩ := h
  refine ⟨_, rfl, rfl, rfl, t, rfl, _, ot.isi, _, rfl, ?_⟩
  cases c1 : isInt t with
  | false =>
    have e : dueS t b = "top" := by simp [dueS, c1]
    rw [e] at k2
    exact iteT (raise_err (.str "top") (k2 (by decide +kernel)))
  | true =>
    obtain ⟨i, rfl⟩ := isInt_int c1
    refine iteF ⟨_, rfl, rfl, rfl, _, rfl, _, ob.isi, _, rfl, ?_⟩
    have bad : dueS (.int i) b = "bottom" → _ := fun e => k2 (by rw [e]; decide +kernel)
    cases c2 : isInt b with
    | false =>
      have e : dueS (.int i) b = "bottom" := by simp [dueS, c1, c2]
      have z := bad e
      rw [e] at z
      exact iteT (iteT (raise_err (.str "bottom") z))
    | true =>
      obtain ⟨j, rfl⟩ := isInt_int c2
      refine iteF ⟨_, rfl, rfl, _, rfl, ?_⟩
      by_cases c3 : j = 0
      · have e : dueS (.int i) (.int j) = "bottom" := by simp [dueS, c1, c2, c3, intV]
        have z := bad e
        rw [e] at z
        exact iteY (by simp [c3]) (raise_err (.str "bottom") z)
      · refine iteN (by simp [c3]) ⟨fun τ J => J = H ∧ τ = [some (.ref p), some (.int (if j < 0 then -i else i)), some (.int (if j < 0 then -j else j)), none], ?_, ?_⟩
        · refine ⟨_, rfl, _, _, rfl, rfl, _, rfl, ?_⟩
          by_cases c4 : j < 0
          · exact iteY (by simpa using c4) ⟨_, rfl, _, rfl, _, rfl, _, rfl, _, _, rfl, rfl, by rw [if_pos c4, if_pos c4]; rfl⟩
          · exact iteN (by simpa using c4) ⟨rfl, by rw [if_neg c4, if_neg c4]; rfl⟩
        · rintro τ J ⟨rfl, rfl⟩
          have jp : 0 ≤ (if j < 0 then -j else j) := by split <;> omega
          have g0 : gI (if (if j < 0 then -i else i) < 0 then -(if j < 0 then -i else i) else (if j < 0 then -i else i)) (if j < 0 then -j else j) = gI i j := by
            unfold gI
            have e1 : (if (if j < 0 then -i else i) < 0 then -(if j < 0 then -i else i) else (if j < 0 then -i else i)).natAbs = i.natAbs := by split <;> split <;> omega
            have e2 : (if j < 0 then -j else j).natAbs = j.natAbs := by split <;> omega
            rw [e1, e2]
          have gp := gI_pos (t := i) c3
          have gw : (gI i j).natAbs < 2 ^ 4000 := Nat.lt_of_le_of_lt (gI_le c3) bb
          have cw : ∀ x, CDivW x (gI i j) := fun x => wide_div (b := 4000) gp gw (by decide) (by decide)
          refine ⟨_, rfl, _, rfl, _, rfl, rfl, rfl, _, _, rfl, _, _, rfl, rfl, (by split <;> omega), jp, ?_⟩
          rw [g0]
          refine ⟨_, rfl, _, rfl, _, _, rfl, rfl, cw _, _, rfl, p, _, dx, _, _, 1, rfl, .inl ⟨hp, rfl⟩, T.sc_Share, T.sl_Share_top, ?_⟩
          refine ⟨_, rfl, _, rfl, _, _, rfl, rfl, cw _, _, rfl, p, _, dx, _, _, 0, rfl, SlX.slH_slt ne, T.sc_Share, T.sl_Share_bottom, ?_⟩
          refine k1 (by simp [dueS, isInt, intV, c3]) _ (fun c o hc n1 n2 => ?_) ⟨dx, _, SlX.slH_slt ne, ?_, SlX.putS_get _ _ _⟩
          · rw [SlX.slH_ne n1 n2, SlX.slH_ne n1 n2]
            exact hc
          · exact (SlX.putS_ne (by decide)).mpr (SlX.putS_get _ _ _)
def spFloor (K : S.Frag) : Sp := Sp1 fun x H Q _ => ∃ a t b, x = .ref a ∧ ShAt K H a t b ∧ 0 < b ∧ b.natAbs < 2 ^ 4000 ∧ Q (.int (t / b)) H
theorem ok_Share_floor (T : Txt K mg) : FnOk P w K mg base (L2.CX P w) 1 (He.fAd K ("Share", some "floor")) (S.fdA K ("Share", some "floor")) ["self"] (spFloor K) := by
  refine FunD.ok T.F_Share_floor sc_Share_floor (fun vs H Q E h => S.splen1 h) (fun cdv A outer s H vs Q E hr h => ?_)
  have hu := hu_of hr
  refine ⟨_, (pss_one (ps_ret (pe_op op_fdivW (S.pe_slK (K := K) rfl (pv 0) rfl) (S.pe_slK (K := K) rfl (pv 0) rfl)))), ?_⟩
  obtain ⟨_, rfl, a, t, b, rfl, ⟨dx, vs, hs, h0, h1⟩, hb, bb, q⟩ := h
  refine ⟨_, rfl, a, _, dx, _, vs, 1, _, rfl, hs, T.sc_Share, T.sl_Share_top, h0, ?_⟩
  refine ⟨_, rfl, a, _, dx, _, vs, 0, _, rfl, hs, T.sc_Share, T.sl_Share_bottom, h1, ?_⟩
  exact ⟨_, _, rfl, rfl, wide_div (b := 4000) hb bb (by decide) (by decide), q⟩
end
end W

namespace W
open PySem PySem.Spec PyProof.Rows L2
section
variable {P : Program} {w : World} {K : S.Frag} {mg : Str → Option Value} {base : Heap}
open S
/-! Euclid's steps, counted -/
theorem euc_half {x y : Nat} (h : y < x) (hy : 0 < y) : 2 * (x % y) ≤ x := by
  have a := Nat.mod_lt x hy
  have b := Nat.div_add_mod x y
  have c : 1 ≤ x / y := (Nat.le_div_iff_mul_le hy).mpr (by omega)
  have d : y * 1 ≤ y * (x / y) := Nat.mul_le_mul_left y c
  omega
theorem euc_step {x y i B : Nat} (h : y < x) (hy : 0 < y) (hB : x * y * 2 ^ i < B) : y * (x % y) * 2 ^ (i + 1) < B := by
  refine Nat.lt_of_le_of_lt ?_ hB
  rw [Nat.pow_succ, Nat.mul_comm x y, Nat.mul_assoc y, Nat.mul_assoc y, Nat.mul_comm (2 ^ i) 2, ← Nat.mul_assoc (x % y) 2]
  refine Nat.mul_le_mul_left y (Nat.mul_le_mul_right _ ?_)
  rw [Nat.mul_comm]
  exact euc_half h hy
def euG (i x y : Nat) : Prop := i = 0 ∨ (y < x ∧ x * y * 2 ^ (i - 1) < 2 ^ 480)
def spLGcd : Sp := Sp2 fun x y H Q _ => ∃ a b : Int, x = .int a ∧ y = .int b ∧ b.natAbs < 2 ^ 240 ∧ Q (.int (gI a b)) H
theorem ok__law_gcd (T : Txt K mg) : FnOk P w K mg base (L2.CX P w) 1 (He.fAd K ("_law_gcd", none)) (S.fdA K ("_law_gcd", none)) ["_law_one", "_law_two"] (spLGcd) := by
  refine FunD.ok T.F__law_gcd sc__law_gcd (fun vs H Q E h => S.splen2 h) (fun cdv A outer s H vs Q E hr h => ?_)
  have hu := hu_of hr
  refine ⟨_, (pss_cons (ps_set (i := 2) sc__law_gcd.nd rfl (by first | exact Or.inl rfl | exact Or.inr rfl) (pe_callB call_abs rfl T.n_abs S.boot_abs (pa_cons (pv 0) pa_nil)))
      (pss_cons (ps_set (i := 3) sc__law_gcd.nd rfl (by first | exact Or.inl rfl | exact Or.inr rfl) (pe_callB call_abs rfl T.n_abs S.boot_abs (pa_cons (pv 1) pa_nil)))
      (pss_cons (ps_for (S.own_of rfl) rfl (pi_range1 rfl T.n_range (pa_cons pe_int pa_nil)) (pg_name (i := 4) sc__law_gcd.nd rfl (by first | exact Or.inl rfl | exact Or.inr rfl))
        (pss_cons (ps_if (pt_cmpR op_eq (pv 3) pe_int (nomark _)) (pss_one (ps_ret (pv 2))) pss_nil)
      (pss_cons (ps_set (i := 5) sc__law_gcd.nd rfl (by first | exact Or.inl rfl | exact Or.inr rfl) (pe_op op_mod (pe_callTy call_int1 rfl T.n_int S.boot_int (pa_cons (pv 2) pa_nil)) (pv 3)))
      (pss_cons (ps_set (i := 2) sc__law_gcd.nd rfl (by first | exact Or.inl rfl | exact Or.inr rfl) (pv 3))
      (pss_one (ps_set (i := 3) sc__law_gcd.nd rfl (by first | exact Or.inl rfl | exact Or.inr rfl) (pv 5)))))))
      (pss_one (ps_ret (pv 2)))))), ?_⟩
  obtain ⟨_, _, rfl, a, b, rfl, rfl, hb, q⟩ := h
  have ea : (if a < 0 then -a else a) = ((a.natAbs : Nat) : Int) := by split <;> omega
  have eb : (if b < 0 then -b else b) = ((b.natAbs : Nat) : Int) := by split <;> omega
  refine ⟨_, rfl, _, rfl, _, rfl, _, rfl, ?_⟩
  rw [ea, eb]
  refine ⟨500, rfl, by decide, by decide, for_range (n := 500) (fun i σ J => J = H ∧ ∃ (x y : Nat) (k r : Option V), Nat.gcd x y = Nat.gcd a.natAbs b.natAbs ∧ y < 2 ^ 240 ∧ euG i x y ∧ σ = [some (.int a), some (.int b), some (.int (x : Int)), some (.int (y : Int)), k, r]) ⟨rfl, _, _, none, none, rfl, hb, .inl rfl, rfl⟩ ?_ ?_⟩
  · rintro i σ J hi ⟨rfl, x, y, k, r, e, hy, hg, rfl⟩
    refine ⟨_, rfl, rfl, _, rfl, ?_⟩
    by_cases c : y = 0
    · subst c
      refine iteY (by simp) ⟨_, rfl, ?_⟩
      rw [Nat.gcd_zero_right] at e
      rw [e]
      exact q
    · refine iteN (by simp; omega) ⟨_, rfl, .inl ⟨_, rfl, _, rfl, _, _, rfl, rfl, (by omega : (0 : Int) < (y : Int)), ?_⟩⟩
      refine ⟨_, rfl, _, rfl, rfl, y, x % y, _, _, ?_, ?_, .inr ⟨Nat.mod_lt x (by omega), ?_⟩, rfl⟩
      · rw [Nat.gcd_comm y, ← e, Nat.gcd_comm x y, Nat.gcd_rec y x]
      · exact Nat.lt_trans (Nat.mod_lt x (by omega)) hy
      · rcases hg with rfl | ⟨h1, h2⟩
        · rw [show 0 + 1 - 1 = 0 from rfl, Nat.pow_zero, Nat.mul_one, show (2 : Nat) ^ 480 = 2 ^ 240 * 2 ^ 240 by rw [← Nat.pow_add]]
          exact Nat.mul_lt_mul'' hy (Nat.lt_trans (Nat.mod_lt x (by omega)) hy)
        · by_cases hi0 : i = 0
          · subst hi0
            rw [show 0 + 1 - 1 = 0 from rfl, Nat.pow_zero, Nat.mul_one, show (2 : Nat) ^ 480 = 2 ^ 240 * 2 ^ 240 by rw [← Nat.pow_add]]
            exact Nat.mul_lt_mul'' hy (Nat.lt_trans (Nat.mod_lt x (by omega)) hy)
          · have := euc_step (i := i - 1) h1 (by omega) h2
            rw [show i - 1 + 1 = i + 1 - 1 by omega] at this
            exact this
  · rintro σ J ⟨rfl, x, y, k, r, e, hy, hg, rfl⟩
    have y0 : y = 0 := by
      rcases hg with h | ⟨h1, h2⟩
      · exact absurd h (by decide)
      · refine Nat.eq_zero_of_not_pos fun hp => ?_
        have : 1 * 2 ^ 480 ≤ x * y * 2 ^ (500 - 1) := Nat.mul_le_mul (Nat.mul_pos (by omega) hp) (Nat.pow_le_pow_right (by decide) (by decide))
        omega
    subst y0
    refine ⟨_, rfl, ?_⟩
    rw [Nat.gcd_zero_right] at e
    rw [e]
    exact q
def spIsSh (K : S.Frag) : Sp := Sp3 fun x y z H Q _ => ∃ (a : Addr) (t b u v : Int), x = .ref a ∧ y = .int u ∧ z = .int v ∧ ShAt K H a t b ∧ 0 < b ∧ gI t b = 1 ∧ t * v = u * b ∧ t.natAbs < 2 ^ 4000 ∧ b.natAbs < 2 ^ 240 ∧ u.natAbs < 2 ^ 4000 ∧ v.natAbs < 2 ^ 4000 ∧ Q (.bl true) H
theorem ok__law_is_share (T : Txt K mg) : FnOk P w K mg base (L2.CX P w) 2 (He.fAd K ("_law_is_share", none)) (S.fdA K ("_law_is_share", none)) ["_law_value", "_law_top", "_law_bottom"] (spIsSh K) := by
  have G__law_is_integer := ok__law_is_integer (P := P) (w := w) (base := base) T
  have G__law_gcd := ok__law_gcd (P := P) (w := w) (base := base) T
  refine FunD.ok T.F__law_is_share sc__law_is_share (fun vs H Q E h => S.splen3 h) (fun cdv A outer s H vs Q E hr h => ?_)
  have hu := hu_of hr
  refine ⟨_, (pss_cons (ps_if (PW.pt (pw_or (pt_not (pt_val (pe_callB (S.isiLK (K := K) rfl (He.ga K "Share")) rfl T.n_isinstance S.boot_isinstance (pa_cons (pv 0) (pa_cons (pe_glob (v := .ref _) rfl T.g_Share rfl) pa_nil))))) (pw_or (pt_not (pt_val (S.pe_fnS G__law_is_integer (hr.mono (by decide)) rfl T.g__law_is_integer T.F__law_is_integer.kp (kb__law_is_integer_1 T) S.pas0 (pa_cons (S.pe_slK (K := K) rfl (pv 0) rfl) pa_nil) pk_nil rfl rfl))) (pw_or1 (pt_not (pt_val (S.pe_fnS G__law_is_integer (hr.mono (by decide)) rfl T.g__law_is_integer T.F__law_is_integer.kp (kb__law_is_integer_1 T) S.pas0 (pa_cons (S.pe_slK (K := K) rfl (pv 0) rfl) pa_nil) pk_nil rfl rfl))))))) (pss_one (ps_ret pe_bl)) pss_nil)
      (pss_cons (ps_if (PW.pt (pw_or (pt_cmpR op_lt (S.pe_slK (K := K) rfl (pv 0) rfl) pe_int (nomark _)) (pw_or1 (pt_cmpR op_ne (S.pe_fnS G__law_gcd (hr.mono (by decide)) rfl T.g__law_gcd T.F__law_gcd.kp (kb__law_gcd_2 T) S.pas0 (pa_cons (S.pe_slK (K := K) rfl (pv 0) rfl) (pa_cons (S.pe_slK (K := K) rfl (pv 0) rfl) pa_nil)) pk_nil rfl rfl) pe_int (nomark _))))) (pss_one (ps_ret pe_bl)) pss_nil)
      (pss_one (ps_ret (pe_cmpR op_eq (pe_op S.op_mulA (S.pe_slK (K := K) rfl (pv 0) rfl) (pv 2)) (pe_op S.op_mulA (pv 1) (S.pe_slK (K := K) rfl (pv 0) rfl)) (nomark _)))))), ?_⟩
  obtain ⟨_, _, _, rfl, a, t, b, u, v, rfl, rfl, rfl, ⟨dx, vs, hs, h0, h1⟩, hb, hg, he, bt, bb, bu, bv, q⟩ := h
  refine ⟨_, rfl, a, _, dx, vs, _, true, rfl, rfl, (fun _ z => z), hs, T.sc_Share, T.si_Share, T.ko_Share_Share, _, rfl, iteF ?_⟩
  refine ⟨_, rfl, a, _, dx, _, vs, 1, _, rfl, hs, T.sc_Share, T.sl_Share_top, h0, rfl, rfl, _, rfl, _, .int t, _, rfl, iteF ?_⟩
  refine ⟨_, rfl, a, _, dx, _, vs, 0, _, rfl, hs, T.sc_Share, T.sl_Share_bottom, h1, rfl, rfl, _, rfl, _, .int b, _, rfl, iteF ?_⟩
  refine ⟨_, rfl, a, _, dx, _, vs, 0, _, rfl, hs, T.sc_Share, T.sl_Share_bottom, h1, _, _, rfl, rfl, _, rfl, iteN (by simp; omega) ?_⟩
  refine ⟨_, rfl, a, _, dx, _, vs, 1, _, rfl, hs, T.sc_Share, T.sl_Share_top, h0, ?_⟩
  refine ⟨_, rfl, a, _, dx, _, vs, 0, _, rfl, hs, T.sc_Share, T.sl_Share_bottom, h1, rfl, rfl, _, _, rfl, t, b, rfl, rfl, bb, rfl, _, rfl, iteN (by simp [hg]) ?_⟩
  have wb : b.natAbs < 2 ^ 4000 := Nat.lt_of_lt_of_le bb (Nat.pow_le_pow_right (by decide) (by decide))
  refine ⟨_, rfl, a, _, dx, _, vs, 1, _, rfl, hs, T.sc_Share, T.sl_Share_top, h0, _, rfl, _, _, rfl, rfl, .inr (wide_mul (a := 4000) (b := 4000) bt bv (by decide) (by decide) (by decide)), ?_⟩
  refine ⟨_, rfl, _, rfl, a, _, dx, _, vs, 0, _, rfl, hs, T.sc_Share, T.sl_Share_bottom, h1, _, _, rfl, rfl, .inr (wide_mul (a := 4000) (b := 4000) bu wb (by decide) (by decide) (by decide)), rfl, ?_⟩
  rw [decide_eq_true (congrArg V.int he)]
  exact q
end
end W

namespace W
open PySem PySem.Spec PyProof.Rows L2
section
variable {P : Program} {w : World} {K : S.Frag} {mg : Str → Option Value} {base : Heap}
open S
/-- a share u/v, or the integer u -/
def NumAt (K : S.Frag) (H : Hp) (x : V) (u v : Int) : Prop := (∃ c, x = .ref c ∧ ShAt K H c u v) ∨ (x = .int u ∧ v = 1)
theorem NumAt.same {H H' : Hp} {x : V} {u v : Int} (h : NumAt K H x u v) (s : Same H H') : NumAt K H' x u v := by
  rcases h with ⟨c, e, h⟩ | h
  · exact .inl ⟨c, e, h.same s⟩
  · exact .inr h
def spIsN (K : S.Frag) : Sp := Sp1 fun x H Q _ => ∃ u v, NumAt K H x u v ∧ Q (.bl true) H
theorem ok_is_number (T : Txt K mg) : FnOk P w K mg base (L2.CX P w) 2 (He.fAd K ("is_number", none)) (S.fdA K ("is_number", none)) ["value"] (spIsN K) := by
  have G_is_integer := ok_is_integer (P := P) (w := w) (base := base) T
  refine FunD.ok T.F_is_number sc_is_number (fun vs H Q E h => S.splen1 h) (fun cdv A outer s H vs Q E hr h => ?_)
  have hu := hu_of hr
  refine ⟨_, (pss_one (ps_ret (pe_or (pe_callB (S.isi2K (K := K) rfl (He.ga K "Share")) rfl T.n_isinstance S.boot_isinstance (pa_cons (pv 0) (pa_cons (pe_glob (v := .ref _) rfl T.g_Share rfl) pa_nil))) (pe_one (S.pe_fnS G_is_integer (hr.mono (by decide)) rfl T.g_is_integer T.F_is_integer.kp (kb_is_integer_1 T) S.pas0 (pa_cons (pv 0) pa_nil) pk_nil rfl rfl))))), ?_⟩
  obtain ⟨x, rfl, u, v, hx, q⟩ := h
  rcases hx with ⟨c, rfl, dx, vs, hs, h0, h1⟩ | ⟨rfl, rfl⟩
  · exact ⟨_, rfl, .inl ⟨c, _, dx, vs, _, true, rfl, rfl, (fun _ z => z), hs, T.sc_Share, T.si_Share, T.ko_Share_Share, _, rfl, q⟩⟩
  · exact ⟨_, rfl, .inr ⟨_, _, _, _, false, rfl, .own _, isi_true, T.kb_Share_int, _, rfl, _, rfl, rfl, rfl, _, rfl, true, .int u, q⟩⟩
def spTop (K : S.Frag) : Sp := Sp1 fun x H Q _ => ∃ u v, NumAt K H x u v ∧ Q (.int u) H
theorem ok_top_of (T : Txt K mg) : FnOk P w K mg base (L2.CX P w) 1 (He.fAd K ("top_of", none)) (S.fdA K ("top_of", none)) ["value"] (spTop K) := by
  refine FunD.ok T.F_top_of sc_top_of (fun vs H Q E h => S.splen1 h) (fun cdv A outer s H vs Q E hr h => ?_)
  have hu := hu_of hr
  refine ⟨_, (pss_cons (ps_if (pt_val (pe_callB (S.isi2K (K := K) rfl (He.ga K "Share")) rfl T.n_isinstance S.boot_isinstance (pa_cons (pv 0) (pa_cons (pe_glob (v := .ref _) rfl T.g_Share rfl) pa_nil)))) (pss_one (ps_ret (S.pe_slK (K := K) rfl (pv 0) rfl))) pss_nil)
      (pss_one (ps_ret (pv 0)))), ?_⟩
  obtain ⟨x, rfl, u, v, hx, q⟩ := h
  rcases hx with ⟨c, rfl, dx, vs, hs, h0, h1⟩ | ⟨rfl, rfl⟩
  · exact ⟨_, rfl, .inl ⟨c, _, dx, vs, _, true, rfl, rfl, (fun _ z => z), hs, T.sc_Share, T.si_Share, T.ko_Share_Share, _, rfl, iteT ⟨_, rfl, c, _, dx, _, vs, 1, _, rfl, hs, T.sc_Share, T.sl_Share_top, h0, q⟩⟩⟩
  · exact ⟨_, rfl, .inr ⟨_, _, _, _, false, rfl, .own _, isi_true, T.kb_Share_int, _, rfl, iteF ⟨_, rfl, q⟩⟩⟩
def spBot (K : S.Frag) : Sp := Sp1 fun x H Q _ => ∃ u v, NumAt K H x u v ∧ Q (.int v) H
theorem ok_bottom_of (T : Txt K mg) : FnOk P w K mg base (L2.CX P w) 1 (He.fAd K ("bottom_of", none)) (S.fdA K ("bottom_of", none)) ["value"] (spBot K) := by
  refine FunD.ok T.F_bottom_of sc_bottom_of (fun vs H Q E h => S.splen1 h) (fun cdv A outer s H vs Q E hr h => ?_)
  have hu := hu_of hr
  refine ⟨_, (pss_cons (ps_if (pt_val (pe_callB (S.isi2K (K := K) rfl (He.ga K "Share")) rfl T.n_isinstance S.boot_isinstance (pa_cons (pv 0) (pa_cons (pe_glob (v := .ref _) rfl T.g_Share rfl) pa_nil)))) (pss_one (ps_ret (S.pe_slK (K := K) rfl (pv 0) rfl))) pss_nil)
      (pss_one (ps_ret pe_int))), ?_⟩
  obtain ⟨x, rfl, u, v, hx, q⟩ := h
  rcases hx with ⟨c, rfl, dx, vs, hs, h0, h1⟩ | ⟨rfl, rfl⟩
  · exact ⟨_, rfl, .inl ⟨c, _, dx, vs, _, true, rfl, rfl, (fun _ z => z), hs, T.sc_Share, T.si_Share, T.ko_Share_Share, _, rfl, iteT ⟨_, rfl, c, _, dx, _, vs, 0, _, rfl, hs, T.sc_Share, T.sl_Share_bottom, h1, q⟩⟩⟩
  · exact ⟨_, rfl, .inr ⟨_, _, _, _, false, rfl, .own _, isi_true, T.kb_Share_int, _, rfl, iteF q⟩⟩
/-- a new share of the value t/b -/
def NewS (K : S.Frag) (H : Hp) (t b : Int) (Q : VK) : Prop := ∀ (p : Addr) (H' : Hp) (T B : Int), Same H H' → ShAt K H' p T B → 0 < B → gI T B = 1 → T * b = t * B → T.natAbs ≤ t.natAbs → B.natAbs ≤ b.natAbs → Q (.ref p) H'
theorem mkR {H : Hp} {Q : VK} {E : XK} {t b : Int} {p dx : Addr} (np : H p = none) (ndx : H dx = none) (ne : dx ≠ p) (bt : t.natAbs < 2 ^ 4000) (bb : b.natAbs < 2 ^ 4000) (h : b ≠ 0) (k : NewS K H t b Q) :
    spShare K [.ref p, .int t, .int b] (upd (upd H dx (.own p)) p (.ins (He.ga K "Share") dx [])) (fun v H3 => v = .non ∧ Q (.ref p) H3) E := by
  have s0 : Same H (upd (upd H dx (.own p)) p (.ins (He.ga K "Share") dx [])) := Same.upd (Same.new ndx) np
  have du : dueS (.int t) (.int b) = "" := by simp [dueS, isInt, intV, h]
  exact ⟨_, _, _, rfl, p, dx, rfl, upd_same, ne, .int _, .int _, bt, bb, fun e H' kp hp => ⟨rfl, k p H' _ _ (fun c o hc => kp c o (s0 c o hc) (ne_of_none hc np) (ne_of_none hc ndx)) hp (loB_pos h) (lo_one h) (lo_same h) (lo_leT h) (lo_leB h)⟩, fun e => absurd du e⟩
def sm (n : Int) : Prop := n.natAbs < 2 ^ 1000
theorem sm.mul {i j : Int} (a : sm i) (b : sm j) : (i * j).natAbs < 2 ^ 2000 := wide_lt (a := 1000) (b := 1000) a b
theorem sm.cm {i j : Int} (a : sm i) (b : sm j) : CMulA i j := .inr (wide_mul (a := 1000) (b := 1000) a b (by decide) (by decide) (by decide))
theorem b4 {n : Nat} (h : n < 2 ^ 2000) : n < 2 ^ 4000 := Nat.lt_of_lt_of_le h (Nat.pow_le_pow_right (by decide) (by decide))
theorem b4a {i j : Int} (a : i.natAbs < 2 ^ 2000) (b : j.natAbs < 2 ^ 2000) : (i + j).natAbs < 2 ^ 4000 := by
  have : (i + j).natAbs ≤ i.natAbs + j.natAbs := Int.natAbs_add_le i j
  have e : (2 : Nat) ^ 2001 = 2 ^ 2000 + 2 ^ 2000 := by rw [Nat.pow_succ]; omega
  have f : (2 : Nat) ^ 2001 ≤ 2 ^ 4000 := Nat.pow_le_pow_right (by decide) (by decide)
  omega
theorem b4s {i j : Int} (a : i.natAbs < 2 ^ 2000) (b : j.natAbs < 2 ^ 2000) : (i - j).natAbs < 2 ^ 4000 := by
  rw [Int.sub_eq_add_neg]
  exact b4a a (by rw [Int.natAbs_neg]; exact b)
theorem nz {b v : Int} (h1 : 0 < b) (h2 : 0 < v) : b * v ≠ 0 := Int.ne_of_gt (Int.mul_pos h1 h2)
def spBin (K : S.Frag) (p q : Int → Int → Int → Int → Int) : Sp := Sp2 fun x y H Q _ => ∃ a t b u v, x = .ref a ∧ ShAt K H a t b ∧ NumAt K H y u v ∧ 0 < b ∧ 0 < v ∧ sm t ∧ sm b ∧ sm u ∧ sm v ∧ NewS K H (p t b u v) (q t b u v) Q
def q1 (_ b _ v : Int) : Int := b * v
def pAdd (t b u v : Int) : Int := t * v + u * b
def pRadd (t b u v : Int) : Int := u * b + t * v
def pSub (t b u v : Int) : Int := t * v - u * b
def pRsub (t b u v : Int) : Int := u * b - t * v
def pMul (t _ u _ : Int) : Int := t * u
def pRmul (t _ u _ : Int) : Int := u * t
def q2 (_ b _ v : Int) : Int := v * b

theorem ok_Share___add__ (T : Txt K mg) : FnOk P w K mg base (L2.CX P w) 5 (He.fAd K ("Share", some "__add__")) (S.fdA K ("Share", some "__add__")) ["self", "other"] (spBin K pAdd q1) := by
  have G_is_number := ok_is_number (P := P) (w := w) (base := base) T
  have G_bottom_of := ok_bottom_of (P := P) (w := w) (base := base) T
  have G_top_of := ok_top_of (P := P) (w := w) (base := base) T
  have G_Share___init__ := ok_Share___init__ (P := P) (w := w) (base := base) T
  refine FunD.ok T.F_Share___add__ sc_Share___add__ (fun vs H Q E h => S.splen2 h) (fun cdv A outer s H vs Q E hr h => ?_)
  have hu := hu_of hr
  refine ⟨_, (pss_cons (ps_if (pt_not (pt_val (S.pe_fnS G_is_number (hr.mono (by decide)) rfl T.g_is_number T.F_is_number.kp (kb_is_number_1 T) S.pas0 (pa_cons (pv 1) pa_nil) pk_nil rfl rfl))) (pss_one S.ps_never) pss_nil)
      (pss_cons (ps_set (i := 2) sc_Share___add__.nd rfl (by first | exact Or.inl rfl | exact Or.inr rfl) (pe_op op_add (pe_op S.op_mulA (S.pe_slK (K := K) rfl (pv 0) rfl) (S.pe_fnS G_bottom_of (hr.mono (by decide)) rfl T.g_bottom_of T.F_bottom_of.kp (kb_bottom_of_1 T) S.pas0 (pa_cons (pv 1) pa_nil) pk_nil rfl rfl)) (pe_op S.op_mulA (S.pe_fnS G_top_of (hr.mono (by decide)) rfl T.g_top_of T.F_top_of.kp (kb_top_of_1 T) S.pas0 (pa_cons (pv 1) pa_nil) pk_nil rfl rfl) (S.pe_slK (K := K) rfl (pv 0) rfl))))
      (pss_one (ps_ret (S.pe_mkS T.mk_Share G_Share___init__ (hr.mono (by decide)) rfl T.g_Share (kb_Share___init___3 T).choose_spec (S.pasE (takes_of rfl rfl rfl rfl)) (pa_cons (pv 2) (pa_cons (pe_op S.op_mulA (S.pe_slK (K := K) rfl (pv 0) rfl) (S.pe_fnS G_bottom_of (hr.mono (by decide)) rfl T.g_bottom_of T.F_bottom_of.kp (kb_bottom_of_1 T) S.pas0 (pa_cons (pv 1) pa_nil) pk_nil rfl rfl)) pa_nil)) pk_nil rfl rfl))))), ?_⟩
  obtain ⟨_, _, rfl, a, t, b, u, v, rfl, ⟨dx, vs, hs, h0, h1⟩, hy, hb, hv, st, sb, su, sv, q⟩ := h
  refine ⟨_, rfl, rfl, rfl, _, rfl, u, v, hy, _, rfl, iteF ?_⟩
  refine ⟨_, rfl, a, _, dx, _, vs, 1, _, rfl, hs, T.sc_Share, T.sl_Share_top, h0, _, rfl, rfl, rfl, _, rfl, u, v, hy, _, _, rfl, rfl, st.cm sv, ?_⟩
  refine ⟨_, rfl, rfl, rfl, _, rfl, u, v, hy, _, rfl, a, _, dx, _, vs, 0, _, rfl, hs, T.sc_Share, T.sl_Share_bottom, h1, _, _, rfl, rfl, su.cm sb, _, _, rfl, rfl, ?_⟩
  exact ⟨_, rfl, _, rfl, a, _, dx, _, vs, 0, _, rfl, hs, T.sc_Share, T.sl_Share_bottom, h1, _, rfl, rfl, rfl, _, rfl, u, v, hy, _, _, rfl, rfl, sb.cm sv, rfl, rfl, fun p dx2 np ndx ne => mkR np ndx ne (b4a (st.mul sv) (su.mul sb)) (b4 (sb.mul sv)) (nz hb hv) q⟩
theorem ok_Share___sub__ (T : Txt K mg) : FnOk P w K mg base (L2.CX P w) 5 (He.fAd K ("Share", some "__sub__")) (S.fdA K ("Share", some "__sub__")) ["self", "other"] (spBin K pSub q1) := by
  have G_is_number := ok_is_number (P := P) (w := w) (base := base) T
  have G_bottom_of := ok_bottom_of (P := P) (w := w) (base := base) T
  have G_top_of := ok_top_of (P := P) (w := w) (base := base) T
  have G_Share___init__ := ok_Share___init__ (P := P) (w := w) (base := base) T
  refine FunD.ok T.F_Share___sub__ sc_Share___sub__ (fun vs H Q E h => S.splen2 h) (fun cdv A outer s H vs Q E hr h => ?_)
  have hu := hu_of hr
  refine ⟨_, (pss_cons (ps_if (pt_not (pt_val (S.pe_fnS G_is_number (hr.mono (by decide)) rfl T.g_is_number T.F_is_number.kp (kb_is_number_1 T) S.pas0 (pa_cons (pv 1) pa_nil) pk_nil rfl rfl))) (pss_one S.ps_never) pss_nil)
      (pss_cons (ps_set (i := 2) sc_Share___sub__.nd rfl (by first | exact Or.inl rfl | exact Or.inr rfl) (pe_op op_sub (pe_op S.op_mulA (S.pe_slK (K := K) rfl (pv 0) rfl) (S.pe_fnS G_bottom_of (hr.mono (by decide)) rfl T.g_bottom_of T.F_bottom_of.kp (kb_bottom_of_1 T) S.pas0 (pa_cons (pv 1) pa_nil) pk_nil rfl rfl)) (pe_op S.op_mulA (S.pe_fnS G_top_of (hr.mono (by decide)) rfl T.g_top_of T.F_top_of.kp (kb_top_of_1 T) S.pas0 (pa_cons (pv 1) pa_nil) pk_nil rfl rfl) (S.pe_slK (K := K) rfl (pv 0) rfl))))
      (pss_one (ps_ret (S.pe_mkS T.mk_Share G_Share___init__ (hr.mono (by decide)) rfl T.g_Share (kb_Share___init___3 T).choose_spec (S.pasE (takes_of rfl rfl rfl rfl)) (pa_cons (pv 2) (pa_cons (pe_op S.op_mulA (S.pe_slK (K := K) rfl (pv 0) rfl) (S.pe_fnS G_bottom_of (hr.mono (by decide)) rfl T.g_bottom_of T.F_bottom_of.kp (kb_bottom_of_1 T) S.pas0 (pa_cons (pv 1) pa_nil) pk_nil rfl rfl)) pa_nil)) pk_nil rfl rfl))))), ?_⟩
  obtain ⟨_, _, rfl, a, t, b, u, v, rfl, ⟨dx, vs, hs, h0, h1⟩, hy, hb, hv, st, sb, su, sv, q⟩ := h
  refine ⟨_, rfl, rfl, rfl, _, rfl, u, v, hy, _, rfl, iteF ?_⟩
  refine ⟨_, rfl, a, _, dx, _, vs, 1, _, rfl, hs, T.sc_Share, T.sl_Share_top, h0, _, rfl, rfl, rfl, _, rfl, u, v, hy, _, _, rfl, rfl, st.cm sv, ?_⟩
  refine ⟨_, rfl, rfl, rfl, _, rfl, u, v, hy, _, rfl, a, _, dx, _, vs, 0, _, rfl, hs, T.sc_Share, T.sl_Share_bottom, h1, _, _, rfl, rfl, su.cm sb, _, _, rfl, rfl, ?_⟩
  exact ⟨_, rfl, _, rfl, a, _, dx, _, vs, 0, _, rfl, hs, T.sc_Share, T.sl_Share_bottom, h1, _, rfl, rfl, rfl, _, rfl, u, v, hy, _, _, rfl, rfl, sb.cm sv, rfl, rfl, fun p dx2 np ndx ne => mkR np ndx ne (b4s (st.mul sv) (su.mul sb)) (b4 (sb.mul sv)) (nz hb hv) q⟩
theorem ok_Share___radd__ (T : Txt K mg) : FnOk P w K mg base (L2.CX P w) 5 (He.fAd K ("Share", some "__radd__")) (S.fdA K ("Share", some "__radd__")) ["self", "other"] (spBin K pRadd q1) := by
  have G_is_number := ok_is_number (P := P) (w := w) (base := base) T
  have G_Share___init__ := ok_Share___init__ (P := P) (w := w) (base := base) T
  have G_bottom_of := ok_bottom_of (P := P) (w := w) (base := base) T
  have G_top_of := ok_top_of (P := P) (w := w) (base := base) T
  refine FunD.ok T.F_Share___radd__ sc_Share___radd__ (fun vs H Q E h => S.splen2 h) (fun cdv A outer s H vs Q E hr h => ?_)
  have hu := hu_of hr
  refine ⟨_, (pss_cons (ps_if (pt_not (pt_val (S.pe_fnS G_is_number (hr.mono (by decide)) rfl T.g_is_number T.F_is_number.kp (kb_is_number_1 T) S.pas0 (pa_cons (pv 1) pa_nil) pk_nil rfl rfl))) (pss_one S.ps_never) pss_nil)
      (pss_one (ps_ret (S.pe_mkS T.mk_Share G_Share___init__ (hr.mono (by decide)) rfl T.g_Share (kb_Share___init___3 T).choose_spec (S.pasE (takes_of rfl rfl rfl rfl)) (pa_cons (pe_op op_add (pe_op S.op_mulA (S.pe_fnS G_top_of (hr.mono (by decide)) rfl T.g_top_of T.F_top_of.kp (kb_top_of_1 T) S.pas0 (pa_cons (pv 1) pa_nil) pk_nil rfl rfl) (S.pe_slK (K := K) rfl (pv 0) rfl)) (pe_op S.op_mulA (S.pe_slK (K := K) rfl (pv 0) rfl) (S.pe_fnS G_bottom_of (hr.mono (by decide)) rfl T.g_bottom_of T.F_bottom_of.kp (kb_bottom_of_1 T) S.pas0 (pa_cons (pv 1) pa_nil) pk_nil rfl rfl))) (pa_cons (pe_op S.op_mulA (S.pe_slK (K := K) rfl (pv 0) rfl) (S.pe_fnS G_bottom_of (hr.mono (by decide)) rfl T.g_bottom_of T.F_bottom_of.kp (kb_bottom_of_1 T) S.pas0 (pa_cons (pv 1) pa_nil) pk_nil rfl rfl)) pa_nil)) pk_nil rfl rfl)))), ?_⟩
  obtain ⟨_, _, rfl, a, t, b, u, v, rfl, ⟨dx, vs, hs, h0, h1⟩, hy, hb, hv, st, sb, su, sv, q⟩ := h
  refine ⟨_, rfl, rfl, rfl, _, rfl, u, v, hy, _, rfl, iteF ?_⟩
  refine ⟨_, rfl, rfl, rfl, _, rfl, u, v, hy, _, rfl, a, _, dx, _, vs, 0, _, rfl, hs, T.sc_Share, T.sl_Share_bottom, h1, _, _, rfl, rfl, su.cm sb, ?_⟩
  refine ⟨_, rfl, a, _, dx, _, vs, 1, _, rfl, hs, T.sc_Share, T.sl_Share_top, h0, _, rfl, rfl, rfl, _, rfl, u, v, hy, _, _, rfl, rfl, st.cm sv, _, _, rfl, rfl, ?_⟩
  exact ⟨_, rfl, a, _, dx, _, vs, 0, _, rfl, hs, T.sc_Share, T.sl_Share_bottom, h1, _, rfl, rfl, rfl, _, rfl, u, v, hy, _, _, rfl, rfl, sb.cm sv, rfl, rfl, fun p dx2 np ndx ne => mkR np ndx ne (b4a (su.mul sb) (st.mul sv)) (b4 (sb.mul sv)) (nz hb hv) q⟩
theorem ok_Share___rsub__ (T : Txt K mg) : FnOk P w K mg base (L2.CX P w) 5 (He.fAd K ("Share", some "__rsub__")) (S.fdA K ("Share", some "__rsub__")) ["self", "other"] (spBin K pRsub q1) := by
  have G_is_number := ok_is_number (P := P) (w := w) (base := base) T
  have G_Share___init__ := ok_Share___init__ (P := P) (w := w) (base := base) T
  have G_bottom_of := ok_bottom_of (P := P) (w := w) (base := base) T
  have G_top_of := ok_top_of (P := P) (w := w) (base := base) T
  refine FunD.ok T.F_Share___rsub__ sc_Share___rsub__ (fun vs H Q E h => S.splen2 h) (fun cdv A outer s H vs Q E hr h => ?_)
  have hu := hu_of hr
  refine ⟨_, (pss_cons (ps_if (pt_not (pt_val (S.pe_fnS G_is_number (hr.mono (by decide)) rfl T.g_is_number T.F_is_number.kp (kb_is_number_1 T) S.pas0 (pa_cons (pv 1) pa_nil) pk_nil rfl rfl))) (pss_one S.ps_never) pss_nil)
      (pss_one (ps_ret (S.pe_mkS T.mk_Share G_Share___init__ (hr.mono (by decide)) rfl T.g_Share (kb_Share___init___3 T).choose_spec (S.pasE (takes_of rfl rfl rfl rfl)) (pa_cons (pe_op op_sub (pe_op S.op_mulA (S.pe_fnS G_top_of (hr.mono (by decide)) rfl T.g_top_of T.F_top_of.kp (kb_top_of_1 T) S.pas0 (pa_cons (pv 1) pa_nil) pk_nil rfl rfl) (S.pe_slK (K := K) rfl (pv 0) rfl)) (pe_op S.op_mulA (S.pe_slK (K := K) rfl (pv 0) rfl) (S.pe_fnS G_bottom_of (hr.mono (by decide)) rfl T.g_bottom_of T.F_bottom_of.kp (kb_bottom_of_1 T) S.pas0 (pa_cons (pv 1) pa_nil) pk_nil rfl rfl))) (pa_cons (pe_op S.op_mulA (S.pe_slK (K := K) rfl (pv 0) rfl) (S.pe_fnS G_bottom_of (hr.mono (by decide)) rfl T.g_bottom_of T.F_bottom_of.kp (kb_bottom_of_1 T) S.pas0 (pa_cons (pv 1) pa_nil) pk_nil rfl rfl)) pa_nil)) pk_nil rfl rfl)))), ?_⟩
  obtain ⟨_, _, rfl, a, t, b, u, v, rfl, ⟨dx, vs, hs, h0, h1⟩, hy, hb, hv, st, sb, su, sv, q⟩ := h
  refine ⟨_, rfl, rfl, rfl, _, rfl, u, v, hy, _, rfl, iteF ?_⟩
  refine ⟨_, rfl, rfl, rfl, _, rfl, u, v, hy, _, rfl, a, _, dx, _, vs, 0, _, rfl, hs, T.sc_Share, T.sl_Share_bottom, h1, _, _, rfl, rfl, su.cm sb, ?_⟩
  refine ⟨_, rfl, a, _, dx, _, vs, 1, _, rfl, hs, T.sc_Share, T.sl_Share_top, h0, _, rfl, rfl, rfl, _, rfl, u, v, hy, _, _, rfl, rfl, st.cm sv, _, _, rfl, rfl, ?_⟩
  exact ⟨_, rfl, a, _, dx, _, vs, 0, _, rfl, hs, T.sc_Share, T.sl_Share_bottom, h1, _, rfl, rfl, rfl, _, rfl, u, v, hy, _, _, rfl, rfl, sb.cm sv, rfl, rfl, fun p dx2 np ndx ne => mkR np ndx ne (b4s (su.mul sb) (st.mul sv)) (b4 (sb.mul sv)) (nz hb hv) q⟩
theorem ok_Share___mul__ (T : Txt K mg) : FnOk P w K mg base (L2.CX P w) 5 (He.fAd K ("Share", some "__mul__")) (S.fdA K ("Share", some "__mul__")) ["self", "other"] (spBin K pMul q1) := by
  have G_is_number := ok_is_number (P := P) (w := w) (base := base) T
  have G_Share___init__ := ok_Share___init__ (P := P) (w := w) (base := base) T
  have G_bottom_of := ok_bottom_of (P := P) (w := w) (base := base) T
  have G_top_of := ok_top_of (P := P) (w := w) (base := base) T
  refine FunD.ok T.F_Share___mul__ sc_Share___mul__ (fun vs H Q E h => S.splen2 h) (fun cdv A outer s H vs Q E hr h => ?_)
  have hu := hu_of hr
  refine ⟨_, (pss_cons (ps_if (pt_not (pt_val (S.pe_fnS G_is_number (hr.mono (by decide)) rfl T.g_is_number T.F_is_number.kp (kb_is_number_1 T) S.pas0 (pa_cons (pv 1) pa_nil) pk_nil rfl rfl))) (pss_one S.ps_never) pss_nil)
      (pss_one (ps_ret (S.pe_mkS T.mk_Share G_Share___init__ (hr.mono (by decide)) rfl T.g_Share (kb_Share___init___3 T).choose_spec (S.pasE (takes_of rfl rfl rfl rfl)) (pa_cons (pe_op S.op_mulA (S.pe_slK (K := K) rfl (pv 0) rfl) (S.pe_fnS G_top_of (hr.mono (by decide)) rfl T.g_top_of T.F_top_of.kp (kb_top_of_1 T) S.pas0 (pa_cons (pv 1) pa_nil) pk_nil rfl rfl)) (pa_cons (pe_op S.op_mulA (S.pe_slK (K := K) rfl (pv 0) rfl) (S.pe_fnS G_bottom_of (hr.mono (by decide)) rfl T.g_bottom_of T.F_bottom_of.kp (kb_bottom_of_1 T) S.pas0 (pa_cons (pv 1) pa_nil) pk_nil rfl rfl)) pa_nil)) pk_nil rfl rfl)))), ?_⟩
  obtain ⟨_, _, rfl, a, t, b, u, v, rfl, ⟨dx, vs, hs, h0, h1⟩, hy, hb, hv, st, sb, su, sv, q⟩ := h
  refine ⟨_, rfl, rfl, rfl, _, rfl, u, v, hy, _, rfl, iteF ?_⟩
  refine ⟨_, rfl, a, _, dx, _, vs, 1, _, rfl, hs, T.sc_Share, T.sl_Share_top, h0, _, rfl, rfl, rfl, _, rfl, u, v, hy, _, _, rfl, rfl, st.cm su, ?_⟩
  exact ⟨_, rfl, a, _, dx, _, vs, 0, _, rfl, hs, T.sc_Share, T.sl_Share_bottom, h1, _, rfl, rfl, rfl, _, rfl, u, v, hy, _, _, rfl, rfl, sb.cm sv, rfl, rfl, fun p dx2 np ndx ne => mkR np ndx ne (b4 (st.mul su)) (b4 (sb.mul sv)) (nz hb hv) q⟩
theorem ok_Share___rmul__ (T : Txt K mg) : FnOk P w K mg base (L2.CX P w) 5 (He.fAd K ("Share", some "__rmul__")) (S.fdA K ("Share", some "__rmul__")) ["self", "other"] (spBin K pRmul q2) := by
  have G_is_number := ok_is_number (P := P) (w := w) (base := base) T
  have G_Share___init__ := ok_Share___init__ (P := P) (w := w) (base := base) T
  have G_bottom_of := ok_bottom_of (P := P) (w := w) (base := base) T
  have G_top_of := ok_top_of (P := P) (w := w) (base := base) T
  refine FunD.ok T.F_Share___rmul__ sc_Share___rmul__ (fun vs H Q E h => S.splen2 h) (fun cdv A outer s H vs Q E hr h => ?_)
  have hu := hu_of hr
  refine ⟨_, (pss_cons (ps_if (pt_not (pt_val (S.pe_fnS G_is_number (hr.mono (by decide)) rfl T.g_is_number T.F_is_number.kp (kb_is_number_1 T) S.pas0 (pa_cons (pv 1) pa_nil) pk_nil rfl rfl))) (pss_one S.ps_never) pss_nil)
      (pss_one (ps_ret (S.pe_mkS T.mk_Share G_Share___init__ (hr.mono (by decide)) rfl T.g_Share (kb_Share___init___3 T).choose_spec (S.pasE (takes_of rfl rfl rfl rfl)) (pa_cons (pe_op S.op_mulA (S.pe_fnS G_top_of (hr.mono (by decide)) rfl T.g_top_of T.F_top_of.kp (kb_top_of_1 T) S.pas0 (pa_cons (pv 1) pa_nil) pk_nil rfl rfl) (S.pe_slK (K := K) rfl (pv 0) rfl)) (pa_cons (pe_op S.op_mulA (S.pe_fnS G_bottom_of (hr.mono (by decide)) rfl T.g_bottom_of T.F_bottom_of.kp (kb_bottom_of_1 T) S.pas0 (pa_cons (pv 1) pa_nil) pk_nil rfl rfl) (S.pe_slK (K := K) rfl (pv 0) rfl)) pa_nil)) pk_nil rfl rfl)))), ?_⟩
  obtain ⟨_, _, rfl, a, t, b, u, v, rfl, ⟨dx, vs, hs, h0, h1⟩, hy, hb, hv, st, sb, su, sv, q⟩ := h
  refine ⟨_, rfl, rfl, rfl, _, rfl, u, v, hy, _, rfl, iteF ?_⟩
  refine ⟨_, rfl, rfl, rfl, _, rfl, u, v, hy, _, rfl, a, _, dx, _, vs, 1, _, rfl, hs, T.sc_Share, T.sl_Share_top, h0, _, _, rfl, rfl, su.cm st, ?_⟩
  exact ⟨_, rfl, rfl, rfl, _, rfl, u, v, hy, _, rfl, a, _, dx, _, vs, 0, _, rfl, hs, T.sc_Share, T.sl_Share_bottom, h1, _, _, rfl, rfl, sv.cm sb, rfl, rfl, fun p dx2 np ndx ne => mkR np ndx ne (b4 (su.mul st)) (b4 (sv.mul sb)) (nz hv hb) q⟩
def spQuo (K : S.Frag) (z p q : Int → Int → Int → Int → Int) : Sp := Sp2 fun x y H Q E => ∃ a t b u v, x = .ref a ∧ ShAt K H a t b ∧ NumAt K H y u v ∧ 0 < b ∧ 0 < v ∧ sm t ∧ sm b ∧ sm u ∧ sm v ∧
  (z t b u v ≠ 0 → Q (.int ((p t b u v).fdiv (q t b u v))) H) ∧ (z t b u v = 0 → E (.ref (He.ga K "NoShare")) none H)
def spOver (K : S.Frag) : Sp := Sp2 fun x y H Q E => ∃ a t b u v, x = .ref a ∧ ShAt K H a t b ∧ NumAt K H y u v ∧ 0 < b ∧ 0 < v ∧ sm t ∧ sm b ∧ sm u ∧ sm v ∧
  (u ≠ 0 → NewS K H (t * v) (b * u) Q) ∧ (u = 0 → E (.ref (He.ga K "NoShare")) none H)
def zU (_ _ u _ : Int) : Int := u
def zT (t _ _ _ : Int) : Int := t
def pTV (t _ _ v : Int) : Int := t * v
def pBU (_ b u _ : Int) : Int := b * u
def pUB (_ b u _ : Int) : Int := u * b
def pVT (t _ _ v : Int) : Int := v * t
theorem fdn {i j : Int} (a : sm i) (b : sm j) (h1 : i ≠ 0) (h2 : j ≠ 0) {x : Int} : S.CDivN x (i * j) := ⟨Int.mul_ne_zero h1 h2, Nat.lt_trans (PySem.Flt.log2_lt_of (by decide) (sm.mul a b)) (by decide)⟩
theorem ok_Share_over (T : Txt K mg) : FnOk P w K mg base (L2.CX P w) 5 (He.fAd K ("Share", some "over")) (S.fdA K ("Share", some "over")) ["self", "other"] (spOver K) := by
  have G_top_of := ok_top_of (P := P) (w := w) (base := base) T
  have G_Share___init__ := ok_Share___init__ (P := P) (w := w) (base := base) T
  have G_bottom_of := ok_bottom_of (P := P) (w := w) (base := base) T
  refine FunD.ok T.F_Share_over sc_Share_over (fun vs H Q E h => S.splen2 h) (fun cdv A outer s H vs Q E hr h => ?_)
  have hu := hu_of hr
  refine ⟨_, (pss_cons (ps_if (pt_cmpR op_eq (S.pe_fnS G_top_of (hr.mono (by decide)) rfl T.g_top_of T.F_top_of.kp (kb_top_of_1 T) S.pas0 (pa_cons (pv 1) pa_nil) pk_nil rfl rfl) pe_int (nomark _)) (pss_one (S.ps_raiseP rfl (takes_of rfl rfl rfl rfl) T.op_NoShare rfl T.g_NoShare)) pss_nil)
      (pss_one (ps_ret (S.pe_mkS T.mk_Share G_Share___init__ (hr.mono (by decide)) rfl T.g_Share (kb_Share___init___3 T).choose_spec (S.pasE (takes_of rfl rfl rfl rfl)) (pa_cons (pe_op S.op_mulA (S.pe_slK (K := K) rfl (pv 0) rfl) (S.pe_fnS G_bottom_of (hr.mono (by decide)) rfl T.g_bottom_of T.F_bottom_of.kp (kb_bottom_of_1 T) S.pas0 (pa_cons (pv 1) pa_nil) pk_nil rfl rfl)) (pa_cons (pe_op S.op_mulA (S.pe_slK (K := K) rfl (pv 0) rfl) (S.pe_fnS G_top_of (hr.mono (by decide)) rfl T.g_top_of T.F_top_of.kp (kb_top_of_1 T) S.pas0 (pa_cons (pv 1) pa_nil) pk_nil rfl rfl)) pa_nil)) pk_nil rfl rfl)))), ?_⟩
  obtain ⟨_, _, rfl, a, t, b, u, v, rfl, ⟨dx, vs, hs, h0, h1⟩, hy, hb, hv, st, sb, su, sv, k1, k2⟩ := h
  refine ⟨_, rfl, rfl, rfl, _, rfl, u, v, hy, rfl, _, rfl, ?_⟩
  by_cases c : u = 0
  · exact iteY (by simp [c]) (k2 c)
  · refine iteN (by simp [c]) ⟨_, rfl, a, _, dx, _, vs, 1, _, rfl, hs, T.sc_Share, T.sl_Share_top, h0, _, rfl, rfl, rfl, _, rfl, u, v, hy, _, _, rfl, rfl, st.cm sv, ?_⟩
    exact ⟨_, rfl, a, _, dx, _, vs, 0, _, rfl, hs, T.sc_Share, T.sl_Share_bottom, h1, _, rfl, rfl, rfl, _, rfl, u, v, hy, _, _, rfl, rfl, sb.cm su, rfl, rfl, fun p dx2 np ndx ne => mkR np ndx ne (b4 (st.mul sv)) (b4 (sb.mul su)) (Int.mul_ne_zero (Int.ne_of_gt hb) c) (k1 c)⟩
theorem ok_Share___floordiv__ (T : Txt K mg) : FnOk P w K mg base (L2.CX P w) 3 (He.fAd K ("Share", some "__floordiv__")) (S.fdA K ("Share", some "__floordiv__")) ["self", "other"] (spQuo K zU pTV pBU) := by
  have G_is_number := ok_is_number (P := P) (w := w) (base := base) T
  have G_top_of := ok_top_of (P := P) (w := w) (base := base) T
  have G_bottom_of := ok_bottom_of (P := P) (w := w) (base := base) T
  refine FunD.ok T.F_Share___floordiv__ sc_Share___floordiv__ (fun vs H Q E h => S.splen2 h) (fun cdv A outer s H vs Q E hr h => ?_)
  have hu := hu_of hr
  refine ⟨_, (pss_cons (ps_if (pt_not (pt_val (S.pe_fnS G_is_number (hr.mono (by decide)) rfl T.g_is_number T.F_is_number.kp (kb_is_number_1 T) S.pas0 (pa_cons (pv 1) pa_nil) pk_nil rfl rfl))) (pss_one S.ps_never) pss_nil)
      (pss_cons (ps_if (pt_cmpR op_eq (S.pe_fnS G_top_of (hr.mono (by decide)) rfl T.g_top_of T.F_top_of.kp (kb_top_of_1 T) S.pas0 (pa_cons (pv 1) pa_nil) pk_nil rfl rfl) pe_int (nomark _)) (pss_one (S.ps_raiseP rfl (takes_of rfl rfl rfl rfl) T.op_NoShare rfl T.g_NoShare)) pss_nil)
      (pss_one (ps_ret (pe_op S.op_fdivN (pe_op S.op_mulA (S.pe_slK (K := K) rfl (pv 0) rfl) (S.pe_fnS G_bottom_of (hr.mono (by decide)) rfl T.g_bottom_of T.F_bottom_of.kp (kb_bottom_of_1 T) S.pas0 (pa_cons (pv 1) pa_nil) pk_nil rfl rfl)) (pe_op S.op_mulA (S.pe_slK (K := K) rfl (pv 0) rfl) (S.pe_fnS G_top_of (hr.mono (by decide)) rfl T.g_top_of T.F_top_of.kp (kb_top_of_1 T) S.pas0 (pa_cons (pv 1) pa_nil) pk_nil rfl rfl))))))), ?_⟩
  obtain ⟨_, _, rfl, a, t, b, u, v, rfl, ⟨dx, vs, hs, h0, h1⟩, hy, hb, hv, st, sb, su, sv, k1, k2⟩ := h
  refine ⟨_, rfl, rfl, rfl, _, rfl, u, v, hy, _, rfl, iteF ?_⟩
  refine ⟨_, rfl, rfl, rfl, _, rfl, u, v, hy, rfl, _, rfl, ?_⟩
  by_cases c : u = 0
  · exact iteY (by simp [c]) (k2 c)
  · refine iteN (by simp [c]) ⟨_, rfl, a, _, dx, _, vs, 1, _, rfl, hs, T.sc_Share, T.sl_Share_top, h0, _, rfl, rfl, rfl, _, rfl, u, v, hy, _, _, rfl, rfl, st.cm sv, ?_⟩
    exact ⟨_, rfl, a, _, dx, _, vs, 0, _, rfl, hs, T.sc_Share, T.sl_Share_bottom, h1, _, rfl, rfl, rfl, _, rfl, u, v, hy, _, _, rfl, rfl, sb.cm su, _, _, rfl, rfl, fdn sb su (Int.ne_of_gt hb) c, k1 c⟩
theorem ok_Share___rfloordiv__ (T : Txt K mg) : FnOk P w K mg base (L2.CX P w) 3 (He.fAd K ("Share", some "__rfloordiv__")) (S.fdA K ("Share", some "__rfloordiv__")) ["self", "other"] (spQuo K zT pUB pVT) := by
  have G_is_number := ok_is_number (P := P) (w := w) (base := base) T
  have G_top_of := ok_top_of (P := P) (w := w) (base := base) T
  have G_bottom_of := ok_bottom_of (P := P) (w := w) (base := base) T
  refine FunD.ok T.F_Share___rfloordiv__ sc_Share___rfloordiv__ (fun vs H Q E h => S.splen2 h) (fun cdv A outer s H vs Q E hr h => ?_)
  have hu := hu_of hr
  refine ⟨_, (pss_cons (ps_if (pt_not (pt_val (S.pe_fnS G_is_number (hr.mono (by decide)) rfl T.g_is_number T.F_is_number.kp (kb_is_number_1 T) S.pas0 (pa_cons (pv 1) pa_nil) pk_nil rfl rfl))) (pss_one S.ps_never) pss_nil)
      (pss_cons (ps_if (pt_cmpR op_eq (S.pe_slK (K := K) rfl (pv 0) rfl) pe_int (nomark _)) (pss_one (S.ps_raiseP rfl (takes_of rfl rfl rfl rfl) T.op_NoShare rfl T.g_NoShare)) pss_nil)
      (pss_one (ps_ret (pe_op S.op_fdivN (pe_op S.op_mulA (S.pe_fnS G_top_of (hr.mono (by decide)) rfl T.g_top_of T.F_top_of.kp (kb_top_of_1 T) S.pas0 (pa_cons (pv 1) pa_nil) pk_nil rfl rfl) (S.pe_slK (K := K) rfl (pv 0) rfl)) (pe_op S.op_mulA (S.pe_fnS G_bottom_of (hr.mono (by decide)) rfl T.g_bottom_of T.F_bottom_of.kp (kb_bottom_of_1 T) S.pas0 (pa_cons (pv 1) pa_nil) pk_nil rfl rfl) (S.pe_slK (K := K) rfl (pv 0) rfl))))))), ?_⟩
  obtain ⟨_, _, rfl, a, t, b, u, v, rfl, ⟨dx, vs, hs, h0, h1⟩, hy, hb, hv, st, sb, su, sv, k1, k2⟩ := h
  refine ⟨_, rfl, rfl, rfl, _, rfl, u, v, hy, _, rfl, iteF ?_⟩
  refine ⟨_, rfl, a, _, dx, _, vs, 1, _, rfl, hs, T.sc_Share, T.sl_Share_top, h0, rfl, _, rfl, ?_⟩
  by_cases c : t = 0
  · exact iteY (by simp [c]) (k2 c)
  · refine iteN (by simp [c]) ⟨_, rfl, rfl, rfl, _, rfl, u, v, hy, _, rfl, a, _, dx, _, vs, 0, _, rfl, hs, T.sc_Share, T.sl_Share_bottom, h1, _, _, rfl, rfl, su.cm sb, ?_⟩
    exact ⟨_, rfl, rfl, rfl, _, rfl, u, v, hy, _, rfl, a, _, dx, _, vs, 1, _, rfl, hs, T.sc_Share, T.sl_Share_top, h0, _, _, rfl, rfl, sv.cm st, _, _, rfl, rfl, fdn sv st (Int.ne_of_gt hv) c, k1 c⟩
def spUn (K : S.Frag) (p : Int → Int) : Sp := Sp1 fun x H Q _ => ∃ a t b, x = .ref a ∧ ShAt K H a t b ∧ 0 < b ∧ sm t ∧ sm b ∧ NewS K H (p t) b Q
end
end W

namespace W
open PySem PySem.Spec PyProof.Rows L2
section
variable {P : Program} {w : World} {K : S.Frag} {mg : Str → Option Value} {base : Heap}
open S
theorem ratio {T B p q p' q' : Int} (hq : q ≠ 0) (h1 : T * q = p * B) (h2 : p * q' = p' * q) : T * q' = p' * B := by
  refine Int.eq_of_mul_eq_mul_right hq ?_
  have : T * q * q' = p * B * q' := by rw [h1]
  grind
theorem up {m n a : Nat} (h : a < 2 ^ m) (le : m ≤ n) : a < 2 ^ n := Nat.lt_of_lt_of_le h (Nat.pow_le_pow_right (by decide) le)
/-- one of them is a share -/
def One (x y : V) : Prop := (∃ c, x = .ref c) ∨ ∃ c, y = .ref c
section
variable {H : Hp} {x y : V} {t b a c u v d e : Int} {Q : VK} {E : XK} {p q pr qr : Int → Int → Int → Int → Int}
theorem bin_go (hx : NumAt K H x t b) (hy : NumAt K H y u v) (o : One x y) (hb : 0 < b) (hv : 0 < v) (st : sm t) (sb : sm b) (su : sm u) (sv : sm v) (k1 : NewS K H (p t b u v) (q t b u v) Q) (k2 : NewS K H (pr u v t b) (qr u v t b) Q) :
    rBinL (He.ga K "Share") (spBin K p q) (spBin K pr qr) E x y H Q := by
  rcases id hx with ⟨cx, rfl, sx⟩ | ⟨rfl, rfl⟩
  · rcases id hy with ⟨cy, rfl, sy⟩ | ⟨rfl, rfl⟩
    · obtain ⟨dx, vs, h1, _⟩ := id sx
      obtain ⟨dy, ws, h2, _⟩ := id sy
      exact .inl ⟨cx, dx, vs, cy, dy, ws, rfl, rfl, h1, h2, _, _, rfl, cx, t, b, u, v, rfl, sx, hy, hb, hv, st, sb, su, sv, k1⟩
    · obtain ⟨dx, vs, h1, _⟩ := id sx
      exact .inr (.inl ⟨cx, dx, vs, u, rfl, rfl, h1, _, _, rfl, cx, t, b, u, 1, rfl, sx, hy, hb, hv, st, sb, su, sv, k1⟩)
  · rcases id hy with ⟨cy, rfl, sy⟩ | ⟨rfl, rfl⟩
    · obtain ⟨dy, ws, h2, _⟩ := id sy
      exact .inr (.inr ⟨cy, dy, ws, t, rfl, rfl, h2, _, _, rfl, cy, u, v, t, 1, rfl, sy, hx, hv, hb, su, sv, st, sb, k2⟩)
    · rcases o with ⟨c, z⟩ | ⟨c, z⟩ <;> cases z
end
theorem fdiv_neg' {p n : Int} (h : 0 < n) : p.fdiv (-n) = (-p) / n := by
  rw [Int.fdiv_eq_ediv, Int.ediv_neg, Int.neg_ediv]
  have s : n.sign = 1 := Int.sign_eq_one_of_pos h
  have d : (-n ∣ p) ↔ n ∣ p := Int.neg_dvd
  by_cases c : n ∣ p
  · rw [if_pos (.inr (d.mpr c)), if_pos c]
  · rw [if_neg (by rintro (z | z); · omega
                   · exact c (d.mp z)), if_neg c, s]
theorem fdiv_pos' {p n : Int} (h : 0 < n) : p.fdiv n = p / n := Int.fdiv_eq_ediv_of_nonneg p (by omega)
theorem go_div {H : Hp} {x y : V} {t b u v : Int} {Q : VK} {E : XK} (hx : NumAt K H x t b) (hy : NumAt K H y u v) (o : One x y) (hb : 0 < b) (hv : 0 < v) (st : sm t) (sb : sm b) (su : sm u) (sv : sm v)
    (k1 : u ≠ 0 → ∀ n, n = (t * v).fdiv (b * u) → Q (.int n) H) (k2 : u = 0 → E (.ref (He.ga K "NoShare")) none H) :
    rBinL (He.ga K "Share") (spQuo K zU pTV pBU) (spQuo K zT pUB pVT) E x y H Q := by
  rcases id hx with ⟨cx, rfl, sx⟩ | ⟨rfl, rfl⟩
  · rcases id hy with ⟨cy, rfl, sy⟩ | ⟨rfl, rfl⟩
    · obtain ⟨dx, vs, h1, _⟩ := id sx
      obtain ⟨dy, ws, h2, _⟩ := id sy
      exact .inl ⟨cx, dx, vs, cy, dy, ws, rfl, rfl, h1, h2, _, _, rfl, cx, t, b, u, v, rfl, sx, hy, hb, hv, st, sb, su, sv, fun z => k1 z _ rfl, k2⟩
    · obtain ⟨dx, vs, h1, _⟩ := id sx
      exact .inr (.inl ⟨cx, dx, vs, u, rfl, rfl, h1, _, _, rfl, cx, t, b, u, 1, rfl, sx, hy, hb, hv, st, sb, su, sv, fun z => k1 z _ rfl, k2⟩)
  · rcases id hy with ⟨cy, rfl, sy⟩ | ⟨rfl, rfl⟩
    · obtain ⟨dy, ws, h2, _⟩ := id sy
      exact .inr (.inr ⟨cy, dy, ws, t, rfl, rfl, h2, _, _, rfl, cy, u, v, t, 1, rfl, sy, hx, hv, hb, su, sv, st, sb, fun z => k1 z _ rfl, k2⟩)
    · rcases o with ⟨c, z⟩ | ⟨c, z⟩ <;> cases z
/-! a value S/c, in lowest terms -/
def Val (K : S.Frag) (H : Hp) (x : V) (S c : Int) : Prop := ∃ T B, NumAt K H x T B ∧ 0 < B ∧ gI T B = 1 ∧ T * c = S * B
theorem Val.same {H H' : Hp} {x : V} {S c : Int} (h : Val K H x S c) (s : Same H H') : Val K H' x S c := let ⟨T, B, h1, h2⟩ := h; ⟨T, B, h1.same s, h2⟩
theorem low {T B S c : Int} (hB : 0 < B) (hc : 0 < c) (g : gI T B = 1) (e : T * c = S * B) : ∃ k, 0 < k ∧ c = B * k ∧ S = T * k := by
  have g1 : Nat.gcd T.natAbs B.natAbs = 1 := by unfold gI at g; omega
  have d1 : B ∣ T * c := ⟨S, by rw [e, Int.mul_comm]⟩
  have d2 : B.natAbs ∣ T.natAbs * c.natAbs := by rw [← Int.natAbs_mul]; exact Int.natAbs_dvd_natAbs.mpr d1
  have d3 : B.natAbs ∣ c.natAbs := Nat.Coprime.dvd_of_dvd_mul_left (show Nat.gcd B.natAbs T.natAbs = 1 by rw [Nat.gcd_comm]; exact g1) d2
  obtain ⟨k, hk⟩ := Int.natAbs_dvd_natAbs.mp d3
  have kp : 0 < k := by
    refine Int.pos_of_mul_pos_left (b := B) ?_ hB
    rw [Int.mul_comm, ← hk]; exact hc
  refine ⟨k, kp, hk, ?_⟩
  refine (Int.eq_of_mul_eq_mul_right (Int.ne_of_gt hB) ?_).symm
  rw [← e, hk]
  grind
theorem low_le {T B S c : Int} (hB : 0 < B) (hc : 0 < c) (g : gI T B = 1) (e : T * c = S * B) : T.natAbs ≤ S.natAbs ∧ B.natAbs ≤ c.natAbs := by
  obtain ⟨k, kp, h1, h2⟩ := low hB hc g e
  rw [h1, h2, Int.natAbs_mul, Int.natAbs_mul]
  exact ⟨Nat.le_mul_of_pos_right _ (by omega), Nat.le_mul_of_pos_right _ (by omega)⟩
theorem low_sm {T B S c : Int} (hB : 0 < B) (hc : 0 < c) (g : gI T B = 1) (e : T * c = S * B) (bS : sm S) (bc : sm c) : sm T ∧ sm B :=
  ⟨Nat.lt_of_le_of_lt (low_le hB hc g e).1 bS, Nat.lt_of_le_of_lt (low_le hB hc g e).2 bc⟩
/-- what comes of a new share of the value S/c -/
def NewV (K : S.Frag) (H : Hp) (S c : Int) (Q : VK) : Prop := ∀ p H', Same H H' → Val K H' (.ref p) S c → Q (.ref p) H'
theorem NewV.new {H : Hp} {S c t b : Int} {Q : VK} (h : NewV K H S c Q) (h0 : b ≠ 0) (e : t * c = S * b) : NewS K H t b Q :=
  fun p H' T B s hp hB hg he _ _ => h p H' s ⟨T, B, .inl ⟨p, rfl, hp⟩, hB, hg, ratio h0 he e⟩
section
variable {H : Hp} {x y : V} {S c S' c' : Int} {Q : VK} {E : XK}
theorem val_add (hx : Val K H x S c) (hy : Val K H y S' c) (o : One x y) (hc : 0 < c) (bS : sm S) (bS' : sm S') (bc : sm c) (k : NewV K H (S + S') c Q) : rBinL (He.ga K "Share") (spBin K pAdd q1) (spBin K pRadd q1) E x y H Q := by
  obtain ⟨t, b, n1, hb, g1, e1⟩ := hx
  obtain ⟨u, v, n2, hv, g2, e2⟩ := hy
  obtain ⟨st, sb⟩ := low_sm hb hc g1 e1 bS bc
  obtain ⟨su, sv⟩ := low_sm hv hc g2 e2 bS' bc
  refine bin_go n1 n2 o hb hv st sb su sv (k.new (nz hb hv) ?_) (k.new (nz hv hb) ?_)
  · simp only [pAdd, q1]; grind
  · simp only [pRadd, q1]; grind
theorem val_sub (hx : Val K H x S c) (hy : Val K H y S' c) (o : One x y) (hc : 0 < c) (bS : sm S) (bS' : sm S') (bc : sm c) (k : NewV K H (S - S') c Q) : rBinL (He.ga K "Share") (spBin K pSub q1) (spBin K pRsub q1) E x y H Q := by
  obtain ⟨t, b, n1, hb, g1, e1⟩ := hx
  obtain ⟨u, v, n2, hv, g2, e2⟩ := hy
  obtain ⟨st, sb⟩ := low_sm hb hc g1 e1 bS bc
  obtain ⟨su, sv⟩ := low_sm hv hc g2 e2 bS' bc
  refine bin_go n1 n2 o hb hv st sb su sv (k.new (nz hb hv) ?_) (k.new (nz hv hb) ?_)
  · simp only [pSub, q1]; grind
  · simp only [pRsub, q1]; grind
theorem val_mul (hx : Val K H x S c) (hy : Val K H y S' c') (o : One x y) (hc : 0 < c) (hc' : 0 < c') (bS : sm S) (bS' : sm S') (bc : sm c) (bc' : sm c') (k : NewV K H (S * S') (c * c') Q) : rBinL (He.ga K "Share") (spBin K pMul q1) (spBin K pRmul q2) E x y H Q := by
  obtain ⟨t, b, n1, hb, g1, e1⟩ := hx
  obtain ⟨u, v, n2, hv, g2, e2⟩ := hy
  obtain ⟨st, sb⟩ := low_sm hb hc g1 e1 bS bc
  obtain ⟨su, sv⟩ := low_sm hv hc' g2 e2 bS' bc'
  refine bin_go n1 n2 o hb hv st sb su sv (k.new (nz hb hv) ?_) (k.new (nz hb hv) ?_)
  · simp only [pMul, q1]; grind
  · simp only [pRmul, q2]; grind
end
def spEqS (K : S.Frag) : Sp := Sp2 fun x y H Q _ => ∃ a t b u v, x = .ref a ∧ ShAt K H a t b ∧ NumAt K H y u v ∧ Q (.bl (decide (t = u) && decide (b = v))) H
theorem ok_Share___eq__ (T : Txt K mg) : FnOk P w K mg base (L2.CX P w) 3 (He.fAd K ("Share", some "__eq__")) (S.fdA K ("Share", some "__eq__")) ["self", "other"] (spEqS K) := by
  have G_is_number := ok_is_number (P := P) (w := w) (base := base) T
  have G_top_of := ok_top_of (P := P) (w := w) (base := base) T
  have G_bottom_of := ok_bottom_of (P := P) (w := w) (base := base) T
  refine FunD.ok T.F_Share___eq__ sc_Share___eq__ (fun vs H Q E h => S.splen2 h) (fun cdv A outer s H vs Q E hr h => ?_)
  have hu := hu_of hr
  refine ⟨_, (pss_cons (ps_if (pt_not (pt_val (S.pe_fnS G_is_number (hr.mono (by decide)) rfl T.g_is_number T.F_is_number.kp (kb_is_number_1 T) S.pas0 (pa_cons (pv 1) pa_nil) pk_nil rfl rfl))) (pss_one S.ps_never) pss_nil)
      (pss_one (ps_ret (pe_and (pe_cmpR op_eq (S.pe_slK (K := K) rfl (pv 0) rfl) (S.pe_fnS G_top_of (hr.mono (by decide)) rfl T.g_top_of T.F_top_of.kp (kb_top_of_1 T) S.pas0 (pa_cons (pv 1) pa_nil) pk_nil rfl rfl) (nomark _)) (pe_one (pe_cmpR op_eq (S.pe_slK (K := K) rfl (pv 0) rfl) (S.pe_fnS G_bottom_of (hr.mono (by decide)) rfl T.g_bottom_of T.F_bottom_of.kp (kb_bottom_of_1 T) S.pas0 (pa_cons (pv 1) pa_nil) pk_nil rfl rfl) (nomark _))))))), ?_⟩
  obtain ⟨_, _, rfl, a, t, b, u, v, rfl, ⟨dx, vs, hs, h0, h1⟩, hy, q⟩ := h
  refine ⟨_, rfl, rfl, rfl, _, rfl, u, v, hy, _, rfl, iteF ?_⟩
  refine ⟨_, rfl, a, _, dx, _, vs, 1, _, rfl, hs, T.sc_Share, T.sl_Share_top, h0, _, rfl, rfl, rfl, _, rfl, u, v, hy, rfl, _, rfl, ?_⟩
  by_cases c : t = u
  · refine iteY (by simp [c]) ⟨_, rfl, a, _, dx, _, vs, 0, _, rfl, hs, T.sc_Share, T.sl_Share_bottom, h1, _, rfl, rfl, rfl, _, rfl, u, v, hy, rfl, ?_⟩
    simpa [c] using q
  · refine iteN (by simp [c]) ?_
    simpa [c] using q
end
end W

namespace W
open PySem PySem.Spec PyProof.Rows L2
section
variable {P : Program} {w : World} {K : S.Frag} {mg : Str → Option Value} {base : Heap}
open S
def spPart : Sp := Sp1 fun x H Q _ => ∃ c : Int, x = .int c ∧ ∀ p i j, H p = none → -(10 ^ 40) ≤ i → i ≤ 10 ^ 40 → 1 ≤ j → j ≤ 40 → Q (.ref p) (upd H p (.lst [.int i, .int j]))
theorem ok__law_part (T : Txt K mg) : FnOk P w K mg base (L2.CX P w) 1 (He.fAd K ("_law_part", none)) (S.fdA K ("_law_part", none)) ["_law_cell_here"] (spPart) := by
  refine FunD.ok T.F__law_part sc__law_part (fun vs H Q E h => S.splen1 h) (fun cdv A outer s H vs Q E hr h => ?_)
  have hu := hu_of hr
  refine ⟨_, (pss_cons (ps_set (i := 1) sc__law_part.nd rfl (by first | exact Or.inl rfl | exact Or.inr rfl) (pe_op op_add pe_int (pe_op op_mod (pe_callTy call_int1 rfl T.n_int S.boot_int (pa_cons (pv 0) pa_nil)) pe_int)))
      (pss_one (ps_ret (pe_lst (pa_cons (pe_op op_sub (pe_op op_mod (pe_op op_fdivW (pe_callTy call_int1 rfl T.n_int S.boot_int (pa_cons (pv 0) pa_nil)) pe_int) (pe_op op_add (pe_op S.op_mulA pe_int (pe_op op_pow pe_int pe_int)) pe_int)) (pe_op op_pow pe_int pe_int)) (pa_cons (pv 1) pa_nil)))))), ?_⟩
  obtain ⟨_, rfl, c, rfl, q⟩ := h
  have e : (2 * 10 ^ Int.toNat 40 + 1 : Int) = 20000000000000000000000000000000000000001 := by decide +kernel
  have e2 : (10 ^ Int.toNat 40 : Int) = 10000000000000000000000000000000000000000 := by decide +kernel
  have e3 : (10 ^ 40 : Int) = 10000000000000000000000000000000000000000 := by decide +kernel
  refine ⟨_, rfl, .inl ⟨_, rfl, _, _, rfl, rfl, (by show (0 : Int) < 40; decide), _, _, rfl, rfl, ?_⟩⟩
  refine ⟨_, rfl, .inl ⟨_, rfl, _, _, rfl, rfl, div_small (by decide) (by decide), _, _, rfl, rfl, ⟨by decide, by decide, by decide⟩, _, _, rfl, rfl, mul_smallL (by decide), _, _, rfl, rfl, _, _, rfl, rfl, (by show (0 : Int) < 2 * 10 ^ Int.toNat 40 + 1; decide +kernel), _, _, rfl, rfl, ⟨by decide, by decide, by decide⟩, _, _, rfl, rfl, ?_⟩⟩
  refine ⟨_, rfl, by show 2 ≤ sizeLine; decide, fun p hp => ?_⟩
  have m1 := mod_lo (c / 40) (show (0 : Int) < 2 * 10 ^ Int.toNat 40 + 1 by decide +kernel)
  have m2 := mod_hi (c / 40) (show (0 : Int) < 2 * 10 ^ Int.toNat 40 + 1 by decide +kernel)
  have m3 := mod_lo c (show (0 : Int) < 40 by decide)
  have m4 := mod_hi c (show (0 : Int) < 40 by decide)
  refine q p (c / 40 % (2 * 10 ^ Int.toNat 40 + 1) - 10 ^ Int.toNat 40) (1 + c % 40) hp ?_ ?_ (by omega) (by omega)
  · rw [e2, e3]; omega
  · rw [e] at *; rw [e2, e3]; omega
end
end W

namespace W
open PySem PySem.Spec PyProof.Rows L2
section
variable {P : Program} {w : World} {K : S.Frag} {mg : Str → Option Value} {base : Heap}
open S
def CM : Int := 5342931457063200
def lcmTo : Nat → Int
  | 0 => 1
  | n + 1 => lcmTo n * (1 + (n : Int)) / gI (lcmTo n) (1 + (n : Int))
theorem lcmTo_all : lcmTo 40 = CM := by decide +kernel
theorem lcmTo_pos : ∀ n, n < 41 → 0 < lcmTo n ∧ lcmTo n ≤ CM := by decide +kernel
theorem cm_dvd : ∀ j : Nat, j < 41 → 0 < j → CM / (j : Int) * (j : Int) = CM ∧ CM / (j : Int) ≤ CM := by decide +kernel
theorem cm_div {j : Int} (h1 : 1 ≤ j) (h2 : j ≤ 40) : CM / j * j = CM ∧ CM / j ≤ CM := by
  obtain ⟨n, rfl⟩ : ∃ n : Nat, j = (n : Int) := ⟨j.toNat, by omega⟩
  exact cm_dvd n (by omega) (by omega)
theorem ediv_ratio4 {p q p' q' : Int} (h : 0 < q) (h' : 0 < q') (e : p * q' = p' * q) : p / q = p' / q' := by
  have a : p * q' / (q * q') = p / q := Int.mul_ediv_mul_of_pos_left p q h'
  have b : p' * q / (q' * q) = p' / q' := Int.mul_ediv_mul_of_pos_left p' q' h
  rw [← a, ← b, e, Int.mul_comm q q']
/-- two lowest terms of one value -/
theorem low_one {T B T' B' : Int} (hB : 0 < B) (hB' : 0 < B') (g : gI T B = 1) (g' : gI T' B' = 1) (e : T * B' = T' * B) : T = T' ∧ B = B' := by
  obtain ⟨k, kp, h1, h2⟩ := low hB hB' g e
  obtain ⟨m, mp, h3, h4⟩ := low hB' hB g' (by rw [Int.mul_comm T' B, Int.mul_comm T B'] at *; grind)
  have : k = 1 := by
    have e1 : B * (k * m) = B * 1 := by rw [← Int.mul_assoc, ← h1, ← h3, Int.mul_one]
    have e2 := Int.eq_of_mul_eq_mul_left (Int.ne_of_gt hB) e1
    rcases Int.lt_or_le 1 k with z | z
    · have := Int.mul_le_mul_of_nonneg_left (show 1 ≤ m by omega) (show 0 ≤ k by omega)
      omega
    · omega
  subst this
  rw [Int.mul_one] at h1 h2
  exact ⟨h2.symm, h1.symm⟩
theorem val_one {H : Hp} {T B T' B' S c : Int} (hc : 0 < c) (hB : 0 < B) (hB' : 0 < B') (g : gI T B = 1) (g' : gI T' B' = 1) (e : T * c = S * B) (e' : T' * c = S * B') : T = T' ∧ B = B' := by
  refine low_one hB hB' g g' (Int.eq_of_mul_eq_mul_right (Int.ne_of_gt hc) ?_)
  grind
theorem floors {c : Int} (hc : 0 < c) : ∀ l : List Int, (l.map (· / c)).sum * c ≤ l.sum ∧ l.sum ≤ (l.map (· / c)).sum * c + (l.length : Int) * (c - 1)
  | [] => by simp
  | x :: l => by
    obtain ⟨h1, h2⟩ := floors hc l
    have a := Int.ediv_mul_le x (Int.ne_of_gt hc)
    have b := Int.lt_ediv_add_one_mul_self x hc
    simp only [List.map_cons, List.sum_cons, List.length_cons, Int.natCast_add, Int.natCast_one]
    rw [Int.add_mul, Int.add_mul ((l.length : Nat) : Int) 1 (c - 1)]
    rw [Int.add_mul] at b
    omega
theorem floors_lo {c : Int} (hc : 0 < c) (l : List Int) : (l.map (· / c)).sum ≤ l.sum / c := (Int.le_ediv_iff_mul_le hc).mpr (floors hc l).1
theorem floors_hi {c : Int} (hc : 0 < c) (l : List Int) (h : 0 < l.length) : l.sum / c < (l.map (· / c)).sum + (l.length : Int) := by
  refine Int.ediv_lt_of_lt_mul hc ?_
  have := (floors hc l).2
  rw [Int.add_mul]
  rw [Int.mul_sub, Int.mul_one] at this
  omega
theorem sum_le {b : Int} (hb : 0 ≤ b) : ∀ l : List Int, (∀ x ∈ l, x.natAbs ≤ b.natAbs) → l.sum.natAbs ≤ l.length * b.natAbs
  | [], _ => by simp
  | x :: l, h => by
    have h1 := h x (List.mem_cons_self)
    have h2 := sum_le hb l fun y hy => h y (List.mem_cons_of_mem _ hy)
    have h3 : (x + l.sum).natAbs ≤ x.natAbs + l.sum.natAbs := Int.natAbs_add_le _ _
    rw [List.sum_cons, List.length_cons, Nat.add_mul]
    omega
theorem zero_low {B : Int} (hB : 0 < B) (g : gI 0 B = 1) : B = 1 := by
  unfold gI at g
  rw [show (0 : Int).natAbs = 0 from rfl, Nat.gcd_zero_left] at g
  omega
theorem cut_le (xs : List V) (lo hi : Option Int) : (cutV xs lo hi).length ≤ xs.length := by
  unfold cutV
  simp only [List.length_take, List.length_drop]
  omega
end
end W

namespace W
open PySem PySem.Spec PyProof.Rows L2
section
variable {P : Program} {w : World} {K : S.Frag} {mg : Str → Option Value} {base : Heap}
open S
def goodP (i j : Int) : Prop := -(10 ^ 40) ≤ i ∧ i ≤ 10 ^ 40 ∧ 1 ≤ j ∧ j ≤ 40
def PL (H : Hp) (L : List (Addr × Int × Int)) : Prop := ∀ z ∈ L, H z.1 = some (.lst [.int z.2.1, .int z.2.2]) ∧ goodP z.2.1 z.2.2
def SL (K : S.Frag) (H : Hp) (W : List (Addr × Int)) : Prop := ∀ z ∈ W, Val K H (.ref z.1) z.2 CM
theorem PL.same {H H' : Hp} {L : List (Addr × Int × Int)} (h : PL H L) (s : Same H H') : PL H' L := fun z hz => ⟨s _ _ (h z hz).1, (h z hz).2⟩
theorem SL.same {H H' : Hp} {W : List (Addr × Int)} (h : SL K H W) (s : Same H H') : SL K H' W := fun z hz => (h z hz).same s
/-- the list at D grows, all that stood before it stands -/
theorem same_upd {H0 H : Hp} {D : Addr} {o : HO} (s : Same H0 H) (n : H0 D = none) : Same H0 (upd H D o) := Same.upd s n
theorem SL.grow {H : Hp} {W : List (Addr × Int)} {ls : Addr} {o : HO} (h : SL K H W) (n : ∀ z ∈ W, z.1 ≠ ls) (e : ∃ xs, H ls = some (.lst xs)) : SL K (upd H ls o) W := by
  intro z hz
  obtain ⟨T, B, hn, h2⟩ := h z hz
  refine ⟨T, B, ?_, h2⟩
  obtain ⟨xs, e⟩ := e
  rcases hn with ⟨c, ec, dx, vs, hs, h0⟩ | hn
  · refine .inl ⟨c, ec, dx, vs, ?_, h0⟩
    have nc : c ≠ ls := by
      cases ec
      exact n z hz
    rcases hs with ⟨a1, a2⟩ | ⟨a1, a2⟩
    · exact .inl ⟨by rw [upd_ne nc]; exact a1, a2⟩
    · refine .inr ⟨by rw [upd_ne nc]; exact a1, ?_⟩
      rw [upd_ne]
      · exact a2
      · rintro rfl
        rw [e] at a2
        cases a2
  · exact .inr hn
theorem mkZ {H : Hp} {Z : VK} {E : XK} {t b : Int} {p dx : Addr} (np : H p = none) (ndx : H dx = none) (ne : dx ≠ p) (bt : t.natAbs < 2 ^ 4000) (bb : b.natAbs < 2 ^ 4000) (h : b ≠ 0)
    (k : ∀ (H' : Hp) (T B : Int), Same H H' → ShAt K H' p T B → 0 < B → gI T B = 1 → T * b = t * B → T.natAbs ≤ t.natAbs → B.natAbs ≤ b.natAbs → Z .non H') :
    spShare K [.ref p, .int t, .int b] (upd (upd H dx (.own p)) p (.ins (He.ga K "Share") dx [])) Z E := by
  have s0 : Same H (upd (upd H dx (.own p)) p (.ins (He.ga K "Share") dx [])) := Same.upd (Same.new ndx) np
  have du : dueS (.int t) (.int b) = "" := by simp [dueS, isInt, intV, h]
  exact ⟨_, _, _, rfl, p, dx, rfl, upd_same, ne, .int _, .int _, bt, bb, fun e H' kp hp => k H' _ _ (fun c o hc => kp c o (s0 c o hc) (ne_of_none hc np) (ne_of_none hc ndx)) hp (loB_pos h) (lo_one h) (lo_same h) (lo_leT h) (lo_leB h), fun e => absurd du e⟩
theorem val_part {T B x y k c : Int} (cd : k * y = c) (he : T * y = x * B) : T * c = x * k * B := by
  subst cd
  grind
def rawS (z : Addr × Int × Int) : Int := z.2.1 * (CM / z.2.2)
theorem sh_of {H : Hp} {p : Addr} {S c : Int} (h : Val K H (.ref p) S c) : ∃ T B, ShAt K H p T B ∧ 0 < B ∧ gI T B = 1 ∧ T * c = S * B := by
  obtain ⟨T, B, n, h2⟩ := h
  rcases n with ⟨q, e, h⟩ | ⟨e, _⟩
  · cases e
    exact ⟨T, B, h, h2⟩
  · cases e
theorem raw_le {z : Addr × Int × Int} (g : goodP z.2.1 z.2.2) : (rawS z).natAbs ≤ 10 ^ 60 := by
  obtain ⟨g1, g2, g3, g4⟩ := g
  have cdp := cm_div g3 g4
  have cd0 : 0 ≤ CM / z.2.2 := Int.ediv_nonneg (by decide) (by omega)
  have t40 : (10 ^ 40 : Int) = 10000000000000000000000000000000000000000 := by decide +kernel
  rw [t40] at g1 g2
  unfold rawS
  rw [Int.natAbs_mul]
  have a : z.2.1.natAbs ≤ 10000000000000000000000000000000000000000 := by omega
  have b : (CM / z.2.2).natAbs ≤ CM.natAbs := by omega
  exact Nat.le_trans (Nat.mul_le_mul a b) (by decide +kernel)
theorem sums_sm {l : List Int} (h : ∀ s ∈ l, s.natAbs ≤ 10 ^ 60) (hl : l.length ≤ 63) : l.sum.natAbs < 2 ^ 300 := by
  have := sum_le (b := 10 ^ 60) (by decide +kernel) l (fun s hs => Nat.le_trans (h s hs) (by decide +kernel))
  refine Nat.lt_of_le_of_lt (Nat.le_trans this (Nat.mul_le_mul hl (Nat.le_refl _))) (by decide +kernel)
theorem sm_of {n m : Nat} {i : Int} (h : i.natAbs < 2 ^ n) (le : n ≤ 1000) : sm i := up h le
theorem mul_lt {i j : Int} {m n : Nat} (a : i.natAbs < 2 ^ m) (b : j.natAbs < 2 ^ n) : (i * j).natAbs < 2 ^ (m + n) := wide_lt a b
theorem take_sum {l : List Int} {i : Nat} {s : Int} (h : l[i]? = some s) : (l.take (i + 1)).sum = (l.take i).sum + s := by
  rw [List.take_add_one, h, List.sum_append]
  simp
theorem go_is {H : Hp} {Z : VK} {E : XK} {p : Addr} {S c u v : Int} (h : Val K H (.ref p) S c) (hc : 0 < c) (bS : S.natAbs < 2 ^ 900) (bc : c.natAbs < 2 ^ 240) (e : S * v = u * c) (bu : u.natAbs < 2 ^ 900) (bv : v.natAbs < 2 ^ 900) (k : Z (.bl true) H) :
    spIsSh K [.ref p, .int u, .int v] H Z E := by
  obtain ⟨T, B, sh, hB, g, e1⟩ := sh_of h
  obtain ⟨l1, l2⟩ := low_le hB hc g e1
  exact ⟨_, _, _, rfl, p, T, B, u, v, rfl, rfl, rfl, sh, hB, g, ratio (Int.ne_of_gt hc) e1 e, up (Nat.lt_of_le_of_lt l1 bS) (by decide), Nat.lt_of_le_of_lt l2 bc, up bu (by decide), up bv (by decide), k⟩
theorem Val.to {H : Hp} {x : V} {S c u v : Int} (h : Val K H x S c) (hc : c ≠ 0) (e : S * v = u * c) : Val K H x u v := by
  obtain ⟨T, B, n, hB, g, e1⟩ := h
  exact ⟨T, B, n, hB, g, ratio hc e1 e⟩
def spLaw (K : S.Frag) : Sp := Sp1 fun x H Q _ => ∃ (a : Addr) (ns : List Int), x = .ref a ∧ SqL K H a (ns.map V.int) ∧ ns.length ≤ 63 ∧ ∀ H', Q (.bl true) H'
theorem ok_law (T : Txt K mg) : FnOk P w K mg base (L2.CX P w) 7 (He.fAd K ("law", none)) (S.fdA K ("law", none)) ["_law_script"] (spLaw K) := by
  have G__law_cell := ok__law_cell (P := P) (w := w) (base := base) T
  have G__law_part := ok__law_part (P := P) (w := w) (base := base) T
  have G_Share___init__ := ok_Share___init__ (P := P) (w := w) (base := base) T
  have G__law_gcd := ok__law_gcd (P := P) (w := w) (base := base) T
  have G_Share___add__ := ok_Share___add__ (P := P) (w := w) (base := base) T
  have G_Share___radd__ := ok_Share___radd__ (P := P) (w := w) (base := base) T
  have G_Share___mul__ := ok_Share___mul__ (P := P) (w := w) (base := base) T
  have G_Share___rmul__ := ok_Share___rmul__ (P := P) (w := w) (base := base) T
  have G_Share_floor := ok_Share_floor (P := P) (w := w) (base := base) T
  have G__law_is_share := ok__law_is_share (P := P) (w := w) (base := base) T
  have G_Share___eq__ := ok_Share___eq__ (P := P) (w := w) (base := base) T
  have G_Share_over := ok_Share_over (P := P) (w := w) (base := base) T
  have G__law_is_integer := ok__law_is_integer (P := P) (w := w) (base := base) T
  have G_Share___sub__ := ok_Share___sub__ (P := P) (w := w) (base := base) T
  have G_Share___rsub__ := ok_Share___rsub__ (P := P) (w := w) (base := base) T
  have G_Share___floordiv__ := ok_Share___floordiv__ (P := P) (w := w) (base := base) T
  have G_Share___rfloordiv__ := ok_Share___rfloordiv__ (P := P) (w := w) (base := base) T
  refine FunD.ok T.F_law sc_law (fun vs H Q E h => S.splen1 h) (fun cdv A outer s H vs Q E hr h => ?_)
  have hu := hu_of hr
  refine ⟨_, (pss_cons (ps_set (i := 1) sc_law.nd rfl (by first | exact Or.inl rfl | exact Or.inr rfl) (pe_callB (S.lenK (K := K) rfl) rfl T.n_len S.boot_len (pa_cons (pe_slice (S.slLK (K := K) rfl) (pv 0) (po_some pe_int) (po_some pe_int)) pa_nil)))
      (S.pss_cut (ps_if (pt_cmpR op_eq (pv 1) pe_int (nomark _)) (pss_one (ps_set (i := 1) sc_law.nd rfl (by first | exact Or.inl rfl | exact Or.inr rfl) (pe_op op_add pe_int (pe_op op_mod (pe_callTy call_int1 rfl T.n_int S.boot_int (pa_cons (S.pe_fnS G__law_cell (hr.mono (by decide)) rfl T.g__law_cell T.F__law_cell.kp (kb__law_cell_2 T) S.pas0 (pa_cons (pv 0) (pa_cons pe_int pa_nil)) pk_nil rfl rfl) pa_nil)) pe_int)))) pss_nil)
      (pss_cons (ps_setLc (i := 2) (own := [("_law_k", 3)]) (g := gName 3) (tt := tYes) rfl sc_law.nd rfl rfl (sw_true rfl rfl rfl (by decide +kernel)) (pi_range1 rfl T.n_range (pa_cons (pv 1) pa_nil)) (blkOk_by (N := ["_law_script", "_law_many", "_law_parts", "_law_k", "_law_shares", "_law_part_here", "_law_scale", "_law_factor", "_law_common", "_law_top", "_law_total", "_law_scaled", "_law_floors", "_law_share", "_law_back", "_law_rest"]) (sc := defScope s_law) (by decide +kernel)) (fun _ _ _ _ _ => pg_name (i := 3) sc_law.nd rfl (by first | exact Or.inl rfl | exact Or.inr rfl)) (fun _ _ _ _ _ => pts_nil) (fun _ _ _ _ _ => (S.pe_fnS G__law_part (hr.mono (by decide)) rfl T.g__law_part T.F__law_part.kp (kb__law_part_1 T) S.pas0 (pa_cons (S.pe_fnS G__law_cell (hr.mono (by decide)) rfl T.g__law_cell T.F__law_cell.kp (kb__law_cell_2 T) S.pas0 (pa_cons (pv 0) (pa_cons (pe_op op_add pe_int (pv 3)) pa_nil)) pk_nil rfl rfl) pa_nil) pk_nil rfl rfl)))
      (pss_cons (ps_setLc (i := 4) (own := [("_law_part_here", 5)]) (g := gName 5) (tt := tYes) rfl sc_law.nd rfl rfl (sw_true rfl rfl rfl (by decide +kernel)) (S.pi_listK (K := K) rfl (pv 2)) (blkOk_by (N := ["_law_script", "_law_many", "_law_parts", "_law_k", "_law_shares", "_law_part_here", "_law_scale", "_law_factor", "_law_common", "_law_top", "_law_total", "_law_scaled", "_law_floors", "_law_share", "_law_back", "_law_rest"]) (sc := defScope s_law) (by decide +kernel)) (fun _ _ _ _ _ => pg_name (i := 5) sc_law.nd rfl (by first | exact Or.inl rfl | exact Or.inr rfl)) (fun _ _ _ _ _ => pts_nil) (fun _ _ _ _ _ => (S.pe_mkS T.mk_Share G_Share___init__ (hr.mono (by decide)) rfl T.g_Share (kb_Share___init___3 T).choose_spec S.pas0 (pa_cons (pe_ix (S.ixK (K := K) rfl) (pv 5) pe_int (fun _ _ => rfl)) (pa_cons (pe_ix (S.ixK (K := K) rfl) (pv 5) pe_int (fun _ _ => rfl)) pa_nil)) pk_nil rfl rfl)))
      (pss_cons (ps_set (i := 6) sc_law.nd rfl (by first | exact Or.inl rfl | exact Or.inr rfl) (S.pe_fnS G__law_part (hr.mono (by decide)) rfl T.g__law_part T.F__law_part.kp (kb__law_part_1 T) S.pas0 (pa_cons (S.pe_fnS G__law_cell (hr.mono (by decide)) rfl T.g__law_cell T.F__law_cell.kp (kb__law_cell_2 T) S.pas0 (pa_cons (pv 0) (pa_cons pe_int pa_nil)) pk_nil rfl rfl) pa_nil) pk_nil rfl rfl))
      (S.pss_cut (ps_if (pt_cmpR op_eq (pe_ix (S.ixK (K := K) rfl) (pv 6) pe_int (fun _ _ => rfl)) pe_int (nomark _)) (pss_one (ps_asg pe_int (pg_sub (pv 6) pe_int set_list))) pss_nil)
      (pss_cons (ps_set (i := 7) sc_law.nd rfl (by first | exact Or.inl rfl | exact Or.inr rfl) (S.pe_mkS T.mk_Share G_Share___init__ (hr.mono (by decide)) rfl T.g_Share (kb_Share___init___3 T).choose_spec (S.pasE (takes_of rfl rfl rfl rfl)) (pa_cons (pe_ix (S.ixK (K := K) rfl) (pv 6) pe_int (fun _ _ => rfl)) (pa_cons (pe_ix (S.ixK (K := K) rfl) (pv 6) pe_int (fun _ _ => rfl)) pa_nil)) pk_nil rfl rfl))
      (pss_cons (ps_set (i := 8) sc_law.nd rfl (by first | exact Or.inl rfl | exact Or.inr rfl) pe_int)
      (pss_cons (ps_for (S.own_of rfl) rfl (pi_range2 rfl T.n_range (pa_cons pe_int (pa_cons pe_int pa_nil))) (pg_name (i := 3) sc_law.nd rfl (by first | exact Or.inl rfl | exact Or.inr rfl))
        (pss_one (ps_set (i := 8) sc_law.nd rfl (by first | exact Or.inl rfl | exact Or.inr rfl) (pe_op op_fdivW (pe_op S.op_mulA (pv 8) (pv 3)) (S.pe_fnS G__law_gcd (hr.mono (by decide)) rfl T.g__law_gcd T.F__law_gcd.kp (kb__law_gcd_2 T) S.pas0 (pa_cons (pv 8) (pa_cons (pv 3) pa_nil)) pk_nil rfl rfl)))))
      (pss_cons (ps_set (i := 9) sc_law.nd rfl (by first | exact Or.inl rfl | exact Or.inr rfl) (pe_callB (S.sumK (K := K) rfl rfl) rfl T.n_sum S.boot_sum (pa_cons (pe_lc (own := [("_law_part_here", 5)]) (g := gName 5) (tt := tYes) rfl sc_law.nd (S.pi_listK (K := K) rfl (pv 2)) (blkOk_by (N := ["_law_script", "_law_many", "_law_parts", "_law_k", "_law_shares", "_law_part_here", "_law_scale", "_law_factor", "_law_common", "_law_top", "_law_total", "_law_scaled", "_law_floors", "_law_share", "_law_back", "_law_rest"]) (sc := defScope s_law) (by decide +kernel)) (fun _ _ _ _ _ => pg_name (i := 5) sc_law.nd rfl (by first | exact Or.inl rfl | exact Or.inr rfl)) (fun _ _ _ _ _ => pts_nil) (fun _ _ _ _ _ => (pe_op S.op_mulA (pe_ix (S.ixK (K := K) rfl) (pv 5) pe_int (fun _ _ => rfl)) (pe_op op_fdivW (pv 8) (pe_ix (S.ixK (K := K) rfl) (pv 5) pe_int (fun _ _ => rfl)))))) pa_nil)))
      (pss_cons (ps_set (i := 10) sc_law.nd rfl (by first | exact Or.inl rfl | exact Or.inr rfl) (S.pe_mkS T.mk_Share G_Share___init__ (hr.mono (by decide)) rfl T.g_Share (kb_Share___init___2 T).choose_spec (S.pasE (takes_of rfl rfl rfl rfl)) (pa_cons pe_int pa_nil) pk_nil rfl rfl))
      (pss_cons (ps_set (i := 11) sc_law.nd rfl (by first | exact Or.inl rfl | exact Or.inr rfl) pe_int)
      (pss_cons (ps_set (i := 12) sc_law.nd rfl (by first | exact Or.inl rfl | exact Or.inr rfl) pe_int)
      (pss_cons (ps_for (S.own_of rfl) rfl (S.pi_listK (K := K) rfl (pv 4)) (pg_name (i := 13) sc_law.nd rfl (by first | exact Or.inl rfl | exact Or.inr rfl))
        (pss_cons (ps_set (i := 10) sc_law.nd rfl (by first | exact Or.inl rfl | exact Or.inr rfl) (S.pe_binL S.io_add T.bn_add (S.raw_of G_Share___add__ (kb_Share___add___2 T)) (hr.mono (by decide)) (S.raw_of G_Share___radd__ (kb_Share___radd___2 T)) (hr.mono (by decide)) S.pas0 (pv 10) (pv 13)))
      (pss_cons (ps_set (i := 11) sc_law.nd rfl (by first | exact Or.inl rfl | exact Or.inr rfl) (S.pe_binL S.io_add T.bn_add (S.raw_of G_Share___add__ (kb_Share___add___2 T)) (hr.mono (by decide)) (S.raw_of G_Share___radd__ (kb_Share___radd___2 T)) (hr.mono (by decide)) S.pas0 (S.pe_binL S.io_mul T.bn_mul (S.raw_of G_Share___mul__ (kb_Share___mul___2 T)) (hr.mono (by decide)) (S.raw_of G_Share___rmul__ (kb_Share___rmul___2 T)) (hr.mono (by decide)) S.pas0 (pv 7) (pv 13)) (pv 11)))
      (pss_one (ps_set (i := 12) sc_law.nd rfl (by first | exact Or.inl rfl | exact Or.inr rfl) (pe_op op_add (pv 12) (S.pe_mtL0 (pv 13) T.sc_Share T.me_Share_floor G_Share_floor (hr.mono (by decide)) (kb_Share_floor_1 T) S.pas0  pk_nil rfl rfl)))))))
      (pss_cons (ps_set (i := 14) sc_law.nd rfl (by first | exact Or.inl rfl | exact Or.inr rfl) pe_int)
      (pss_cons (ps_for (S.own_of rfl) rfl (pi_range1 rfl T.n_range (pa_cons (pv 1) pa_nil)) (pg_name (i := 3) sc_law.nd rfl (by first | exact Or.inl rfl | exact Or.inr rfl))
        (pss_one (ps_set (i := 14) sc_law.nd rfl (by first | exact Or.inl rfl | exact Or.inr rfl) (S.pe_binL S.io_add T.bn_add (S.raw_of G_Share___add__ (kb_Share___add___2 T)) (hr.mono (by decide)) (S.raw_of G_Share___radd__ (kb_Share___radd___2 T)) (hr.mono (by decide)) S.pas0 (pe_ix (S.ixK (K := K) rfl) (pv 4) (pe_op op_sub (pe_op op_sub (pv 1) pe_int) (pv 3)) (fun _ _ => rfl)) (pv 14)))))
      (pss_cons (ps_if (PW.pt (pw_or (pt_not (pt_val (S.pe_fnS G__law_is_share (hr.mono (by decide)) rfl T.g__law_is_share T.F__law_is_share.kp (kb__law_is_share_3 T) S.pas0 (pa_cons (pv 10) (pa_cons (pv 9) (pa_cons (pv 8) pa_nil))) pk_nil rfl rfl))) (pw_or1 (pt_not (pt_val (S.pe_fnS G__law_is_share (hr.mono (by decide)) rfl T.g__law_is_share T.F__law_is_share.kp (kb__law_is_share_3 T) S.pas0 (pa_cons (pv 14) (pa_cons (pv 9) (pa_cons (pv 8) pa_nil))) pk_nil rfl rfl)))))) (pss_one (ps_ret pe_bl)) pss_nil)
      (pss_cons (ps_if (PW.pt (pw_or (pt_not (pt_val (S.pe_fnS G__law_is_share (hr.mono (by decide)) rfl T.g__law_is_share T.F__law_is_share.kp (kb__law_is_share_3 T) S.pas0 (pa_cons (pv 11) (pa_cons (pe_op S.op_mulA (pv 9) (pe_ix (S.ixK (K := K) rfl) (pv 6) pe_int (fun _ _ => rfl))) (pa_cons (pe_op S.op_mulA (pv 8) (pe_ix (S.ixK (K := K) rfl) (pv 6) pe_int (fun _ _ => rfl))) pa_nil))) pk_nil rfl rfl))) (pw_or1 (pt_cmpR (S.op_neL (C := He.ga K "Share") T.ne_Share T.si_Share.cm T.me_Share___eq__.1 T.me_Share___eq__.2 (S.raw_of G_Share___eq__ (kb_Share___eq___2 T)) (hr.mono (by decide))) (S.pe_binL S.io_mul T.bn_mul (S.raw_of G_Share___mul__ (kb_Share___mul___2 T)) (hr.mono (by decide)) (S.raw_of G_Share___rmul__ (kb_Share___rmul___2 T)) (hr.mono (by decide)) S.pas0 (pv 7) (pv 10)) (pv 11) (nomark _))))) (pss_one (ps_ret pe_bl)) pss_nil)
      (pss_cons (ps_if (pt_not (pt_val (S.pe_fnS G__law_is_share (hr.mono (by decide)) rfl T.g__law_is_share T.F__law_is_share.kp (kb__law_is_share_3 T) S.pas0 (pa_cons (S.pe_binL S.io_mul T.bn_mul (S.raw_of G_Share___mul__ (kb_Share___mul___2 T)) (hr.mono (by decide)) (S.raw_of G_Share___rmul__ (kb_Share___rmul___2 T)) (hr.mono (by decide)) S.pas0 (S.pe_mtL (pv 10) T.sc_Share T.me_Share_over G_Share_over (hr.mono (by decide)) (kb_Share_over_2 T) (S.pasE (takes_of rfl rfl rfl rfl)) (pa_cons (pv 7) pa_nil) pk_nil rfl rfl) (pv 7)) (pa_cons (pv 9) (pa_cons (pv 8) pa_nil))) pk_nil rfl rfl))) (pss_one (ps_ret pe_bl)) pss_nil)
      (pss_cons (ps_if (PW.pt (pw_or (pt_not (pt_val (S.pe_fnS G__law_is_integer (hr.mono (by decide)) rfl T.g__law_is_integer T.F__law_is_integer.kp (kb__law_is_integer_1 T) S.pas0 (pa_cons (pv 12) pa_nil) pk_nil rfl rfl))) (pw_or (pt_not (pt_cmpR op_le (pv 12) (S.pe_mtL0 (pv 10) T.sc_Share T.me_Share_floor G_Share_floor (hr.mono (by decide)) (kb_Share_floor_1 T) S.pas0  pk_nil rfl rfl) (nomark _))) (pw_or1 (pt_not (pt_cmpR op_lt (S.pe_mtL0 (pv 10) T.sc_Share T.me_Share_floor G_Share_floor (hr.mono (by decide)) (kb_Share_floor_1 T) S.pas0  pk_nil rfl rfl) (pe_op op_add (pv 12) (pv 1)) (nomark _))))))) (pss_one (ps_ret pe_bl)) pss_nil)
      (pss_cons (ps_set (i := 15) sc_law.nd rfl (by first | exact Or.inl rfl | exact Or.inr rfl) (pv 10))
      (pss_cons (ps_for (S.own_of rfl) rfl (S.pi_listK (K := K) rfl (pv 4)) (pg_name (i := 13) sc_law.nd rfl (by first | exact Or.inl rfl | exact Or.inr rfl))
        (pss_one (ps_set (i := 15) sc_law.nd rfl (by first | exact Or.inl rfl | exact Or.inr rfl) (S.pe_binL S.io_sub T.bn_sub (S.raw_of G_Share___sub__ (kb_Share___sub___2 T)) (hr.mono (by decide)) (S.raw_of G_Share___rsub__ (kb_Share___rsub___2 T)) (hr.mono (by decide)) S.pas0 (pv 15) (pv 13)))))
      (pss_one (ps_ret (pe_and (S.pe_fnS G__law_is_share (hr.mono (by decide)) rfl T.g__law_is_share T.F__law_is_share.kp (kb__law_is_share_3 T) S.pas0 (pa_cons (pv 15) (pa_cons pe_int (pa_cons pe_int pa_nil))) pk_nil rfl rfl) (pe_and (pe_cmpR (S.op_cmpL (C := He.ga K "Share") S.hop_eq T.me_Share___eq__.1 T.me_Share___eq__.2 (S.raw_of G_Share___eq__ (kb_Share___eq___2 T)) (hr.mono (by decide))) (pv 15) pe_int (nomark _)) (pe_one (pe_cmpR op_eq (S.pe_binL S.io_fdiv T.bn_floordiv (S.raw_of G_Share___floordiv__ (kb_Share___floordiv___2 T)) (hr.mono (by decide)) (S.raw_of G_Share___rfloordiv__ (kb_Share___rfloordiv___2 T)) (hr.mono (by decide)) (S.pasE (takes_of rfl rfl rfl rfl)) (pv 10) pe_int) (S.pe_mtL0 (pv 10) T.sc_Share T.me_Share_floor G_Share_floor (hr.mono (by decide)) (kb_Share_floor_1 T) S.pas0  pk_nil rfl rfl) (nomark _))))))))))))))))))))))))))))), ?_⟩
  obtain ⟨_, rfl, a, ns, rfl, hS, hl, q⟩ := h
  have nfS := T.nf_Share
  have cmp : (0 : Int) < CM := by decide
  refine ⟨_, rfl, 2, rfl, 62, rfl, a, _, rfl, hS, fun p hp => ⟨_, _, rfl, .inl ⟨_, .inl (.inl upd_same), rfl⟩, ?_⟩⟩
  have cl := cut_le (ns.map V.int) (some 2) (some 62)
  rw [List.length_map] at cl
  have s1 := Same.new (o := .lst (cutV (ns.map V.int) (some 2) (some 62))) hp
  refine ⟨fun τ J => Same H J ∧ ∃ N : Nat, 1 ≤ N ∧ N ≤ 63 ∧ τ = [some (.ref a), some (.int (N : Int)), none, none, none, none, none, none, none, none, none, none, none, none, none, none], ?_, ?_⟩
  · refine ⟨_, rfl, rfl, _, rfl, ?_⟩
    by_cases c : (cutV (ns.map V.int) (some 2) (some 62)).length = 0
    · refine iteY (by simp [c]) ⟨_, rfl, rfl, rfl, _, _, rfl, a, ns, 0, rfl, rfl, by decide, s1.seq hS, fun n hn => .inl ⟨_, rfl, _, _, rfl, rfl, (by show (0 : Int) < 9; decide), _, _, rfl, rfl, ?_⟩⟩
      have m1 := mod_lo n (show (0 : Int) < 9 by decide)
      have m2 := mod_hi n (show (0 : Int) < 9 by decide)
      refine ⟨s1, (1 + n % 9).toNat, by omega, by omega, ?_⟩
      rw [Int.toNat_of_nonneg (by omega)]
      rfl
    · exact iteN (by simpa using c) ⟨s1, _, Nat.pos_of_ne_zero c, by omega, rfl⟩
  rintro τ J1 ⟨s1, N, N1, N2, rfl⟩
  -- the parts
  refine ⟨_, rfl, (N : Int), rfl, by omega, by omega, fun lp hlp => lc_range (fun i J => Same J1 J ∧ ∃ L : List (Addr × Int × Int), L.length = i ∧ J lp = some (.lst (L.map fun z => V.ref z.1)) ∧ PL J L ∧ ∀ z ∈ L, z.1 ≠ lp) ⟨Same.new hlp, [], rfl, upd_same, (fun _ z => (nomatch z)), fun _ z => (nomatch z)⟩ ?_ ?_ gName_mono⟩
  · rintro i J hi ⟨sJ, L, hL, eL, pL, nL⟩
    refine ⟨rfl, _, rfl, _, rfl, _, _, rfl, rfl, rfl, rfl, _, _, rfl, a, ns, 2 + (0 + (i : Int)), rfl, rfl, by omega, (s1.trans sJ).seq hS, fun c hc => ⟨rfl, rfl, _, rfl, c, rfl, fun p x y hp x1 x2 y1 y2 => ?_⟩⟩
    have s2 := sJ.trans (Same.new (o := .lst [.int x, .int y]) hp)
    have np : p ≠ lp := (ne_of_none eL hp).symm
    refine ⟨_, Same.new hp _ _ eL, by rw [List.length_map]; exact Nat.lt_of_le_of_lt (show L.length ≤ 100 by omega) (by decide), same_upd s2 hlp, L ++ [(p, x, y)], by simp [hL], by rw [upd_same, List.map_append]; rfl, fun z hz => ?_, fun z hz => ?_⟩
    · rcases List.mem_append.mp hz with h | h
      · refine ⟨?_, (pL z h).2⟩
        rw [upd_ne (nL z h)]
        exact Same.new (o := .lst [.int x, .int y]) hp _ _ (pL z h).1
      · rw [List.mem_singleton.mp h]
        refine ⟨?_, x1, x2, y1, y2⟩
        rw [upd_ne np, upd_same]
    · rcases List.mem_append.mp hz with h | h
      · exact nL z h
      · rw [List.mem_singleton.mp h]
        exact np
  · rintro J2 ⟨s2, L, hL, eL, pL, _⟩
    -- the shares
    refine ⟨_, rfl, lp, rfl, ⟨_, .inl (.inl eL)⟩, fun ls hls => lc_list (xs := L.map fun z => V.ref z.1) (fun i J => Same J2 J ∧ ∃ W : List (Addr × Int), W.map Prod.snd = (L.take i).map rawS ∧ J ls = some (.lst (W.map fun z => V.ref z.1)) ∧ SL K J W ∧ ∀ z ∈ W, z.1 ≠ ls) ⟨Same.new hls, [], rfl, upd_same, (fun _ z => (nomatch z)), fun _ z => (nomatch z)⟩ (fun i J _ h => .inl (.inl (h.1 _ _ eL))) ?_ ?_ gName_mono⟩
    · rintro i xv J hi ⟨sJ, W, hW, eW, pW, nW⟩
      rw [List.getElem?_map] at hi
      obtain ⟨z, hz, rfl⟩ := Option.map_eq_some_iff.mp hi
      have hzm := List.mem_of_getElem? hz
      obtain ⟨ez, g1, g2, g3, g4⟩ := (pL.same sJ) z hzm
      have t40 : (10 ^ 40 : Int) = 10000000000000000000000000000000000000000 := by decide +kernel
      have bx : z.2.1.natAbs < 2 ^ 200 := Nat.lt_of_le_of_lt (show z.2.1.natAbs ≤ 10000000000000000000000000000000000000000 by rw [t40] at g1 g2; omega) (by decide +kernel)
      have by_ : z.2.2.natAbs < 2 ^ 200 := Nat.lt_of_le_of_lt (show z.2.2.natAbs ≤ 40 by omega) (by decide +kernel)
      refine ⟨rfl, _, rfl, ix3 ez rfl ⟨_, rfl, ix3 ez rfl ⟨rfl, rfl, fun ps dx np ndx ne => mkZ np ndx ne (up bx (by decide)) (up by_ (by decide)) (by omega) fun J' T1 B1 s' hp hB hg he _ _ => ⟨rfl, ?_⟩⟩⟩⟩
      have nps : ps ≠ ls := (ne_of_none eW np).symm
      have lW : W.length = i := by
        have := congrArg List.length hW
        simp only [List.length_map, List.length_take] at this
        have : i < L.length := (List.getElem?_eq_some_iff.mp hz).1
        omega
      have v1 : Val K J' (.ref ps) (rawS z) CM := by
        refine ⟨T1, B1, .inl ⟨ps, rfl, hp⟩, hB, hg, ?_⟩
        have cd := (cm_div g3 g4).1
        exact val_part cd he
      have all : SL K J' (W ++ [(ps, rawS z)]) := fun y hy => by
        rcases List.mem_append.mp hy with h | h
        · exact (pW y h).same s'
        · rw [List.mem_singleton.mp h]
          exact v1
      have nall : ∀ y ∈ W ++ [(ps, rawS z)], y.1 ≠ ls := fun y hy => by
        rcases List.mem_append.mp hy with h | h
        · exact nW y h
        · rw [List.mem_singleton.mp h]
          exact nps
      refine ⟨_, s' _ _ eW, by rw [List.length_map, lW]; exact Nat.lt_of_le_of_lt (show i ≤ 100 by have := (List.getElem?_eq_some_iff.mp hz).1; omega) (by decide), same_upd (sJ.trans s') hls, W ++ [(ps, rawS z)], ?_, by rw [upd_same, List.map_append]; rfl, all.grow nall ⟨_, s' _ _ eW⟩, nall⟩
      rw [List.map_append, hW, List.take_add_one, hz, List.map_append]
      rfl
    · rintro J3 ⟨s3, W, hW, eW, pW, _⟩
      rw [List.length_map, List.take_length] at hW
      have s13 := (s1.trans s2).trans s3
      have pL3 := pL.same s3
      have eL3 := s3 _ _ eL
      refine ⟨_, rfl, rfl, rfl, _, _, rfl, a, ns, 1, rfl, rfl, by decide, s13.seq hS, fun c hc => ⟨rfl, rfl, _, rfl, c, rfl, fun pc x y hpc x1 x2 y1 y2 => ?_⟩⟩
      refine ⟨fun τ J => Same J3 J ∧ ∃ x : Int, x ≠ 0 ∧ x.natAbs < 2 ^ 200 ∧ J pc = some (.lst [.int x, .int y]) ∧ τ = [some (.ref a), some (.int (N : Int)), some (.ref lp), none, some (.ref ls), none, some (.ref pc), none, none, none, none, none, none, none, none, none], ?_, ?_⟩
      · have t40 : (10 ^ 40 : Int) = 10000000000000000000000000000000000000000 := by decide +kernel
        have bx : x.natAbs < 2 ^ 200 := Nat.lt_of_le_of_lt (show x.natAbs ≤ 10000000000000000000000000000000000000000 by rw [t40] at x1 x2; omega) (by decide +kernel)
        refine ⟨_, rfl, ix3 upd_same rfl ⟨rfl, _, rfl, ?_⟩⟩
        by_cases c0 : x = 0
        · exact iteY (by simp [c0]) ⟨_, rfl, pc, _, 0, 0, rfl, rfl, upd_same, rfl, same_upd (Same.new hpc) hpc, 7, by decide, by decide +kernel, upd_same, rfl⟩
        · exact iteN (by simp [c0]) ⟨Same.new hpc, x, c0, bx, upd_same, rfl⟩
      rintro τ J4 ⟨s4, x, x0, bx, epc, rfl⟩
      have by1 : y.natAbs < 2 ^ 200 := Nat.lt_of_le_of_lt (show y.natAbs ≤ 40 by omega) (by decide +kernel)
      refine ⟨_, rfl, ix3 epc rfl ⟨_, rfl, ix3 epc rfl ⟨rfl, rfl, fun pf dx np ndx ne => mkZ np ndx ne (up bx (by decide)) (up by1 (by decide)) (by omega) fun J5 Tf Bf s5 hpf fB fg fe _ _ => ⟨rfl, ?_⟩⟩⟩⟩
      have vf : Val K J5 (.ref pf) x y := ⟨Tf, Bf, .inl ⟨pf, rfl, hpf⟩, fB, fg, fe⟩
      have s35 := s4.trans s5
      have pL5 := pL3.same s35
      have eL5 := s35 _ _ eL3
      -- the common bottom
      refine ⟨1, 41, rfl, ⟨by decide, by decide, by decide, by decide⟩, for_range (n := 40) (fun i σ J => J = J5 ∧ ∃ k, σ = [some (.ref a), some (.int (N : Int)), some (.ref lp), k, some (.ref ls), none, some (.ref pc), some (.ref pf), some (.int (lcmTo i)), none, none, none, none, none, none, none]) ⟨rfl, none, rfl⟩ ?_ ?_⟩
      · rintro i σ J hi ⟨rfl, k, rfl⟩
        have i0 : (1 + (i : Int)) ≠ 0 := by omega
        have gp := gI_pos (t := lcmTo i) i0
        have gl := gI_le (t := lcmTo i) i0
        refine ⟨_, rfl, _, rfl, _, _, rfl, rfl, mul_small (by omega), _, rfl, _, rfl, rfl, rfl, _, _, rfl, lcmTo i, 1 + (i : Int), rfl, rfl, Nat.lt_of_le_of_lt (show (1 + (i : Int)).natAbs ≤ 100 by omega) (by decide +kernel), _, _, rfl, rfl, div_small gp (by omega), rfl, _, rfl⟩
      rintro σ J ⟨rfl, k, rfl⟩
      rw [lcmTo_all]
      -- the top
      refine ⟨_, rfl, lp, rfl, ⟨_, .inl (.inl eL5)⟩, fun lt hlt => lc_list (xs := L.map fun z => V.ref z.1) (fun i J' => Same J J' ∧ J' lt = some (.lst (((L.take i).map rawS).map V.int))) ⟨Same.new hlt, upd_same⟩ (fun i J' _ h => .inl (.inl (h.1 _ _ eL5))) ?_ ?_ gName_mono⟩
      · rintro i xv J' hi ⟨sJ, eT⟩
        rw [List.getElem?_map] at hi
        obtain ⟨z, hz, rfl⟩ := Option.map_eq_some_iff.mp hi
        have hzm := List.mem_of_getElem? hz
        obtain ⟨ez, g1, g2, g3, g4⟩ := (pL5.same sJ) z hzm
        have il := (List.getElem?_eq_some_iff.mp hz).1
        have cdp := cm_div g3 g4
        have cd0 : 0 ≤ CM / z.2.2 := Int.ediv_nonneg (by decide) (by omega)
        have cdl : CM / z.2.2 < 2 ^ 64 := Int.lt_of_le_of_lt cdp.2 (by decide)
        refine ⟨rfl, _, rfl, ix3 ez rfl ⟨_, rfl, _, rfl, ix3 ez rfl ⟨_, _, rfl, rfl, div_small (by omega) (by omega), _, _, rfl, rfl, mul_small ⟨by omega, cdl⟩, ?_⟩⟩⟩
        refine ⟨_, eT, by rw [List.length_map, List.length_map, List.length_take]; exact Nat.lt_of_le_of_lt (show min i L.length ≤ 100 by omega) (by decide), same_upd sJ hlt, ?_⟩
        rw [upd_same, List.take_add_one, hz, List.map_append, List.map_append]
        rfl
      · rintro J6 ⟨s6, eT⟩
        rw [List.length_map, List.take_length] at eT
        refine ⟨lt, L.map rawS, rfl, .inl (.inl eT), ?_⟩
        have s36 := s35.trans s6
        have hle : ∀ s ∈ L.map rawS, s.natAbs ≤ 10 ^ 60 := fun s hs => by
          obtain ⟨z, hz, rfl⟩ := List.mem_map.mp hs
          exact raw_le (pL z hz).2
        have lenS : (L.map rawS).length = N := by rw [List.length_map, hL]; exact Int.toNat_natCast N
        have eW6 := s36 _ _ eW
        have pW6 := pW.same s36
        have vf6 := vf.same s6
        clear eT
        generalize hSg : L.map rawS = Sg at *
        have tk : ∀ i, (Sg.take i).sum.natAbs < 2 ^ 300 := fun i => sums_sm (fun s hs => hle s (List.mem_of_mem_take hs)) (by rw [List.length_take]; omega)
        have allS : Sg.sum.natAbs < 2 ^ 300 := sums_sm hle (by omega)
        have lW : W.length = N := by rw [← lenS, ← hW, List.length_map]
        have one : ∀ s ∈ Sg, sm s := fun s hs => Nat.lt_of_le_of_lt (hle s hs) (by decide +kernel)
        have cms : sm CM := by show CM.natAbs < 2 ^ 1000; decide +kernel
        have ys : sm y := sm_of (m := 0) by1 (by decide)
        have xs' : sm x := sm_of (m := 0) bx (by decide)
        have yc : 0 < y * CM := Int.mul_pos (by omega) cmp
        have ycs : sm (y * CM) := up (mul_lt by1 (show CM.natAbs < 2 ^ 60 by decide +kernel)) (by decide)
        have xk : ∀ {n : Int}, n.natAbs < 2 ^ 300 → sm (x * n) := fun h => up (mul_lt bx h) (by decide)
        have x1k : ∀ s ∈ Sg, sm (x * s) := fun s hs => xk (Nat.lt_of_le_of_lt (hle s hs) (by decide +kernel))
        refine ⟨rfl, rfl, fun pt dx np ndx ne => mkZ (t := 0) (b := 1) np ndx ne (by decide +kernel) (by decide +kernel) (by decide) fun J7 T0 B0 s7 hp0 B0p g0 e0 _ _ => ⟨rfl, ?_⟩⟩
        have v0 : Val K J7 (.ref pt) 0 CM := ⟨T0, B0, .inl ⟨pt, rfl, hp0⟩, B0p, g0, by rw [Int.mul_one, Int.zero_mul] at e0; rw [e0, Int.zero_mul, Int.zero_mul]⟩
        have eW7 := s7 _ _ eW6
        have pW7 := pW6.same s7
        have vf7 := vf6.same s7
        refine ⟨_, rfl, ls, rfl, ⟨_, .inl (.inl eW7)⟩, for_list (xs := W.map fun z => V.ref z.1) (fun i σ J' => Same J7 J' ∧ ∃ (pt : Addr) (sc : V) (sh : Option V), Val K J' (.ref pt) (Sg.take i).sum CM ∧ Val K J' sc (x * (Sg.take i).sum) (y * CM) ∧ (i = 0 ∨ ∃ c, sc = .ref c) ∧
          σ = [some (.ref a), some (.int (N : Int)), some (.ref lp), k, some (.ref ls), none, some (.ref pc), some (.ref pf), some (.int CM), some (.int Sg.sum), some (.ref pt), some sc, some (.int ((Sg.take i).map (· / CM)).sum), sh, none, none])
          ⟨fun _ _ z => z, pt, .int 0, none, v0, ⟨0, 1, .inr ⟨rfl, rfl⟩, by decide, gI_one 0, by simp⟩, .inl rfl, rfl⟩ (fun i σ J' _ h => .inl (.inl (h.1 _ _ eW7))) ?_ ?_⟩
        · rintro i xv σ J' hi ⟨sJ, pt, sc, sh, vT, vs, h0, rfl⟩
          rw [List.getElem?_map] at hi
          obtain ⟨z, hz, rfl⟩ := Option.map_eq_some_iff.mp hi
          have hzm := List.mem_of_getElem? hz
          have hzS : Sg[i]? = some z.2 := by rw [← hW, List.getElem?_map, hz]; rfl
          have zm := List.mem_of_getElem? hzS
          have vz := (pW7 z hzm).same sJ
          refine ⟨_, rfl, _, rfl, val_add vT vz (.inl ⟨_, rfl⟩) cmp (sm_of (m := 0) (tk i) (by decide)) (one _ zm) cms fun p1 H1 h1 v1 => ?_⟩
          refine ⟨_, rfl, _, rfl, val_mul ((vf7.same sJ).same h1) (vz.same h1) (.inl ⟨_, rfl⟩) (by omega) cmp xs' (one _ zm) ys cms fun p2 H2 h2 v2 => ?_⟩
          refine ⟨_, rfl, val_add v2 ((vs.same h1).same h2) (.inl ⟨_, rfl⟩) yc (x1k _ zm) (xk (tk i)) ycs fun p3 H3 h3 v3 => ?_⟩
          have h13 := (h1.trans h2).trans h3
          obtain ⟨Tz, Bz, shz, Bzp, gz, ez⟩ := sh_of (vz.same h13)
          obtain ⟨dz, vz', hsl, _⟩ := id shz
          have bz := (low_le Bzp cmp gz ez).2
          have fl : Tz / Bz = z.2 / CM := ediv_ratio4 Bzp cmp ez
          refine ⟨_, rfl, _, rfl, z.1, dz, vz', rfl, hsl, rfl, rfl, _, rfl, z.1, Tz, Bz, rfl, shz, Bzp, Nat.lt_of_le_of_lt bz (by decide +kernel), _, _, rfl, rfl, sJ.trans h13, p1, .ref p3, some (.ref z.1), ?_, ?_, .inr ⟨_, rfl⟩, ?_⟩
          · rw [take_sum hzS]
            exact (v1.same h2).same h3
          · rw [take_sum hzS, Int.mul_add, Int.add_comm]
            exact v3
          · have : ((Sg.take (i + 1)).map (· / CM)).sum = ((Sg.take i).map (· / CM)).sum + Tz / Bz := by
              rw [List.take_add_one, hzS, List.map_append, List.sum_append, fl]
              simp
            rw [this]
            rfl
        · rintro σ J8 ⟨s8, pt, sc, sh, vT, vs, h0, rfl⟩
          have tl : Sg.take (W.map fun z => V.ref z.1).length = Sg := by rw [List.length_map, lW, ← lenS, List.take_length]
          rw [tl] at vT vs ⊢
          obtain ⟨psc, rfl⟩ : ∃ c, sc = .ref c := by
            rcases h0 with h | h
            · rw [List.length_map, lW] at h
              omega
            · exact h
          have eW8 := s8 _ _ eW7
          have pW8 := pW7.same s8
          have vf8 := vf7.same s8
          have epc8 := s8 _ _ (s7 _ _ (s6 _ _ (s5 _ _ epc)))
          -- from the back
          refine ⟨_, rfl, (N : Int), rfl, by omega, by omega, for_range (fun i σ J' => Same J8 J' ∧ ∃ (bk : V) (kk : Option V), Val K J' bk (Sg.drop (N - i)).sum CM ∧ (i = 0 ∨ ∃ c, bk = .ref c) ∧
            σ = [some (.ref a), some (.int (N : Int)), some (.ref lp), kk, some (.ref ls), none, some (.ref pc), some (.ref pf), some (.int CM), some (.int Sg.sum), some (.ref pt), some (.ref psc), some (.int (Sg.map (· / CM)).sum), sh, some bk, none])
            ⟨fun _ _ z => z, .int 0, k, ⟨0, 1, .inr ⟨rfl, rfl⟩, by decide, gI_one 0, by rw [Nat.sub_zero, List.drop_eq_nil_of_le (by omega)]; rfl⟩, .inl rfl, rfl⟩ ?_ ?_⟩
          · rintro i σ J' hi ⟨sJ, bk, kk, vb, _, rfl⟩
            rw [Int.toNat_natCast] at hi
            have mi : N - 1 - i < W.length := by omega
            have hz : W[N - 1 - i]? = some W[N - 1 - i] := List.getElem?_eq_getElem mi
            generalize W[N - 1 - i] = z at hz
            have hzm := List.mem_of_getElem? hz
            have hzS : Sg[N - 1 - i]? = some z.2 := by rw [← hW, List.getElem?_map, hz]; rfl
            have zm := List.mem_of_getElem? hzS
            have vz := (pW8 z hzm).same sJ
            have dn : Sg.drop (N - 1 - i) = z.2 :: Sg.drop (N - i) := by
              have e := List.drop_eq_getElem_cons (l := Sg) (i := N - 1 - i) (by omega)
              rw [e, (List.getElem?_eq_some_iff.mp hzS).2, show N - 1 - i + 1 = N - i by omega]
            have at_ : atI (W.map fun z => V.ref z.1) ((N : Int) - 1 - (0 + (i : Int))) = some (.ref z.1) := by
              rw [show (N : Int) - 1 - (0 + (i : Int)) = ((N - 1 - i : Nat) : Int) by omega]
              exact atI_nat (by rw [List.getElem?_map, hz]; rfl)
            refine ⟨_, rfl, _, rfl, _, _, rfl, rfl, _, rfl, _, _, rfl, rfl, ix3 (sJ _ _ eW8) at_ ⟨_, rfl, val_add vz vb (.inl ⟨_, rfl⟩) cmp (one _ zm) ?_ cms fun p1 H1 h1 v1 => ⟨sJ.trans h1, .ref p1, _, ?_, .inr ⟨_, rfl⟩, rfl⟩⟩⟩
            · exact sm_of (m := 0) (sums_sm (fun s hs => hle s (List.mem_of_mem_drop hs)) (by rw [List.length_drop]; omega)) (by decide)
            · rw [show N - (i + 1) = N - 1 - i by omega, dn, List.sum_cons]
              exact v1
          · rintro σ J9 ⟨s9, bk, kk, vb, hb0, rfl⟩
            rw [Int.toNat_natCast, Nat.sub_self, List.drop_zero] at vb
            obtain ⟨pb, rfl⟩ : ∃ c, bk = .ref c := by
              rcases hb0 with h | h
              · rw [Int.toNat_natCast] at h
                omega
              · exact h
            have vT9 := vT.same s9
            have vs9 := vs.same s9
            have vf9 := vf8.same s9
            have epc9 := s9 _ _ epc8
            have cm60 : CM.natAbs < 2 ^ 60 := by decide +kernel
            have a9 : Sg.sum.natAbs < 2 ^ 900 := up allS (by decide)
            have c9 : CM.natAbs < 2 ^ 900 := by decide +kernel
            have c2 : CM.natAbs < 2 ^ 240 := by decide +kernel
            have y40 : (y * CM).natAbs < 2 ^ 240 := up (mul_lt (show y.natAbs < 2 ^ 60 from Nat.lt_of_le_of_lt (show y.natAbs ≤ 40 by omega) (by decide +kernel)) cm60) (by decide)
            refine ⟨_, rfl, _, rfl, _, rfl, rfl, rfl, go_is vT9 cmp a9 c2 rfl a9 c9 ⟨_, rfl, iteF ?_⟩⟩
            refine ⟨_, rfl, _, rfl, _, rfl, rfl, rfl, go_is vb cmp a9 c2 rfl a9 c9 ⟨_, rfl, iteF ?_⟩⟩
            -- the scaled sum
            refine ⟨_, rfl, _, rfl, _, rfl, ix3 epc9 rfl ⟨_, _, rfl, rfl, .inr (wide_mul (a := 300) (b := 200) allS bx (by decide) (by decide) (by decide)), _, rfl, _, rfl, ix3 epc9 rfl ⟨_, _, rfl, rfl, mul_small (by omega), rfl, rfl, go_is vs9 yc (up (mul_lt bx allS) (by decide)) y40 (by grind) (up (mul_lt allS bx) (by decide)) (up (mul_lt cm60 by1) (by decide)) ⟨_, rfl, iteF ?_⟩⟩⟩⟩
            refine ⟨_, rfl, _, rfl, val_mul vf9 vT9 (.inl ⟨_, rfl⟩) (by omega) cmp xs' (sm_of (m := 0) allS (by decide)) ys cms fun pm H1 h1 vm => ?_⟩
            obtain ⟨Tm, Bm, shm, Bmp, gm, em⟩ := sh_of vm
            obtain ⟨Tc, Bc, shc, Bcp, gc, ec⟩ := sh_of (vs9.same h1)
            obtain ⟨e1, e2⟩ := val_one (H := H1) yc Bmp Bcp gm gc em ec
            obtain ⟨dm, wm, hm, _⟩ := id shm
            obtain ⟨dc, wc, hc', _⟩ := id shc
            refine ⟨_, rfl, pm, dm, wm, psc, dc, wc, rfl, rfl, hm, hc', _, _, rfl, pm, Tm, Bm, Tc, Bc, rfl, shm, .inl ⟨psc, rfl, shc⟩, _, rfl, _, rfl, iteN (by simp [e1, e2]) ?_⟩
            have vT10 := vT9.same h1
            have vf10 := vf9.same h1
            -- over the factor and times it
            obtain ⟨T, B, shT, Bp, gT, eT⟩ := sh_of vT10
            obtain ⟨Tf, Bf, shf, Bfp, gf, ef⟩ := sh_of vf10
            obtain ⟨dT, wT, hsT, _⟩ := id shT
            have yp : 0 < y := by omega
            obtain ⟨stT, stB⟩ := low_sm Bp cmp gT eT (sm_of (m := 0) allS (by decide)) cms
            obtain ⟨sfT, sfB⟩ := low_sm Bfp yp gf ef xs' ys
            have lT := low_le Bp cmp gT eT
            have lf := low_le Bfp yp gf ef
            have tf0 : Tf ≠ 0 := fun z => by
              rw [z, Int.zero_mul] at ef
              rcases Int.mul_eq_zero.mp ef.symm with h | h
              · exact x0 h
              · omega
            have tb1 : (T * Bf).natAbs < 2 ^ 900 := up (mul_lt (Nat.lt_of_le_of_lt lT.1 allS) (Nat.lt_of_le_of_lt lf.2 by1)) (by decide)
            have tb2 : (B * Tf).natAbs < 2 ^ 900 := up (mul_lt (Nat.lt_of_le_of_lt lT.2 cm60) (Nat.lt_of_le_of_lt lf.1 bx)) (by decide)
            refine ⟨_, rfl, pt, dT, wT, rfl, hsT, _, rfl, rfl, rfl, _, _, rfl, pt, T, B, Tf, Bf, rfl, shT, .inl ⟨pf, rfl, shf⟩, Bp, Bfp, stT, stB, sfT, sfB, fun _ => ?_, fun z => absurd z tf0⟩
            intro po H2 To Bo h2 hpo Bop go eo _ _
            obtain ⟨So, co, cop, vo, bSo, bco, eSo⟩ : ∃ So co : Int, 0 < co ∧ Val K H2 (.ref po) So co ∧ sm So ∧ sm co ∧ So * (B * Tf) = T * Bf * co := by
              by_cases tp : 0 < Tf
              · exact ⟨T * Bf, B * Tf, Int.mul_pos Bp tp, ⟨To, Bo, .inl ⟨po, rfl, hpo⟩, Bop, go, eo⟩, up tb1 (by decide), up tb2 (by decide), rfl⟩
              · refine ⟨-(T * Bf), -(B * Tf), ?_, ⟨To, Bo, .inl ⟨po, rfl, hpo⟩, Bop, go, by rw [Int.mul_neg, Int.neg_mul, eo]⟩, by unfold sm; rw [Int.natAbs_neg]; exact up tb1 (by decide), by unfold sm; rw [Int.natAbs_neg]; exact up tb2 (by decide), by rw [Int.neg_mul, Int.mul_neg]⟩
                rw [← Int.mul_neg]
                exact Int.mul_pos Bp (by omega)
            have vf12 : Val K H2 (.ref pf) Tf Bf := ⟨Tf, Bf, .inl ⟨pf, rfl, shf.same h2⟩, Bfp, gf, rfl⟩
            refine ⟨_, rfl, val_mul vo vf12 (.inl ⟨_, rfl⟩) cop Bfp bSo sfT bco sfB fun pm2 H3 h3 vm2 => ?_⟩
            have vm3 : Val K H3 (.ref pm2) Sg.sum CM := by
              refine vm2.to (Int.mul_ne_zero (Int.ne_of_gt cop) (Int.ne_of_gt Bfp)) ?_
              refine Int.eq_of_mul_eq_mul_right (Int.ne_of_gt Bp) ?_
              grind
            refine ⟨_, rfl, _, rfl, rfl, rfl, go_is vm3 cmp a9 c2 rfl a9 c9 ⟨_, rfl, iteF ?_⟩⟩
            have h23 := h2.trans h3
            have shT3 := shT.same h23
            obtain ⟨d3, w3, hs3, _⟩ := id shT3
            have fl : T / B = Sg.sum / CM := ediv_ratio4 Bp cmp eT
            have bB : B.natAbs < 2 ^ 4000 := up (Nat.lt_of_le_of_lt lT.2 cm60) (by decide)
            -- the floors
            refine ⟨_, rfl, rfl, rfl, _, rfl, _, .int _, _, rfl, iteF ?_⟩
            refine ⟨_, rfl, _, rfl, pt, d3, w3, rfl, hs3, rfl, rfl, _, rfl, pt, T, B, rfl, shT3, Bp, bB, _, _, rfl, rfl, _, rfl, iteN (by rw [fl]; simpa using floors_lo cmp Sg) ?_⟩
            refine ⟨_, rfl, pt, d3, w3, rfl, hs3, rfl, rfl, _, rfl, pt, T, B, rfl, shT3, Bp, bB, _, rfl, _, rfl, _, _, rfl, rfl, _, _, rfl, rfl, _, rfl, iteN (by rw [fl]; have := floors_hi cmp Sg (by omega); rw [lenS] at this; simpa using this) ?_⟩
            -- the rest
            have s10 := (h1.trans h23)
            have eW10 := s10 _ _ (s9 _ _ eW8)
            have pW10 := (pW8.same s9).same s10
            refine ⟨_, rfl, _, rfl, ls, rfl, ⟨_, .inl (.inl eW10)⟩, for_list (xs := W.map fun z => V.ref z.1) (fun i σ J' => Same H3 J' ∧ ∃ (rs : Addr) (sh' : Option V), Val K J' (.ref rs) (Sg.sum - (Sg.take i).sum) CM ∧
              σ = [some (.ref a), some (.int (N : Int)), some (.ref lp), kk, some (.ref ls), none, some (.ref pc), some (.ref pf), some (.int CM), some (.int Sg.sum), some (.ref pt), some (.ref psc), some (.int (Sg.map (· / CM)).sum), sh', some (.ref pb), some (.ref rs)])
              ⟨fun _ _ z => z, pt, sh, ⟨T, B, .inl ⟨pt, rfl, shT3⟩, Bp, gT, by rw [List.take_zero, List.sum_nil, Int.sub_zero]; exact eT⟩, rfl⟩ (fun i σ J' _ h => .inl (.inl (h.1 _ _ eW10))) ?_ ?_⟩
            · rintro i xv σ J' hi ⟨sJ, rs, sh', vr, rfl⟩
              rw [List.getElem?_map] at hi
              obtain ⟨z, hz, rfl⟩ := Option.map_eq_some_iff.mp hi
              have hzm := List.mem_of_getElem? hz
              have hzS : Sg[i]? = some z.2 := by rw [← hW, List.getElem?_map, hz]; rfl
              have zm := List.mem_of_getElem? hzS
              have vz := (pW10 z hzm).same sJ
              have bd : sm (Sg.sum - (Sg.take i).sum) := by
                have a := Int.natAbs_add_le Sg.sum (-(Sg.take i).sum)
                rw [Int.natAbs_neg, ← Int.sub_eq_add_neg] at a
                have b := tk i
                have e : (2 : Nat) ^ 300 + 2 ^ 300 ≤ 2 ^ 1000 := by decide +kernel
                exact Nat.lt_of_lt_of_le (by omega) e
              refine ⟨_, rfl, _, rfl, val_sub vr vz (.inl ⟨_, rfl⟩) cmp bd (one _ zm) cms fun p1 H1 h1 v1 => ⟨sJ.trans h1, p1, some (.ref z.1), ?_, rfl⟩⟩
              rw [take_sum hzS, ← Int.sub_sub]
              exact v1
            · rintro σ J' ⟨sJ, rs, sh', vr, rfl⟩
              rw [tl, Int.sub_self] at vr
              obtain ⟨Tr, Br, shr, Brp, gr, er⟩ := sh_of vr
              obtain rfl : Tr = 0 := by
                rw [Int.zero_mul] at er
                rcases Int.mul_eq_zero.mp er with h | h
                · exact h
                · exact absurd h (Int.ne_of_gt cmp)
              obtain rfl : Br = 1 := zero_low Brp gr
              obtain ⟨dr, wr, hsr, _⟩ := id shr
              have shT4 := shT3.same sJ
              obtain ⟨d4, w4, hs4, _⟩ := id shT4
              refine ⟨_, rfl, rfl, rfl, go_is vr cmp (by decide +kernel) c2 (by simp) (by decide +kernel) (by decide +kernel) ⟨_, rfl, ?_⟩⟩
              refine ⟨_, rfl, rs, dr, wr, rfl, hsr, .inr ⟨⟨0, rfl⟩, nfS⟩, _, _, rfl, rs, 0, 1, 0, 1, rfl, shr, .inr ⟨rfl, rfl⟩, _, rfl, ?_⟩
              refine ⟨_, rfl, go_div (.inl ⟨pt, rfl, shT4⟩) (.inr ⟨rfl, rfl⟩) (.inl ⟨_, rfl⟩) Bp (by decide) stT stB (by show (1 : Int).natAbs < 2 ^ 1000; decide +kernel) (by show (1 : Int).natAbs < 2 ^ 1000; decide +kernel) (fun _ n en => ?_) (fun z => absurd z (by decide))⟩
              refine ⟨_, rfl, pt, d4, w4, rfl, hs4, rfl, rfl, _, rfl, pt, T, B, rfl, shT4, Bp, bB, rfl, ?_⟩
              rw [Int.mul_one, Int.mul_one, fdiv_pos' Bp] at en
              rw [decide_eq_true (congrArg V.int en)]
              exact q _
end
end W

namespace W
open PySem PySem.Spec PyProof.Rows L2
abbrev R : PySem.W.OpenRow := PySem.W.OpenLaw.row PySem.Challenge.rw_seenshares_k04_whole_shares_are_exact
abbrev hk : PySem.W.Hook := S.hookX 6 cks fns
def ob (s : PySem.W.SharedT) : He.AlD := S.obsXG 6 cks fns (HandSHeadRun.getT s)
theorem ob_eq (s : PySem.W.SharedT) : ob s = hk.obs s.abs := S.obsXG_eq (HandSHeadRun.getT_eq s)
def lo0 : List PySem.Str := ["is_integer", "SeenError", "BadShare", "NoShare", "common_divisor", "is_number", "top_of", "bottom_of", "Share", "_law_cell", "_law_take", "_law_is_integer", "_law_gcd", "_law_is_share", "_law_part"]
def lo : List PySem.Str := lo0
set_option maxHeartbeats 0 in
theorem run (w : World) : HandSHeadRun.RunEq R (PySem.W.view R.prog [19]) hk ob 3000 lo w := by
  intro os
  kernel_rfl
theorem facts {P : Program} {w : World} {K : S.Frag} {h : Heap} {mg : Str → Option Value} {f : Addr} (X : K.In h) (G : h.Ns mainGlobals mg) (hfa : mg ("law" : Str) = some (.ref f)) (c : S.SaysX cks fns K) :
    ∃ fd : FuncData, (∀ (s : Shared) (v : Value), BindsTo s fd ⟨[v], []⟩ [("_law_script", v)]) ∧ ∀ base : Heap, FnOk P w K mg base (L2.CX P w) 7 f fd ["_law_script"] (spLaw K) := by
  have T : Txt K mg := txt_of X G c
  have e := hfa.symm.trans T.g_law
  cases e
  have b := FunD.bindsA (ps := ["_law_script"]) T.F_law fun _ _ _ _ _ _ us hl => match us, hl with | [_], _ => rfl
  exact ⟨_, fun s v => b s [v] rfl, fun base => ok_law T⟩
end W
open PySem PySem.W PySem.Calls PyProof.Rows
set_option maxRecDepth 100000 in
set_option maxHeartbeats 0 in
theorem PySem.Challenge.cw_seenshares_k04_whole_shares_are_exact_holds : PySem.Challenge.rw_seenshares_k04_whole_shares_are_exact.Holds := by
  w_on; o_law
  refine HandSHeadRun.head_any (r := OpenLaw.row PySem.Challenge.rw_seenshares_k04_whole_shares_are_exact) (q := view (OpenLaw.row PySem.Challenge.rw_seenshares_k04_whole_shares_are_exact).prog [19]) (H := _root_.W.hk) (ob := _root_.W.ob) (M := 3000)
    (loose := _root_.W.lo) (d := HandSHeadRun.topDef (OpenLaw.row PySem.Challenge.rw_seenshares_k04_whole_shares_are_exact).prog 19) (kwd := []) _root_.W.ob_eq (by kernel_rfl) (fun s => by kernel_rfl) _root_.W.run
    (by kernel_rfl) (by kernel_rfl) (by kernel_rfl) (by rfl) (by first | assumption | decide +kernel) (by decide +kernel) ⟨rfl, rfl, rfl, rfl, rfl, by decide +kernel⟩ ?hw ?hc
  case hw => w_witness2
  case hc =>
    refine _root_.S.walk_X (l := PySem.Challenge.rw_seenshares_k04_whole_shares_are_exact) (n := 63) (k := 7) (x := "_law_script") rfl (by decide) (by kernel_rfl) ⟨rfl, by decide, by decide⟩ ?F
    intro w mg fa h Y G hmg0
    obtain ⟨K, KX, c⟩ := Y
    have hmg : mg ("law" : PySem.Str) = some (.ref fa) := by
      have e : (HandSHeadRun.topDef (OpenLaw.row PySem.Challenge.rw_seenshares_k04_whole_shares_are_exact).prog 19).name = ("law" : PySem.Str) := by kernel_rfl
      rw [← e]; exact hmg0
    obtain ⟨fd, hb, hF⟩ := _root_.W.facts (P := (PySem.Challenge.rw_seenshares_k04_whole_shares_are_exact).prog) (w := w) KX G hmg c
    exact ⟨K, fd, _root_.W.spLaw K, KX, hb, fun H a ns hl hbits _ hS => ⟨_, rfl, a, ns, rfl, hS, hl, fun _ => rfl⟩, fun base _ _ => hF base⟩

