import PyProof.Rows.All
import Wide.All
import OpenK.AllK
import Wide.FinOn
import KE.KStateDown
import Lean
import PyProof.EqAt
import PyProof.EqKinds
import PyProof.TupleCall
import HandS.ForMost
import HandS.Exc
import HandS.TryOnly
import HandS.ExcOwn
import HandS.WordsExc
import HandS.ExcCtx
import HandS.Hot
import HandS.HotCalls
import HandS.SuiteRaise
import HandS.RaiseFrom
import HandS.ExcInit
import HandS.ExcInitHot
import HandS.ExcField
import HandS.ExcIs
import HandS.IsInst
import HandS.Flow
import HandS.Wide
import HandS.Evl
import HandS.Codes
import HandS.ClsMeth
import HandS.Conv
import HandS.OwnEq
import HandS.Defaults
import HandS.RaiseMore
import HandS.ListItems
import HandS.Head0
import HandS.Head1
import HandS.Head2
import HandS.HeadEnd
import HandS.HeadHook1
import HandS.HeadHook2
import KE.KExcIs
import HandS.MakeKwOnly
import HandS.Deep
import PyProof.ReprRoads
import PyProof.ListStr
import PyProof.FactsAll.dict_1
import PySem.Challenge.RW_walkbox_k81_whole_plans_refused
set_option Elab.async false
set_option linter.all false
set_option maxRecDepth 100000
set_option maxHeartbeats 0
namespace WB
open PySem PySem.Spec PyProof.Rows L2
abbrev Fr := PySem.W.Frag
abbrev AlW : Type := Bool × List He.FnW
def obsW (fb : List (Fr → Bool)) (fn : List He.DefD) (K : Fr) : AlW := ((fb.all fun f => f K) && fn.all fun d => d.ok K, fn.map fun d => He.fnW K d.at_)
def valW (fn : List He.DefD) : AlW := (true, fn.map He.DefD.val)
def SaysW (fb : List (Fr → Bool)) (fn : List He.DefD) (K : Fr) : Prop := obsW fb fn K = valW fn
def obsWG (n : Nat) (fb : List (Fr → Bool)) (fn : List He.DefD) (g : Addr → Option Obj) : AlW := obsW fb fn (He.frG g (cStatics :: sysModules :: He.asD g n))
def hookW (n : Nat) (fb : List (Fr → Bool)) (fn : List He.DefD) : PySem.W.Hook where
  α := AlW
  obs := fun s => obsWG n fb fn s.heap.get?
  val := fun _ => valW fn
  says := fun _ h => ∃ K : Fr, K.In h ∧ SaysW fb fn K
  of := fun _ _ e => ⟨_, He.frG_in, e⟩
  keeps := fun _ _ _ ⟨K, hK, c⟩ k => ⟨K, PySem.W.Frag.In.keeps hK k, c⟩
theorem obsWG_eq {n : Nat} {fb : List (Fr → Bool)} {fn : List He.DefD} {g : Addr → Option Obj} {s : Shared} (h : ∀ a, g a = s.heap.get? a) : obsWG n fb fn g = (hookW n fb fn).obs s := by
  have e : g = s.heap.get? := funext h
  rw [e] <;> rfl
section
variable {fb : List (Fr → Bool)} {fn : List He.DefD} {K : Fr}
theorem SaysW.fact (c : SaysW fb fn K) (i : Nat) {f : Fr → Bool} (h : fb[i]? = some f := by rfl) : f K = true := by
  have c1 := (He.ba (show ((fb.all fun f => f K) && fn.all fun d => d.ok K) = true from congrArg (fun z : AlW => z.1) c)).1
  exact List.all_eq_true.mp c1 f (List.mem_of_getElem? h)
theorem SaysW.def_ (c : SaysW fb fn K) (i : Nat) {d : He.DefD} (h : fn[i]? = some d := by rfl) : ∃ fd, FunD K d.name d.qual d.params d.body d.scope (d.dvs K) (d.kws K) (He.fAd K d.at_) fd := by
  have c2 := (He.ba (show ((fb.all fun f => f K) && fn.all fun d => d.ok K) = true from congrArg (fun z : AlW => z.1) c)).2
  have e : fn.map (fun d => He.fnW K d.at_) = fn.map He.DefD.val := congrArg (fun z : AlW => z.2) c
  have e2 : (fn.map fun d => He.fnW K d.at_)[i]? = (fn.map He.DefD.val)[i]? := by rw [e]
  rw [List.getElem?_map, List.getElem?_map, h] at e2
  exact He.DefD.funD (Option.some.inj e2) (List.all_eq_true.mp c2 d (List.mem_of_getElem? h))
end
def oexB (K : Fr) (C : Addr) : Bool := match K.lookup C with
  | some ⟨.type "type", _, .cls cd, sl⟩ => (match cd.mro, sl.toList with
    | .ref C' :: bm, [_, _, _, _, some (.builtin n), _] => C' == C && n == "ValueError.__new__" && !cd.hasDel && cd.hasDict && PySem.HandSPX.refsVE bm
    | _, _ => false)
  | _ => false
theorem oexB_ok {K : Fr} {C : Addr} (q : oexB K C = true) : ∃ nm qq N bs bm sn sub ab col dd k0 k1 k2 k3 k5, K.lookup C = some (excClassObj nm qq C N bs bm true sn sub ab col dd k0 k1 k2 k3 k5 "ValueError.__new__") ∧ PySem.HandSPX.refsVE bm = true := by
  unfold oexB at q
  split at q
  · rename_i dd cd sl ho
    split at q
    · rename_i C' bm k0 k1 k2 k3 n k5 hm hs
      simp only [Bool.and_eq_true, beq_iff_eq, Bool.not_eq_true'] at q
      obtain ⟨⟨⟨⟨rfl, rfl⟩, hdel⟩, hdc⟩, ht⟩ := q
      obtain ⟨nm, bs, mro, ns, qn, hd, sn, sub, ab, col, del⟩ := cd
      dsimp only at hm hdel hdc
      subst hm hdel hdc
      have hsl : sl = #[k0, k1, k2, k3, some (.builtin "ValueError.__new__"), k5] := by
        obtain ⟨l⟩ := sl
        simp only at hs
        rw [hs]
      subst hsl
      exact ⟨nm, qn, ns, bs, bm, sn, sub, ab, col, dd, k0, k1, k2, k3, k5, ho, ht⟩
    · cases q
  · cases q
def oxB (x : Str) (K : Fr) : Bool := oexB K (He.ga K x) && decide (PySem.W.findIn K (.ref (He.ga K x)) "__setattr__" = some (some (.builtin "object.__setattr__"))) && decide (PySem.W.subIn K (.ref (He.ga K x)) (.type "BaseException") = some true) &&
  decide (PySem.W.typeIn K (.ref (He.ga K x)) = some (.type "type")) && PySem.W.keepIn K (.ref (He.ga K x)) && xfB K (He.ga K x) &&
  decide (PySem.W.findIn K (.ref (He.ga K x)) "__class__" = some (some (.builtin "object.__class__"))) && decide (PySem.W.mroIn K (He.ga K x) (.type "object") = some true)
theorem oxB_ok {x : Str} {K : Fr} (h : oxB x K = true) : OexC K (He.ga K x) ∧ XfC K (He.ga K x) ∧ PySem.W.findIn K (.ref (He.ga K x)) "__class__" = some (some (.builtin "object.__class__")) ∧ PySem.W.mroIn K (He.ga K x) (.type "object") = some true := by
  simp only [oxB, Bool.and_eq_true, decide_eq_true_eq] at h
  obtain ⟨⟨⟨⟨⟨⟨⟨h1, h2⟩, h3⟩, h4⟩, h5⟩, h6⟩, h7⟩, h8⟩ := h
  exact ⟨⟨oexB_ok h1, h2, h3, h4, h5⟩, xfB_ok h6, h7, h8⟩
def binB (x : Str) (K : Fr) : Bool := PySem.W.readsIn K (He.ga K x) (.type "type") && decide (PySem.W.specialIn K (.ref (He.ga K x)) "__getattribute__" = some (some (.builtin "type.__getattribute__"))) &&
  (match PySem.W.findCls K (.ref (He.ga K x)) (.type "type") "__init__" with | some (.val (.builtin "ValueError.__init__")) => true | _ => false)
structure BinC (K : Fr) (C : Addr) : Prop where
  rd : ClX.CRead K C (.type "type")
  fd : PySem.W.findCls K (.ref C) (.type "type") "__init__" = some (.val (.builtin "ValueError.__init__"))
theorem binB_ok {x : Str} {K : Fr} (h : binB x K = true) : BinC K (He.ga K x) := by
  simp only [binB, Bool.and_eq_true, decide_eq_true_eq] at h
  obtain ⟨⟨h1, h2⟩, h3⟩ := h
  refine ⟨⟨h1, h2⟩, ?_⟩
  split at h3
  · assumption
  · cases h3
theorem pe_binit {X : Cx} {C0 : Addr} {x : Str} {e : Expr} {es : List Expr} {ta : TA} {p1 p2 pos : Pos} {pl : Sem Bool} (T0 : BinC X.K C0) (hg : Gl X x) (hm : X.mg x = some (.ref C0)) (ha : PA X (e :: es) ta) (hdb : (x == ("__debug__" : Str)) = false := by decide)
    (hc : eval (.Call (.Attribute (.Name x p1) "__init__" p2) (e :: es) [] pos) X.env = (do
      let ov ← eval (.Name x p1) X.env
      standAt p2.atName
      let (f, first) ← holding [ov] (getMethod ov "__init__" pl)
      callWith pos f first (backTo pos (starEach (e :: es) X.env)) (backToKw pos (keywordEach [] X.env))) := by rfl)
    (he : starEach (e :: es) X.env = (false, eval e X.env) :: starEach es X.env := by rfl) (hpl : (backTo pos (starEach es X.env)).any (·.1) = false := by rfl) :
    PE X (.Call (.Attribute (.Name x p1) "__init__" p2) (e :: es) [] pos) (tVeI X.K ta) := by
  refine ⟨fun pins s σ H Q I h => ?_⟩
  refine PySem.W.methodCall_KW (pl := pl) (ld_glob I hg hm ?_ hdb) hc
  refine PySem.W.method_cls I.kIn T0.rd.ga (PySem.W.cls_value I.kIn T0.rd.rd T0.fd rfl ?_)
  show wpAny _ _ (callWith pos (Value.builtin "ValueError.__init__") [] (backTo pos (starEach (e :: es) X.env)) []) _ _ _
  refine PyProof.Rows.callWith_method1 (thn (ha.run pos pins _ σ H _ (I.tok _) h) fun us s1 ⟨vs, H1, I1, r1, a, C, ws, ev, hl, T, ea, q⟩ => ?_) he hpl
  subst ev
  cases r1 with
  | @cons _ u0 _ ur ra rw' =>
    obtain rfl : u0 = Value.ref a := ra
    have hlen : ur.length ≤ sizeLine := by
      rw [← Paired.length rw', sizeLine_eq]
      omega
    exact oinit_ok T I1 ea hlen fun s' J => ⟨.non, H1, J, rfl, q⟩
theorem skyN {B : Heap} {l : List Env} {a L : Addr} {cls : Value} {d : Option Addr} {h : Heap} (x : Sky B l a (L2N.Zn cls d) L h) : Sky B l a (Zc cls d) L h := by
  rcases x with ⟨h1, h2, h3, oe, vs, e, z, r⟩ | x | x
  · exact .inl ⟨h1, h2, h3, oe, vs, e, z.zc, r⟩
  · exact .inr (.inl (L2H.flyingZ_imp (fun _ z => z.zc) x))
  · exact .inr (.inr ⟨x.1, x.2.1, x.2.2.1, L2H.tracedZ_imp (fun _ z => z.zc) x.2.2.2⟩)
theorem takesN {X : Cx} {W : WX} (t : L2.Takes X W) : L2N.Takes X W := fun u s' ⟨a, B, sI, pins, σ, H, cls, d, e, I, nb, up, sky, r⟩ => t u s' ⟨a, B, sI, pins, σ, H, cls, d, e, I, nb, up, skyN sky, r⟩
theorem takesN0 {X : Cx} : L2N.Takes X (fun _ _ _ _ => False) := fun _ _ ⟨_, _, _, _, _, _, _, _, _, _, _, _, _, _, _, _, w⟩ => w.elim
def Dead (CX : CXT) : Prop := ∀ outer H s u s', CX outer H s E0 u s' → False
theorem dead0 : Dead CX0 := fun _ _ _ _ _ h => h
theorem deadN {P : Program} {w : World} : Dead (L2N.CX P w) := fun _ _ _ _ _ ⟨_, _, _, _, _, _, _, _, _, _, _, _, h⟩ => h
theorem deadX {P : Program} {w : World} : Dead (L2.CX P w) := fun _ _ _ _ _ ⟨_, _, _, _, _, _, _, _, _, _, _, _, h⟩ => h
theorem passD {CX : CXT} {X : Cx} (d : Dead CX) (σ : L2.St) : PassesAt CX X σ E0 := fun _ _ _ _ _ _ h => (d _ _ _ _ _ h).elim
def Cal (P : Program) (w : World) (K : Fr) (mg : Str → Option Value) (base : Heap) (CX : CXT) (k : Nat) (x : Str) (ps : List Str) (sp : Sp) : Prop :=
  ∃ f fd, FnOk P w K mg base CX k f fd ps sp ∧ mg x = some (.ref f) ∧ PySem.W.keepIn K (.ref f) = true ∧ Binds K fd ps []
def Met (P : Program) (w : World) (K : Fr) (mg : Str → Option Value) (base : Heap) (CX : CXT) (k : Nat) (C : Addr) (m : Str) (ps : List Str) (sp : Sp) : Prop :=
  ∃ f fd, FnOk P w K mg base CX k f fd ps sp ∧ Cls K C ∧ Meth K C m f ∧ Binds K fd ps []
def Mak (P : Program) (w : World) (K : Fr) (mg : Str → Option Value) (base : Heap) (CX : CXT) (k : Nat) (x : Str) (C : Addr) (ps : List Str) (sp : Sp) : Prop :=
  ∃ f fd, FnOk P w K mg base CX k f fd ps sp ∧ Mk K C f ∧ mg x = some (.ref C) ∧ Binds K fd ps []
section
variable {X : Cx} {CX : CXT} {k j : Nat} {f C : Addr} {fd : FuncData} {ps : List Str} {sp : Sp} {E : L2.St → XK} {x m : Str} {p pos apos : Pos} {e o : Expr} {es : List Expr} {ta : TE} {t : TA}
theorem pe_wcall (c : Cal X.prog X.w X.K X.mg X.base CX k x ps sp) (hr : Room j X.A) (hk : k ≤ j) (hx : ∀ σ, PassesAt CX X σ (E σ)) (ha : PA X (e :: es) t) (hg : Gl X x := by rfl)
    (hdb : (x == ("__debug__" : Str)) = false := by decide) (he : starEach (e :: es) X.env = (false, eval e X.env) :: starEach es X.env := by rfl) (hpl : (backTo pos (starEach es X.env)).any (·.1) = false := by rfl) :
    PE X (.Call (.Name x p) (e :: es) [] pos) (tCallS sp E t) := by
  obtain ⟨f, fd, F, hm, hkp, hb⟩ := c
  exact pe_callS F (hr.mono hk) hg hm hkp hb hx ha hdb he hpl
def tMethS (C : Addr) (m : Str) (sp : Sp) (E : L2.St → XK) (ta : TE) (t : TA) : TE := fun σ H Q => ta σ H fun x H1 => ∃ a dx fs, x = .ref a ∧ H1 a = some (.ins C dx fs) ∧ fs.lookup m = none ∧ t σ H1 fun vs H2 => sp (x :: vs) H2 Q (E σ)
theorem pe_wmeth {pl : Sem Bool} (he : PE X o ta) (c : Met X.prog X.w X.K X.mg X.base CX k C m ps sp) (hr : Room j X.A) (hk : k ≤ j) (hx : ∀ σ, PassesAt CX X σ (E σ)) (ha : PA X (e :: es) t)
    (hst : starEach (e :: es) X.env = (false, eval e X.env) :: starEach es X.env := by rfl) (hpl : (backTo pos (starEach es X.env)).any (·.1) = false := by rfl)
    (ht : eval (.Call (.Attribute o m apos) (e :: es) [] pos) X.env = (do
      let ov ← eval o X.env
      standAt apos.atName
      let (f, first) ← holding [ov] (getMethod ov m pl)
      callWith pos f first (backTo pos (starEach (e :: es) X.env)) (backToKw pos (keywordEach [] X.env))) := by rfl) :
    PE X (.Call (.Attribute o m apos) (e :: es) [] pos) (tMethS C m sp E ta t) := by
  obtain ⟨f, fd, F, c, hm, hb⟩ := c
  refine ⟨fun pins s σ H Q I h => ?_⟩
  refine PySem.W.methodCall_KW (pl := pl) (thn (he.run pins s σ H _ I h) fun u s1 ⟨x, H1, I1, rx, a, dx, fs, ex, ea, l, q⟩ => ?_) ht
  subst ex
  obtain rfl : u = Value.ref a := rx
  refine getmeth_ok I1 ea c hm l ?_
  refine PySem.W.callWith_K (first := [.ref a]) (h₀ := X.base) I.ok.mod.kin hm.kp (thn (ha.run pos pins s1 σ H1 _ I1 q) fun us s2 ⟨vs, H2, I2, r, q2⟩ => ⟨I2.kIn, ?_⟩) hst hpl
  exact run_fnS (us := .ref a :: us) (vs := .ref a :: vs) F (hr.mono hk) hb (hx σ) I2 (.cons rfl r) q2
theorem pe_wmeth0 {pl : Sem Bool} (he : PE X o ta) (c : Met X.prog X.w X.K X.mg X.base CX k C m ps sp) (hr : Room j X.A) (hk : k ≤ j) (hx : ∀ σ, PassesAt CX X σ (E σ))
    (ht : eval (.Call (.Attribute o m apos) [] [] pos) X.env = (do
      let ov ← eval o X.env
      standAt apos.atName
      let (f, first) ← holding [ov] (getMethod ov m pl)
      callWith pos f first (backTo pos (starEach [] X.env)) (backToKw pos (keywordEach [] X.env))) := by rfl) :
    PE X (.Call (.Attribute o m apos) [] [] pos) (tMethS C m sp E ta tNil) := by
  obtain ⟨f, fd, F, c, hm, hb⟩ := c
  refine ⟨fun pins s σ H Q I h => ?_⟩
  refine PySem.W.methodCall_KW (pl := pl) (thn (he.run pins s σ H _ I h) fun u s1 ⟨x, H1, I1, rx, a, dx, fs, ex, ea, l, q⟩ => ?_) ht
  subst ex
  obtain rfl : u = Value.ref a := rx
  refine getmeth_ok I1 ea c hm l ?_
  exact PySem.W.callWith_K0 (first := [.ref a]) I1.kIn hm.kp (run_fnS (us := [.ref a]) (vs := [.ref a]) F (hr.mono hk) hb (hx σ) I1 (.cons rfl .nil) q)
theorem run_makeS {pins : List (Addr × Obj)} {σ : L2.St} {H : Hp} {s : Shared} {Q : VK} {us : List Value} {vs : List V} (M : Mk X.K C f) (F : FnOk X.prog X.w X.K X.mg X.base CX k f fd ps sp) (hr : Room (k + 1) X.A) (hb : Binds X.K fd ps [])
    (hx : PassesAt CX X σ (E σ)) (I : Inv X pins σ H s) (r : Vals vs us)
    (h : ∀ x dx, H x = none → H dx = none → dx ≠ x → sp (.ref x :: vs) (upd (upd H dx (.own x)) x (.ins C dx [])) (fun v H2 => v = .non ∧ Q (.ref x) H2) (E σ)) :
    wpAny (model X.prog X.w) X.A (call (.ref C) us) (EP X pins σ Q) X.xe s := by
  have hq := h (s.heap.objs.size + 1) s.heap.objs.size (I.hok.fresh (Nat.le_succ _)) (I.hok.fresh (Nat.le_refl _)) (Nat.ne_of_lt (Nat.lt_succ_self _))
  have I2 := Inv.made (C := C) I
  have r2 : Vals (V.ref (s.heap.objs.size + 1) :: vs) (Value.ref (s.heap.objs.size + 1) :: us) := .cons rfl r
  have hl : (Value.ref (s.heap.objs.size + 1) :: us).length = ps.length := by
    have e := r2.length
    rw [F.len _ _ _ _ hq] at e
    exact e.symm
  have b := hb _ (Value.ref (s.heap.objs.size + 1) :: us) I2.kIn (by rw [List.append_nil]; exact hl)
  rw [List.append_nil] at b
  refine wpAny_call (make_map (f := f) I.kIn M.makes M.init (beq_iff_eq.mp M.fn) (codeAny_mono (F.run _ X.stack _ _ ⟨Value.ref (s.heap.objs.size + 1) :: us, []⟩ (Value.ref (s.heap.objs.size + 1) :: us) _ _ (E σ) (hr.make C us [])
    (I2.env0.make C us []) b r2 hq) fun r s' hq' => ?_))
  cases r with
  | error e => exact hx pins _ _ e s' I2 hq'
  | ok fl =>
    cases fl with
    | ret u =>
      obtain ⟨v, H', I3, rv, ev, q3⟩ := I2.after hq'
      subst ev
      exact ⟨rv, ⟨V.ref (s.heap.objs.size + 1), H', I3, rfl, q3⟩⟩
    | next => exact False.elim hq'
    | brk => exact False.elim hq'
    | cont => exact False.elim hq'
def tMakeS (C : Addr) (sp : Sp) (E : L2.St → XK) (t : TA) : TE := fun σ H Q => t σ H fun vs H1 => ∀ x dx, H1 x = none → H1 dx = none → dx ≠ x →
  sp (.ref x :: vs) (upd (upd H1 dx (.own x)) x (.ins C dx [])) (fun v H2 => v = .non ∧ Q (.ref x) H2) (E σ)
theorem pe_wmake (c : Mak X.prog X.w X.K X.mg X.base CX k x C ps sp) (hr : Room j X.A) (hk : k + 1 ≤ j) (hx : ∀ σ, PassesAt CX X σ (E σ)) (ha : PA X (e :: es) t) (hg : Gl X x := by rfl)
    (hdb : (x == ("__debug__" : Str)) = false := by decide) (he : starEach (e :: es) X.env = (false, eval e X.env) :: starEach es X.env := by rfl) (hpl : (backTo pos (starEach es X.env)).any (·.1) = false := by rfl) :
    PE X (.Call (.Name x p) (e :: es) [] pos) (tMakeS C sp E t) := by
  obtain ⟨f, fd, F, M, hm, hb⟩ := c
  refine ⟨fun pins s σ H Q I h => ?_⟩
  refine wpAny_Call_Name_kw (ld_glob I hg hm ?_ hdb)
  refine PySem.W.callWith_K (h₀ := X.base) I.ok.mod.kin M.kp (thn (ha.run pos pins s σ H _ I h) fun us s1 ⟨vs, H1, I1, r, q⟩ => ⟨I1.kIn, ?_⟩) he hpl
  exact run_makeS M F (hr.mono hk) hb (hx σ) I1 r q
end
end WB
namespace WB
open PySem PySem.Spec PyProof.Rows L2
abbrev rAddI : R2 := rI0 fun i j => .int (i + j)
abbrev rSubI : R2 := rI0 fun i j => .int (i - j)
abbrev rMulI : R2 := rI CMul fun i j => .int (i * j)
abbrev rModI : R2 := rI (fun _ j => 0 < j) fun i j => .int (i % j)
abbrev rDivI : R2 := rI CDiv fun i j => .int (i / j)
abbrev rPowI : R2 := rI CPow fun i j => .int (i ^ j.toNat)
abbrev rLtI : R2 := rI0 fun i j => .bl (decide (i < j))
abbrev rLeI : R2 := rI0 fun i j => .bl (decide (i ≤ j))
abbrev rGtI : R2 := rI0 fun i j => .bl (decide (j < i))
abbrev rGeI : R2 := rI0 fun i j => .bl (decide (j ≤ i))
def rAddS : R2 := fun x y H Q => ∃ i j, x = .str i ∧ y = .str j ∧ i.length + j.length ≤ sizeLine ∧ Q (.str (i ++ j)) H
def rAddA (K : Fr) : R2 := fun x y H Q => rAddI x y H Q ∨ (rAddS x y H Q ∨ (rCat x y H Q ∨ rCatT K x y H Q))
def rEqA (K : Fr) : R2 := fun x y H Q => rEq x y H Q ∨ rEqD K x y H Q
def rNeA (K : Fr) : R2 := fun x y H Q => rNe x y H Q ∨ rNeD K x y H Q
def rInSgn : R2 := fun x y H Q => ∃ (c : Nat) (z : Str), x = .str ⟨#[c]⟩ ∧ y = .str z ∧ Q (.bl (decide (c ∈ z.cps.toList))) H
def rNiSgn : R2 := fun x y H Q => ∃ (c : Nat) (z : Str), x = .str ⟨#[c]⟩ ∧ y = .str z ∧ Q (.bl (!decide (c ∈ z.cps.toList))) H
def rInA (K : Fr) : R2 := fun x y H Q => rIn K false x y H Q ∨ rInSgn x y H Q
def rNiA (K : Fr) : R2 := fun x y H Q => rIn K true x y H Q ∨ rNiSgn x y H Q
def rIsNo : R2 := fun x y H Q => y = .non ∧ Q (.bl (decide (x = .non))) H
def rNotNo : R2 := fun x y H Q => y = .non ∧ Q (.bl (!decide (x = .non))) H
def rSlA (K : Fr) : V → Option Int → Option Int → Hp → VK → Prop := fun x lo hi H Q => rSlL K x lo hi H Q ∨ rSlS x lo hi H Q
def rLenSq (K : Fr) : List V → Hp → VK → Prop := fun xs H Q => ∃ p ys, xs = [.ref p] ∧ (SqL K H p ys ∨ SqT K H p ys) ∧ Q (.int ys.length) H
def rLenStr : List V → Hp → VK → Prop := fun xs H Q => ∃ z, xs = [.str z] ∧ z.length ≤ sizeLine ∧ Q (.int z.length) H
def rLenA (K : Fr) : List V → Hp → VK → Prop := fun xs H Q => rLenSq K xs H Q ∨ rLenStr xs H Q
def rAbsI : List V → Hp → VK → Prop := fun xs H Q => ∃ i, xs = [.int i] ∧ Q (.int (if i < 0 then -i else i)) H
def rMax2I : List V → Hp → VK → Prop := fun xs H Q => ∃ i j, xs = [.int i, .int j] ∧ Q (.int (if j > i then j else i)) H
def rMin2I : List V → Hp → VK → Prop := fun xs H Q => ∃ i j, xs = [.int i, .int j] ∧ Q (.int (if j < i then j else i)) H
def rStrI : List V → Hp → VK → Prop := fun xs H Q => ∃ i, xs = [.int i] ∧ i.natAbs.log2 < 1920 ∧ Q (.str (toString i)) H
def rListSq (K : Fr) : List V → Hp → VK → Prop := fun xs H Q => ∃ p ys, xs = [.ref p] ∧ (SqL K H p ys ∨ SqT K H p ys) ∧ ∀ l, H l = none → Q (.ref l) (upd H l (.lst ys))
def rTupSq (K : Fr) : List V → Hp → VK → Prop := fun xs H Q => ∃ p ys, xs = [.ref p] ∧ ((SqL K H p ys ∧ ∀ l, H l = none → Q (.ref l) (upd H l (.tup ys))) ∨ (SqT K H p ys ∧ Q (.ref p) H))
def rDictP (K : Fr) : List V → Hp → VK → Prop := fun xs H Q => ∃ (a : Addr) (ps : List Addr) (kvs : List (Key × V)), xs = [.ref a] ∧ SqL K H a (ps.map V.ref) ∧ Paired (fun p kv => SqT K H p [kV kv.1, kv.2]) ps kvs ∧ ∀ p, H p = none → Q (.ref p) (upd H p (.dK (mergeK [] kvs)))
def rSplit : V → List V → Hp → VK → Prop := fun x xs H Q => ∃ a b, x = .str a ∧ xs = [.str b] ∧ (b.length == 0) = false ∧ a.length + 2 ≤ sizeLine ∧ rNewStrs (Txt.split a b) H Q
def rJoin (K : Fr) : V → List V → Hp → VK → Prop := fun x xs H Q => ∃ a p, ∃ ys : List Str, x = .str a ∧ xs = [.ref p] ∧ (SqL K H p (ys.map V.str) ∨ SqT K H p (ys.map V.str)) ∧ (ys.map (·.length)).sum + ys.length * a.length ≤ 16777216 ∧ Q (.str (Txt.join a ys)) H
section
variable {X : Cx}
theorem op_addS : OpR X (binaryOp .Add) rAddS := op_add_str
theorem op_addA : OpR X (binaryOp .Add) (rAddA X.K) := op_add.or (op_addS.or (op_cat.or op_catT))
theorem op_subI : OpR X (binaryOp .Sub) rSubI := op_sub
theorem op_mulI : OpR X (binaryOp .Mult) rMulI := op_mul
theorem op_modI : OpR X (binaryOp .Mod) rModI := op_mod
theorem op_divI : OpR X (binaryOp .FloorDiv) rDivI := op_fdiv
theorem op_powI : OpR X (binaryOp .Pow) rPowI := op_pow
theorem op_eqA (hu : X.A.units + 64 < cLine) : OpR X (compareOp .Eq) (rEqA X.K) := op_eq.or (op_eqD hu)
theorem op_neA (hu : X.A.units + 64 < cLine) : OpR X (compareOp .NotEq) (rNeA X.K) := op_ne.or (op_neD hu)
theorem op_inSgn : OpR X (compareOp .In) rInSgn := op_in_sign
theorem op_niSgn : OpR X (compareOp .NotIn) rNiSgn := op_notIn_sign
theorem op_inA : OpR X (compareOp .In) (rInA X.K) := op_in_seq.or op_inSgn
theorem op_niA : OpR X (compareOp .NotIn) (rNiA X.K) := op_notIn_seq.or op_niSgn
theorem op_ltI : OpR X (compareOp .Lt) rLtI := op_lt
theorem op_leI : OpR X (compareOp .LtE) rLeI := op_le
theorem op_gtI : OpR X (compareOp .Gt) rGtI := op_gt
theorem op_geI : OpR X (compareOp .GtE) rGeI := op_ge
theorem op_isNn : OpR X (compareOp .Is) rIsNo := op_isN
theorem op_notNn : OpR X (compareOp .IsNot) rNotNo := op_notN
theorem sl_A : SlR X (rSlA X.K) := sl_list.or sl_str
theorem call_lenSq : CallR X (.builtin "len") (rLenSq X.K) := call_len_seq
theorem call_lenStr : CallR X (.builtin "len") rLenStr := call_len_str
theorem call_lenA : CallR X (.builtin "len") (rLenA X.K) := call_lenSq.or call_lenStr
theorem call_absI : CallR X (.builtin "abs") rAbsI := call_abs
theorem call_max2I (hc : X.calm = true) : CallR X (.builtin "max") rMax2I := call_max2 hc
theorem call_min2I (hc : X.calm = true) : CallR X (.builtin "min") rMin2I := call_min2 hc
theorem call_strI : CallR X (.type "str") rStrI := call_str_int
theorem call_listSq : CallR X (.type "list") (rListSq X.K) := call_list_of
theorem call_tupSq : CallR X (.type "tuple") (rTupSq X.K) := call_tuple_of
theorem call_dictPs (hc : X.calm = true) : CallR X (.type "dict") (rDictP X.K) := call_dictP hc
theorem mt_splitS : MtR X "str.split" rSplit := mt_split
theorem mt_joinS : MtR X "str.join" (rJoin X.K) := mt_join
theorem hu64 {A : Around} {k : Nat} (hr : Room k A) : A.units + 64 < cLine := by have := hr.un; omega
end
section
variable {X : Cx} {e : Expr} {es : List Expr} {ta : TA} {p pos : Pos}
theorem pmkN_oex {CX : CXT} {x : Str} {C fI : Addr} {k : Nat} {fd : FuncData} {ps : List Str} {sp : Sp} (T : OexC X.K C) (iC : PySem.W.findIn X.K (.ref C) "__init__" = some (some (.ref fI))) (tI : PySem.W.typeIn X.K (.ref fI) = some (.type "function"))
    (F1 : FnOk X.prog X.w X.K X.mg X.base CX k fI fd ps sp) (hr : Room (k + 1) X.A) (hb : Binds X.K fd ps []) (hx : Passes CX X (fun _ _ _ => False)) (hg : Gl X x) (hm : X.mg x = some (.ref C)) (ha : PA X (e :: es) ta)
    (hdb : (x == ("__debug__" : Str)) = false := by decide) (he : starEach (e :: es) X.env = (false, eval e X.env) :: starEach es X.env := by rfl) (hpl : (backTo pos (starEach es X.env)).any (·.1) = false := by rfl) :
    L2N.PMk X (.Call (.Name x p) (e :: es) [] pos) (tMkO C sp [] ta) := by
  intro pins s σ H Q I h
  obtain ⟨nm, q, N, bs, bm, sn, sub, ab, col, dd, k0, k1, k2, k3, k5, hC, hbm⟩ := T.cls
  refine wpAny_Call_Name_kw (ld_glob I hg hm ?_ hdb)
  refine PySem.W.callWith_K (h₀ := X.base) I.ok.mod.kin T.kC (thn (ha.run pos pins s σ H _ I h) fun us s1 ⟨vs, H1, I1, r1, hz, q1⟩ => ⟨I1.kIn, ?_⟩) he hpl
  show wpAny _ _ (call (.ref C) us) _ _ _
  obtain ⟨hp, g, dr, tk, os⟩ := s1
  have hsz : hp.objs.size ≤ hp.objs.size + 1 := Nat.le_succ _
  have hn : H1 (hp.objs.size + 1) = none := I1.hok.fresh hsz
  have hq := q1 (hp.objs.size + 1) hn
  rw [List.append_nil] at hq
  have kk : ∀ b o, hp.get? b = some o → ((hp.push (PySem.W.kdv_tup us)).push (PySem.HandSPX.excO C hp.objs.size)).get? b = some o := fun b o e => Heap.get?_push_of_some _ (Heap.get?_push_of_some _ e)
  have hget : ((hp.push (PySem.W.kdv_tup us)).push (PySem.HandSPX.excO C hp.objs.size)).get? (hp.objs.size + 1) = some (PySem.HandSPX.excO C hp.objs.size) := by heap_get
  have I2 : Inv X pins σ (upd H1 (hp.objs.size + 1) (exo (hp.objs.size + 1) C none)) ⟨(hp.push (PySem.W.kdv_tup us)).push (PySem.HandSPX.excO C hp.objs.size), g, dr, tk, os⟩ :=
    I1.laid (t' := tk) (a := hp.objs.size + 1) (o := exo (hp.objs.size + 1) C none) (h' := (hp.push (PySem.W.kdv_tup us)).push (PySem.HandSPX.excO C hp.objs.size)) kk hsz (exo_ok hget)
  have r2 : Vals (V.ref (hp.objs.size + 1) :: vs) (Value.ref (hp.objs.size + 1) :: us) := .cons rfl r1
  have hl : (Value.ref (hp.objs.size + 1) :: us ++ []).length = ps.length := by
    have e := r2.length
    rw [F1.len _ _ _ _ hq] at e
    rw [List.append_nil]
    exact e.symm
  have hus : us.length ≤ sizeLine := by
    rw [← Paired.length r1, sizeLine_eq]
    omega
  have b2 := hb _ (Value.ref (hp.objs.size + 1) :: us) I2.kIn hl
  rw [List.append_nil] at b2
  refine wpAny_call (PySem.HandSPX.call_own F.excBase_ValueError (fun Y => PySem.HandSPX.refsVE_contains Y bm hbm) (I1.kIn _ _ hC) (PySem.W.looks_findIn I1.kIn iC) (fun self => PySem.W.bind_fn I1.kIn self tI) hus
    (codeAny_mono (F1.run _ X.stack _ _ ⟨Value.ref (hp.objs.size + 1) :: us, []⟩ (Value.ref (hp.objs.size + 1) :: us) _ _ (fun _ _ _ => False) (hr.make C us []) (I2.env0.make C us []) b2 r2 hq) fun r s' hq' => ?_))
  cases r with
  | error er => exact hx pins σ _ _ er s' I2 hq'
  | ok fl =>
    cases fl with
    | ret u =>
      obtain ⟨v, H2, os2, bare2, un2, hok2, rv, ev, d, fs, ea, ed, hd1, q2⟩ := hq'
      subst ev
      obtain ⟨h2, g2, d2, t2, os'⟩ := s'
      obtain ⟨t0, G, J, kG, ge, hoe, na⟩ := mk_end0 (d2 := d2) (t2 := t2) I1 hsz kk un2 hok2 os2 bare2 ea ed hd1
      refine ⟨rv, ⟨hp.objs.size + 1, _, _, ⟨G, g2, d2, t2, os'⟩, _, .ref C, some d, rfl, J, kG, ge, hoe, ⟨rfl, rfl, fun vs hv => ?_⟩, rfl, rfl, na, rfl, bare2, raises_own T.exC T.tyC, q2⟩⟩
      cases hv
      rfl
    | next => exact False.elim hq'
    | brk => exact False.elim hq'
    | cont => exact False.elim hq'
end
end WB
namespace WB
open PySem PySem.Spec PyProof.Rows L2
section
variable {K : Fr} {h : Heap} {mg : Str → Option Value}
theorem kint {x : Str} {i : Int} (c : (He.Fa.int x i).ok K = true) (X : K.In h) (G : h.Ns mainGlobals mg) : ∃ u, mg x = some u ∧ RelV (.int i) u := by
  obtain ⟨t, e⟩ := He.int_ok X G c
  exact ⟨_, e, ⟨t, rfl⟩⟩
theorem kstr {x z : Str} (c : (He.Fa.str x z).ok K = true) (X : K.In h) (G : h.Ns mainGlobals mg) : ∃ u, mg x = some u ∧ RelV (.str z) u := by
  obtain ⟨t, e⟩ := He.str_ok X G c
  exact ⟨_, e, ⟨t, rfl⟩⟩
end
def exiB (x : Str) (K : Fr) : Bool := decide (PySem.W.findIn K (.ref (He.ga K x)) "__init__" = some (some (.ref (He.ma K (He.ga K x) "__init__")))) && decide (PySem.W.typeIn K (.ref (He.ma K (He.ga K x) "__init__")) = some (.type "function"))
theorem exiB_ok {x : Str} {K : Fr} (h : exiB x K = true) : PySem.W.findIn K (.ref (He.ga K x)) "__init__" = some (some (.ref (He.ma K (He.ga K x) "__init__"))) ∧ PySem.W.typeIn K (.ref (He.ma K (He.ga K x) "__init__")) = some (.type "function") := by
  simp only [exiB, Bool.and_eq_true, decide_eq_true_eq] at h
  exact h
def ExI (P : Program) (w : World) (K : Fr) (mg : Str → Option Value) (base : Heap) (k : Nat) (x : Str) (ps : List Str) (sp : Sp) : Prop :=
  ∃ fd, PySem.W.findIn K (.ref (He.ga K x)) "__init__" = some (some (.ref (He.ma K (He.ga K x) "__init__"))) ∧ PySem.W.typeIn K (.ref (He.ma K (He.ga K x) "__init__")) = some (.type "function") ∧ FnOk P w K mg base CX0 k (He.ma K (He.ga K x) "__init__") fd ps sp ∧ Binds K fd ps []
def ExIH (P : Program) (w : World) (K : Fr) (mg : Str → Option Value) (base : Heap) (k : Nat) (x : Str) (ps : List Str) (sp : Sp) : Prop :=
  ∃ fd, PySem.W.findIn K (.ref (He.ga K x)) "__init__" = some (some (.ref (He.ma K (He.ga K x) "__init__"))) ∧ PySem.W.typeIn K (.ref (He.ma K (He.ga K x) "__init__")) = some (.type "function") ∧ L2H.FnH P w K mg base CX0 k (He.ma K (He.ga K x) "__init__") fd ps sp ∧ Binds K fd ps []
theorem passZ {X : Cx} : Passes CX0 X (fun _ _ _ => False) := fun _ _ _ _ _ _ _ h => h.elim
def CalK (P : Program) (w : World) (K : Fr) (mg : Str → Option Value) (base : Heap) (CX : CXT) (k : Nat) (x : Str) (ps : List Str) (sp : Sp) : Prop :=
  ∃ f fd, FnOk P w K mg base CX k f fd ps sp ∧ mg x = some (.ref f) ∧ PySem.W.keepIn K (.ref f) = true ∧ KBn K fd ps 0 ps (fun _ ws => ws) (fun _ zs => zs)
theorem kbn_of {K : Fr} {x qual : Str} {params : Arguments} {body : List Stmt} {scope : Scope} {kws : List (Str × V)} {f : Addr} {fd : FuncData} {ps : List Str} (F : FunD K x qual params body scope [] kws f fd)
    (h : ∀ (kV doc pm : Value) (an : Option Addr) (cdv ct : Value) (ws : List Value), ws.length = ps.length → bindArgs (PySem.W.fnOf x qual params body scope .none kV doc pm an cdv ct) ⟨[], ps.zip ws⟩ = pure (ps.zip ws)) : KBn K fd ps 0 ps (fun _ ws => ws) (fun _ zs => zs) := by
  obtain ⟨oc, od, dV, kV, doc, pm, an, cdv, ct, osl, rfl, lk, hcd, hD, hK⟩ := F.ex
  rcases hD with ⟨_, rfl⟩ | ⟨e, _⟩
  · refine ⟨fun s us ws _ h1 h2 => ?_, fun _ r => r⟩
    obtain rfl : us = [] := List.length_eq_zero_iff.mp h1
    exact .of_eq (h kV doc pm an cdv ct ws h2)
  · exact absurd rfl e
section
variable {X : Cx} {CX : CXT} {k j : Nat} {f C : Addr} {fd : FuncData} {ps ks : List Str} {sp : Sp} {E : L2.St → XK} {x m : Str} {p pos apos : Pos} {e o : Expr} {es : List Expr} {kws : List Keyword} {ta : TE} {t tk : TA}
theorem pe_wcallK (c : CalK X.prog X.w X.K X.mg X.base CX k x ks sp) (hr : Room j X.A) (hk : k ≤ j) (hx : ∀ σ, PassesAt CX X σ (E σ)) (hkw : PK X kws tk) (hg : Gl X x := by rfl)
    (hall : (backToKw pos (keywordEach kws X.env)).all (·.1.isSome) = true := by rfl) (hks : (backToKw pos (keywordEach kws X.env)).filterMap (·.1) = ks := by rfl) (hdb : (x == ("__debug__" : Str)) = false := by decide)
    (hpl : ((backTo pos (starEach [] X.env)).any (·.1) || (backToKw pos (keywordEach kws X.env)).any (·.1.isNone)) = false := by rfl) :
    PE X (.Call (.Name x p) [] kws pos) (tCallS sp E tk) := by
  obtain ⟨f, fd, F, hm, hkp, hb⟩ := c
  refine ⟨fun pins s σ H Q I h => ?_⟩
  refine wpAny_Call_Name_kw (ld_glob I hg hm ?_ hdb)
  refine PySem.W.callWith_KW0 (h₀ := X.base) I.ok.mod.kin hkp hall ?_ hpl
  refine thn (hkw.run pos pins s σ H _ I h) fun ws s2 ⟨zs, H2, I2, rz, q2⟩ => ⟨I2.kIn, ?_⟩
  rw [hks]
  have hl : ws.length = ks.length := by rw [← rz.length]; exact F.len _ _ _ _ q2
  refine wpAny_call (codeAny_mono (F.run X.A X.stack s2 H2 ⟨[], ks.zip ws⟩ ws zs Q (E σ) (hr.mono hk) I2.env0 (hb.to s2 [] ws I2.kIn rfl hl) rz q2) fun r s' hq => ?_)
  cases r with
  | error e => exact hx σ pins H2 s2 e s' I2 hq
  | ok fl =>
    cases fl with
    | ret u => exact I2.after hq
    | next => exact False.elim hq
    | brk => exact False.elim hq
    | cont => exact False.elim hq
end
theorem funD_okH {P : Program} {w : World} {K : Fr} {mg : Str → Option Value} {base : Heap} {x qual : Str} {params : Arguments} {body : List Stmt} {scope : Scope} {dvs : List V} {kws : List (Str × V)} {f : Addr} {fd : FuncData}
    {CX : CXT} {N ps : List Str} {k : Nat} {sp : Sp} (F : FunD K x qual params body scope dvs kws f fd) (S : FnScope N ps scope) (len : ∀ vs H Q E, sp vs H Q E → vs.length = ps.length)
    (hbody : ∀ (cdv : Value) (A : Around) (outer : List Env) (s : Shared) (H : Hp) (vs : List V) (Q : VK) (E : XK) (p : Addr × Obj), L2H.Hot1 A p → L2H.RoomH k (A.deeper (envOfC qual scope s.heap.objs.size f cdv)) → sp vs H Q E →
      ∃ t, PSs (L2H.cxH CX P w K mg base N qual scope f cdv A outer s H E p) body t ∧ t { nx := fun _ H' => Q .non H', rt := Q } (L2.start N vs) H) : L2H.FnH P w K mg base CX (k + 1) f fd ps sp := by
  obtain ⟨oc, od, dV, kV, doc, pm, an, cdv, ct, osl, rfl, lk, hcd, _, _⟩ := F.ex
  exact L2H.fn_ofH lk hcd S len fun A outer s H vs Q E p hot hr hsp => hbody cdv A outer s H vs Q E p hot hr hsp
def objB (K : Fr) : Bool := decide (PySem.W.specialIn K (.builtin "object.__class__") "__get__" = some (some (.builtin "getset_descriptor.__get__"))) && decide (PySem.W.takesIn K (.builtin "object.__class__") = some true)
theorem objB_ok {K : Fr} (h : objB K = true) : PySem.W.specialIn K (.builtin "object.__class__") "__get__" = some (some (.builtin "getset_descriptor.__get__")) ∧ PySem.W.takesIn K (.builtin "object.__class__") = some true := by
  simp only [objB, Bool.and_eq_true, decide_eq_true_eq] at h
  exact h
theorem excD {K : Fr} {D : Addr} (x : OexC K D ∧ XfC K D ∧ PySem.W.findIn K (.ref D) "__class__" = some (some (.builtin "object.__class__")) ∧ PySem.W.mroIn K D (.type "object") = some true)
    (y : PySem.W.specialIn K (.builtin "object.__class__") "__get__" = some (some (.builtin "getset_descriptor.__get__")) ∧ PySem.W.takesIn K (.builtin "object.__class__") = some true) : ExcC K D :=
  ⟨x.2.1.ga, x.2.1.gg, x.2.1.exC, x.2.1.hdC, x.2.2.1, y.1, y.2, x.2.2.2⟩
def rIsEd (K : Fr) (D a : Addr) (cls : Value) (d : Option Addr) : List V → Hp → VK → Prop := fun xs H Q => ∃ (c : V) (cv : Value) (b : Bool) (dd : Addr) (fs : List (Str × V)), xs = [.ref a, c] ∧ cls = .ref D ∧ d = some dd ∧ H dd = some (.xd fs) ∧ (∀ u, RelV c u → u = cv) ∧ PySem.W.kitOne K (.ref D) cv = some b ∧ Q (.bl b) H
theorem call_isEd {X : Cx} {a D : Addr} {cls : Value} {d : Option Addr} {oe : Obj} {pn : List (Addr × Obj)} (C : ExcC X.K D) (hz : Zc cls d oe) (hf : ∃ vs, oe.data = .fields vs) : CallR (X.suite a ((a, oe) :: pn)) (.builtin "isinstance") (rIsEd X.K D a cls d) := by
  intro pins s σ H xs us Q I r h
  obtain ⟨c, cv, b, dd, fs, rfl, hcl, hdd, ea, hcv, e, q⟩ := h
  cases r with
  | cons rx rr =>
    cases rr with
    | cons rt rr =>
      cases rr
      cases rx
      have ec := hcv _ rt
      subst ec
      obtain ⟨hget, _⟩ := I.pin (a, oe) (List.mem_append.mpr (.inl List.mem_cons_self))
      obtain ⟨vs, hv⟩ := hf
      have hx : ObjOk X.prog X.w H s.heap dd (.xd fs) := I.hok dd _ ea
      obtain ⟨mA, ⟨od, es, ep, ho, _⟩, _⟩ := hx
      have J : PySem.W.InstAt s.heap a oe D (some od) := by
        obtain ⟨oc, od', oda, osl⟩ := oe
        obtain ⟨h1, h2⟩ := hz
        dsimp only at h1 h2 hv
        subst h1 h2 hv hcl hdd
        exact ⟨hget, rfl, rfl, ho⟩
      have hcl2 : (PySem.W.clsIn X.K D).isSome = true := by
        obtain ⟨cd, hc, _⟩ := PySem.W.any_some C.hd
        rw [hc]
        rfl
      exact PySem.W.kia_one (PySem.W.kitx_exc (od := some od) hcl2 C.hg C.hk C.hs C.ha C.hn C.ht C.hm) I.kIn J e (fun z => nomatch z) fun tk => ⟨.bl b, H, I.kept (t' := tk) fun _ _ z => z, rfl, q⟩
theorem op_eqOwn {X : Cx} {C : Addr} {R : Addr → Addr → Hp → Prop} {ps : List Str} {k j : Nat} (c : Met X.prog X.w X.K X.mg X.base CX0 k C "__eq__" ps (spEq R)) (hr : Room j X.A) (hk : k ≤ j) : OpR X (compareOp .Eq) (rEqG (DIns C R)) := by
  obtain ⟨f, fd, F, _, hm, hb⟩ := c
  exact op_eqG (rcG_ins (E := E0) F hm.at_ hm.fn hb pass0) (hr.mono hk)
def rCntV (K : Fr) : V → List V → Hp → VK → Prop := fun x xs H Q => ∃ (p : Addr) (ys : List V) (y : V), x = .ref p ∧ xs = [y] ∧ SqL K H p ys ∧ flatV y = true ∧ ys.all flatV = true ∧ Q (.int (ys.countP fun z => eqV z y : Nat)) H
theorem countP_eqU {x : V} : ∀ {xs : List V} {us : List Value}, Vals xs us → xs.all flatV = true → us.countP (eqU x) = xs.countP fun y => eqV y x
  | _, _, .nil, _ => rfl
  | y :: xs, u :: us, .cons r t, f => by
    rw [List.all_cons, Bool.and_eq_true] at f
    rw [List.countP_cons, List.countP_cons, countP_eqU t f.2, eqU_of r f.1]
theorem mt_countV {X : Cx} : MtR X "list.count" (rCntV X.K) := by
  intro pins s σ H x xs v us Q I rx rxs h
  obtain ⟨p, ys, y, rfl, rfl, hs, fy, fa, q⟩ := h
  cases rx
  obtain ⟨u, rfl, ru⟩ := rxs.one
  obtain ⟨its, rv, ⟨⟨cls, dd, data, sl⟩, n, ho, hc, hdn, hd⟩, hlen⟩ := I.list hs
  simp only at hc hd
  subst hc hd
  refine call_meets PySem.F.slot_list_count ⟨_, ho, rfl⟩ PySem.F.entry_list_count (PySem.F.args_list_count_2 _ _)
    (SeqAt.list_countAt p its.toArray n dd sl u (eqU y)) ⟨ho, fun z hz => mem_eqAt ru fy rv fa z (by simpa using hz), ?_⟩
  have ec : its.toArray.toList.countP (eqU y) = ys.countP fun z => eqV z y := countP_eqU rv fa
  refine ⟨.int (ys.countP fun z => eqV z y : Nat), H, I.tok _, ⟨s.toks, ?_⟩, q⟩
  show Value.int ((its.toArray.toList.countP (eqU y) : Nat) : Int) s.toks = Value.int ((ys.countP fun z => eqV z y : Nat) : Int) s.toks
  rw [ec]
end WB
namespace WB
open PySem PySem.Spec PyProof.Rows L2
abbrev Ex := Evl.Ex
theorem ex_r {H : Hp} : Ex H H := Evl.Ex.refl H
theorem ex_t {H H1 H2 : Hp} (a : Ex H H1) (b : Ex H1 H2) : Ex H H2 := Evl.Ex.trans a b
theorem ex_n {H : Hp} {p : Addr} {o : HO} (h : H p = none) : Ex H (upd H p o) := Evl.Ex.new h
theorem ex_tn {H H1 : Hp} {p : Addr} {o : HO} (a : Ex H H1) (h : H1 p = none) : Ex H (upd H1 p o) := ex_t a (ex_n h)
theorem ex_no {H H' : Hp} {p : Addr} (e : Ex H H') (h : H' p = none) : H p = none := Evl.fresh_back e h
theorem ex_ne {H H' : Hp} {p q : Addr} {o : HO} (h : H p = some o) (e : Ex H H') (n : H' q = none) : p ≠ q := ne_of_none (e p o h) n
def ExP (p : Addr) (H H' : Hp) : Prop := ∀ a o, a ≠ p → H a = some o → H' a = some o
theorem ExP.of {p : Addr} {H H' : Hp} (e : Ex H H') : ExP p H H' := fun a o _ h => e a o h
theorem ExP.refl {p : Addr} {H : Hp} : ExP p H H := fun _ _ _ h => h
theorem ExP.trans {p : Addr} {H H1 H2 : Hp} (a : ExP p H H1) (b : ExP p H1 H2) : ExP p H H2 := fun c o n h => b c o n (a c o n h)
theorem ExP.upd {p : Addr} {H : Hp} {o : HO} : ExP p H (L2.upd H p o) := fun a u n h => by rw [upd_ne n]; exact h
theorem ExP.tx {p : Addr} {H H1 H2 : Hp} (a : ExP p H H1) (b : Ex H1 H2) : ExP p H H2 := a.trans (.of b)
theorem ExP.tu {p : Addr} {H H1 : Hp} {o : HO} (a : ExP p H H1) : ExP p H (L2.upd H1 p o) := a.trans ExP.upd
theorem ExP.ex {p : Addr} {H H' : Hp} (a : ExP p H H') (h : H p = none) : Ex H H' := fun c o e => a c o (ne_of_none e h) e
theorem iteB {b : Bool} {A B : Prop} (h1 : b = true → A) (h2 : b = false → B) : if b = true then A else B := by
  cases b with
  | true => exact h1 rfl
  | false => exact h2 rfl
theorem ite_t {b : Bool} {A B : Prop} (h : b = true) (q : A) : if b = true then A else B := by subst h; exact q
theorem ite_f {b : Bool} {A B : Prop} (h : b = false) (q : B) : if b = true then A else B := by subst h; exact q
theorem small_line {n : Nat} (h : n ≤ 16777216) : n ≤ sizeLine := by rw [sizeLine_eq]; exact h
theorem small_lt {n : Nat} (h : n < 16777216) : n < sizeLine := by rw [sizeLine_eq]; exact h
structure SeqIt (J : It) (xs : List V) (Ok : Hp → Prop) : Prop where
  go : ∀ i H, Ok H → i < xs.length → J.go i H
  yld : ∀ i H x H', Ok H → J.yld i H x H' → H' = H ∧ (i < xs.length → xs[i]? = some x)
  stop : ∀ i H, Ok H → xs.length ≤ i → J.stop i H
theorem seq_list {K : Fr} {a : Addr} {xs : List V} : SeqIt (Itl K a) xs (fun H => SqL K H a xs) where
  go := fun i H h l => ⟨xs, xs[i], h, by simp [l]⟩
  yld := fun i H x H' h y => ⟨y.1, fun _ => y.2 xs h⟩
  stop := fun i H h l => ⟨xs, h, l⟩
theorem seq_tup {K : Fr} {a : Addr} {xs : List V} : SeqIt (Itt K a) xs (fun H => SqT K H a xs) where
  go := fun i H h l => ⟨xs, xs[i], h, by simp [l]⟩
  yld := fun i H x H' h y => ⟨y.1, fun _ => y.2 xs h⟩
  stop := fun i H h l => ⟨xs, h, l⟩
def sgn (c : Nat) : Str := ⟨#[c]⟩
def signsV (z : Str) : List V := z.cps.toList.map fun c => V.str (sgn c)
theorem seq_str {z : Str} : SeqIt (Its z) (signsV z) (fun _ => True) where
  go := fun i H _ l => by
    show i < z.cps.size
    simpa [signsV] using l
  yld := fun i H x H' _ y => by
    obtain ⟨e, c, hc, rfl⟩ := y
    refine ⟨e, fun _ => ?_⟩
    unfold signsV
    rw [List.getElem?_map, Array.getElem?_toList, hc]
    rfl
  stop := fun i H _ l => by
    show z.cps.size ≤ i
    simpa [signsV] using l
def intsV (lo : Int) (n : Nat) : List V := (List.range n).map fun (i : Nat) => V.int (lo + (i : Int))
theorem seq_rng {lo : Int} {n : Nat} : SeqIt (Itr lo n) (intsV lo n) (fun _ => True) where
  go := fun i H _ l => by
    have l2 : i < n := by simpa [intsV] using l
    exact l2
  yld := fun i H x H' _ y => by
    obtain ⟨e, rfl⟩ := y
    refine ⟨e, fun l => ?_⟩
    have l2 : i < n := by simpa [intsV] using l
    unfold intsV
    rw [List.getElem?_map, List.getElem?_range l2]
    rfl
  stop := fun i H _ l => by
    have l2 : n ≤ i := by simpa [intsV] using l
    exact l2
section
variable {J : It} {xs : List V} {Ok : Hp → Prop}
theorem for_seq (S : SeqIt J xs Ok) {g : TG} {tb : TS} {D : Ends} {σ : L2.St} {H : Hp} (Pv : Nat → L2.St → Hp → Prop) (h0 : Pv 0 σ H) (hl : ∀ i σ H, i ≤ xs.length → Pv i σ H → Ok H)
    (hs : ∀ i x σ H, xs[i]? = some x → Pv i σ H → g x σ H fun σ2 H2 => tb { D with nx := Pv (i + 1), ct := Pv (i + 1), bk := D.nx } σ2 H2) (hd : ∀ σ H, Pv xs.length σ H → D.nx σ H) :
    ∃ W : Nat → Nat → L2.St → Hp → Prop, (∃ m, W 0 m σ H) ∧ ∀ i m σ H, W i m σ H →
      (J.stop i H ∧ D.nx σ H) ∨ (J.go i H ∧ ∃ N : L2.St → Hp → Prop, (∀ σ' H', N σ' H' → ∃ m', m' < m ∧ W (i + 1) m' σ' H') ∧ ∀ x H', J.yld i H x H' → g x σ H' fun σ2 H2 => tb { D with nx := N, ct := N, bk := D.nx } σ2 H2) := by
  refine ⟨fun i m σ H => m = xs.length - i ∧ i ≤ xs.length ∧ Pv i σ H, ⟨xs.length, by simp, Nat.zero_le _, h0⟩, ?_⟩
  rintro i m σ H ⟨rfl, hi, p⟩
  have q := hl i σ H hi p
  by_cases hlt : i < xs.length
  · refine .inr ⟨S.go i H q hlt, Pv (i + 1), fun σ' H' p' => ⟨xs.length - (i + 1), by omega, rfl, hlt, p'⟩, fun x H' y => ?_⟩
    obtain ⟨e, y2⟩ := S.yld i H x H' q y
    subst e
    exact hs i x σ _ (y2 hlt) p
  · have e : i = xs.length := by omega
    subst e
    exact .inl ⟨S.stop _ H q (Nat.le_refl _), hd σ H p⟩
theorem lc_seq (S : SeqIt J xs Ok) {g : TG} {tt : TT} {te : TE} {vs : List Nat} {σ : L2.St} {H1 : Hp} {D : Addr} {Qd : Hp → Prop} (Pv : Nat → Hp → Prop) (h0 : Pv 0 (upd H1 D (.lst []))) (hl : ∀ i H, i ≤ xs.length → Pv i H → Ok H)
    (hs : ∀ i x H, xs[i]? = some x → Pv i H → g x (wipe σ vs) H fun σ2 H2 => wipe σ2 vs = wipe σ vs ∧ tt σ2 H2 fun b H3 =>
      if b = true then te σ2 H3 fun y H4 => ∃ acc, H4 D = some (.lst acc) ∧ acc.length < sizeLine ∧ Pv (i + 1) (upd H4 D (.lst (acc ++ [y]))) else Pv (i + 1) H3) (hd : ∀ H, Pv xs.length H → Qd H) :
    ∃ W : Nat → Nat → Hp → Prop, (∃ m, W 0 m (upd H1 D (.lst []))) ∧ ∀ i m H, W i m H →
      (J.stop i H ∧ Qd H) ∨ (J.go i H ∧ ∃ Nx : Hp → Prop, (∀ H', Nx H' → ∃ m', m' < m ∧ W (i + 1) m' H') ∧ ∀ x H', J.yld i H x H' → g x (wipe σ vs) H' fun σ2 H2 => wipe σ2 vs = wipe σ vs ∧ tt σ2 H2 fun b H3 =>
        if b = true then te σ2 H3 fun y H4 => ∃ acc, H4 D = some (.lst acc) ∧ acc.length < sizeLine ∧ Nx (upd H4 D (.lst (acc ++ [y]))) else Nx H3) := by
  refine ⟨fun i m H => m = xs.length - i ∧ i ≤ xs.length ∧ Pv i H, ⟨xs.length, by simp, Nat.zero_le _, h0⟩, ?_⟩
  rintro i m H ⟨rfl, hi, p⟩
  have q := hl i H hi p
  by_cases hlt : i < xs.length
  · refine .inr ⟨S.go i H q hlt, Pv (i + 1), fun H' p' => ⟨xs.length - (i + 1), by omega, rfl, hlt, p'⟩, fun x H' y => ?_⟩
    obtain ⟨e, y2⟩ := S.yld i H x H' q y
    subst e
    exact hs i x _ (y2 hlt) p
  · have e : i = xs.length := by omega
    subst e
    exact .inl ⟨S.stop _ H q (Nat.le_refl _), hd H p⟩
theorem take_succ_of {α : Type} {l : List α} {i : Nat} {x : α} (h : l[i]? = some x) : l.take (i + 1) = l.take i ++ [x] := by
  rw [List.take_add_one, h]
  rfl
theorem lc_rel (S : SeqIt J xs Ok) {g : TG} {tt : TT} {te : TE} {vs : List Nat} {σ : L2.St} {H : Hp} {Q : VK} (keep : V → Bool) (R : V → V → Hp → Prop) (ok : ∀ H1, Ex H H1 → Ok H1) (hlen : xs.length ≤ 1000000)
    (body : ∀ D, H D = none → ∀ x ∈ xs, ∀ H1, Ex H H1 → (∃ acc, H1 D = some (.lst acc)) → ∀ (k : Hp → Prop) (ky : V → Hp → Prop), (keep x = false → ∀ H3, Ex H1 H3 → k H3) →
      (keep x = true → ∀ y H4, Ex H1 H4 → (∀ H5, ExP D H4 H5 → R x y H5) → ky y H4) → g x (wipe σ vs) H1 fun σ2 H2 => wipe σ2 vs = wipe σ vs ∧ tt σ2 H2 fun b H3 => if b = true then te σ2 H3 ky else k H3)
    (q : ∀ D ys H', H D = none → Ex H H' → H' D = some (.lst ys) → Paired (fun x y => R x y H') (xs.filter keep) ys → Q (.ref D) H') :
    ∀ D, H D = none → ∃ W : Nat → Nat → Hp → Prop, (∃ m, W 0 m (upd H D (.lst []))) ∧ ∀ i m H, W i m H →
      (J.stop i H ∧ Q (.ref D) H) ∨ (J.go i H ∧ ∃ Nx : Hp → Prop, (∀ H', Nx H' → ∃ m', m' < m ∧ W (i + 1) m' H') ∧ ∀ x H', J.yld i H x H' → g x (wipe σ vs) H' fun σ2 H2 => wipe σ2 vs = wipe σ vs ∧ tt σ2 H2 fun b H3 =>
        if b = true then te σ2 H3 fun y H4 => ∃ acc, H4 D = some (.lst acc) ∧ acc.length < sizeLine ∧ Nx (upd H4 D (.lst (acc ++ [y]))) else Nx H3) := by
  intro D hD
  refine lc_seq S (fun i H' => Ex H H' ∧ ∃ ys, H' D = some (.lst ys) ∧ ys.length ≤ i ∧ ∀ H5, ExP D H' H5 → Paired (fun x y => R x y H5) ((xs.take i).filter keep) ys) ⟨ex_n hD, [], upd_same, Nat.le_refl _, fun _ _ => .nil⟩ (fun i H' _ h => ok H' h.1) ?_ ?_
  · rintro i x H1 hx ⟨e1, ys, hys, hl, hp⟩
    have hm : x ∈ xs := List.mem_of_getElem? hx
    have hi : i < xs.length := (List.getElem?_eq_some_iff.mp hx).1
    refine body D hD x hm H1 e1 ⟨ys, hys⟩ _ _ (fun h H3 e3 => ?_) (fun h y H4 e4 hr => ?_)
    · refine ⟨ex_t e1 e3, ys, e3 _ _ hys, by omega, fun H5 h5 => ?_⟩
      rw [take_succ_of hx, List.filter_append, List.filter_cons, h, if_neg Bool.false_ne_true, List.filter_nil, List.append_nil]
      exact hp H5 (ExP.trans (.of e3) h5)
    · refine ⟨ys, e4 _ _ hys, small_lt (by omega), fun a o ha => ?_, ys ++ [y], upd_same, by simp; omega, fun H5 h5 => ?_⟩
      · rw [upd_ne (ne_of_none ha hD)]
        exact e4 _ _ (e1 _ _ ha)
      · rw [take_succ_of hx, List.filter_append, List.filter_cons, h, if_pos rfl, List.filter_nil]
        have h6 : ExP D H4 H5 := ExP.trans ExP.upd h5
        exact Paired.snoc (hp H5 (ExP.trans (.of e4) h6)) (hr H5 h6)
  · rintro H1 ⟨e1, ys, hys, _, hp⟩
    have z := hp H1 ExP.refl
    rw [List.take_length] at z
    exact q D ys H1 hD e1 hys z
theorem lc_of (S : SeqIt J xs Ok) {wi : TI} {g : TG} {tt : TT} {te : TE} {vs : List Nat} {σ : L2.St} {H : Hp} {Q : VK} (hwi : ∀ R : It → Hp → Prop, R J H → wi σ H R) (keep : V → Bool) (R : V → V → Hp → Prop) (ok : ∀ H1, Ex H H1 → Ok H1) (hlen : xs.length ≤ 1000000)
    (body : ∀ D, H D = none → ∀ x ∈ xs, ∀ H1, Ex H H1 → (∃ acc, H1 D = some (.lst acc)) → ∀ (k : Hp → Prop) (ky : V → Hp → Prop), (keep x = false → ∀ H3, Ex H1 H3 → k H3) →
      (keep x = true → ∀ y H4, Ex H1 H4 → (∀ H5, ExP D H4 H5 → R x y H5) → ky y H4) → g x (wipe σ vs) H1 fun σ2 H2 => wipe σ2 vs = wipe σ vs ∧ tt σ2 H2 fun b H3 => if b = true then te σ2 H3 ky else k H3)
    (q : ∀ D ys H', H D = none → Ex H H' → H' D = some (.lst ys) → Paired (fun x y => R x y H') (xs.filter keep) ys → Q (.ref D) H') : tLc wi g tt te vs σ H Q :=
  hwi _ (lc_rel S keep R ok hlen body q)
theorem for_of (S : SeqIt J xs Ok) {wi : TI} {g : TG} {tb : TS} {D : Ends} {σ : L2.St} {H : Hp} (hwi : ∀ R : It → Hp → Prop, R J H → wi σ H R) (Pv : Nat → L2.St → Hp → Prop) (h0 : Pv 0 σ H) (hl : ∀ i σ H, i ≤ xs.length → Pv i σ H → Ok H)
    (hs : ∀ i x σ H, xs[i]? = some x → Pv i σ H → g x σ H fun σ2 H2 => tb { D with nx := Pv (i + 1), ct := Pv (i + 1), bk := D.nx } σ2 H2) (hd : ∀ σ H, Pv xs.length σ H → D.nx σ H) : tFor wi g tb D σ H :=
  hwi _ (for_seq S Pv h0 hl hs hd)
theorem lcs_of (S : SeqIt J xs Ok) {wi : TI} {g : TG} {tt : TT} {te : TE} {vs : List Nat} {σ : L2.St} {H : Hp} {Q : VK} (hwi : ∀ R : It → Hp → Prop, R J H → wi σ H R) (Pv : Addr → Nat → Hp → Prop) (h0 : ∀ D, H D = none → Pv D 0 (upd H D (.lst [])))
    (hl : ∀ D i H', H D = none → i ≤ xs.length → Pv D i H' → Ok H')
    (hs : ∀ D i x H', H D = none → xs[i]? = some x → Pv D i H' → g x (wipe σ vs) H' fun σ2 H2 => wipe σ2 vs = wipe σ vs ∧ tt σ2 H2 fun b H3 =>
      if b = true then te σ2 H3 fun y H4 => ∃ acc, H4 D = some (.lst acc) ∧ acc.length < sizeLine ∧ Pv D (i + 1) (upd H4 D (.lst (acc ++ [y]))) else Pv D (i + 1) H3) (hd : ∀ D H', H D = none → Pv D xs.length H' → Q (.ref D) H') : tLc wi g tt te vs σ H Q :=
  hwi _ fun D hD => lc_seq S (Pv D) (h0 D hD) (fun i H' => hl D i H' hD) (fun i x H' => hs D i x H' hD) fun H' => hd D H' hD
end
theorem paired_map {α β : Type} {f : α → β} : ∀ {xs : List α} {ys : List β}, Paired (fun x y => y = f x) xs ys → ys = xs.map f
  | _, _, .nil => rfl
  | _, _, .cons h t => by rw [h, paired_map t]; rfl
theorem v_var {i : Nat} {v : V} {σ : L2.St} {H : Hp} (h : σ[i]? = some (some v)) : ∀ Q : VK, Q v H → tVar i σ H Q := fun _ q => ⟨v, h, q⟩
theorem v_c {v : V} {σ : L2.St} {H : Hp} : ∀ Q : VK, Q v H → tC v σ H Q := fun _ q => q
theorem cb1 {r : List V → Hp → VK → Prop} {te : TE} {σ : L2.St} {H : Hp} {Q : VK} (h : te σ H fun x H1 => r [x] H1 Q) : tCB r (tCons te tNil) σ H Q := h
theorem cb2 {r : List V → Hp → VK → Prop} {te tu : TE} {σ : L2.St} {H : Hp} {Q : VK} (h : te σ H fun x H1 => tu σ H1 fun y H2 => r [x, y] H2 Q) : tCB r (tCons te (tCons tu tNil)) σ H Q := h
structure ClsW (K : Fr) (C : Addr) : Prop where
  ha : PySem.W.findIn K (.ref C) "__class__" = some (some (.builtin "object.__class__"))
  hn : PySem.W.specialIn K (.builtin "object.__class__") "__get__" = some (some (.builtin "getset_descriptor.__get__"))
  ht : PySem.W.takesIn K (.builtin "object.__class__") = some true
  hm : PySem.W.mroIn K C (.type "object") = some true
def clsB (x : Str) (K : Fr) : Bool := decide (PySem.W.findIn K (.ref (He.ga K x)) "__class__" = some (some (.builtin "object.__class__"))) && objB K && decide (PySem.W.mroIn K (He.ga K x) (.type "object") = some true)
theorem clsB_ok {x : Str} {K : Fr} (h : clsB x K = true) : ClsW K (He.ga K x) := by
  simp only [clsB, Bool.and_eq_true, decide_eq_true_eq] at h
  obtain ⟨⟨h1, h2⟩, h3⟩ := h
  obtain ⟨h4, h5⟩ := objB_ok h2
  exact ⟨h1, h4, h5, h3⟩
end WB
namespace WB
open PySem PySem.Spec PyProof.Rows L2 Evl
abbrev SV (l : List Str) : List V := l.map V.str
section
variable {K : Fr} {σ : L2.St} {H : Hp} {D : Ends}
theorem for_enum {a : Addr} {xs : List V} {tl : TE} {s1 s2 : Nat} {tb : TS} (hl0 : ∀ Q' : VK, Q' (.ref a) H → tl σ H Q') (Pv : Nat → L2.St → Hp → Prop) (h0 : Pv 0 σ H) (hl : ∀ i σ' H', i ≤ xs.length → Pv i σ' H' → SqL K H' a xs)
    (hs : ∀ i x σ' H', xs[i]? = some x → Pv i σ' H' → ∀ T, H' T = none → tb { D with nx := Pv (i + 1), ct := Pv (i + 1), bk := D.nx } ((σ'.set s1 (some (.int (i : Int)))).set s2 (some x)) (upd H' T (.tup [.int (i : Int), x])))
    (hd : ∀ σ' H', Pv xs.length σ' H' → D.nx σ' H') : tFor (iEnum K (tCons tl tNil)) (gTup K 2 (gCons (gName s1) (gCons (gName s2) gNil))) tb D σ H := by
  refine hl0 _ ⟨a, xs, rfl, hl 0 σ H (Nat.zero_le _) h0, ?_⟩
  refine ⟨fun i m σ H => m = xs.length - i ∧ i ≤ xs.length ∧ Pv i σ H, ⟨xs.length, by simp, Nat.zero_le _, h0⟩, ?_⟩
  rintro i m σ H ⟨rfl, hi, p⟩
  have q := hl i σ H hi p
  by_cases hlt : i < xs.length
  · refine .inr ⟨⟨xs, xs[i], q, by simp [hlt]⟩, Pv (i + 1), fun σ' H' p' => ⟨xs.length - (i + 1), by omega, rfl, hlt, p'⟩, fun x H' y => ?_⟩
    obtain ⟨T, x', rfl, hT, rfl, hx⟩ := y
    exact ⟨T, _, rfl, SqT.of upd_same, rfl, _, _, rfl, _, _, rfl, rfl, hs i x' σ H (hx xs q) p T hT⟩
  · have e : i = xs.length := by omega
    subst e
    exact .inl ⟨⟨xs, q, Nat.le_refl _⟩, hd σ H p⟩
theorem ev_is' {te : TE} {v w : V} (h : Ev te σ H v) (e : v = w) : Ev te σ H w := e ▸ h
theorem ev_cS {sp : Sp} {E : L2.St → XK} {ta : TA} {vs : List V} {z : V} (h : EvA ta σ H vs) (hs : ∀ H1, Ex H H1 → ∀ Q : VK, (∀ H2, Ex H1 H2 → Q z H2) → sp vs H1 Q (E σ)) : Ev (tCallS sp E ta) σ H z := fun H1 e Q q =>
  h H1 e _ fun H2 e2 => hs H2 (e.trans e2) Q fun H3 e3 => q H3 (e2.trans e3)
theorem ev_mS {C : Addr} {m : Str} {sp : Sp} {E : L2.St → XK} {to : TE} {ta : TA} {a dx : Addr} {fs : List (Str × V)} {vs : List V} {z : V} (ho : Ev to σ H (.ref a)) (ha : H a = some (.ins C dx fs)) (hl : fs.lookup m = none) (h : EvA ta σ H vs)
    (hs : ∀ H1, Ex H H1 → ∀ Q : VK, (∀ H2, Ex H1 H2 → Q z H2) → sp (.ref a :: vs) H1 Q (E σ)) : Ev (tMethS C m sp E to ta) σ H z := fun H1 e Q q =>
  ho H1 e _ fun H2 e2 => ⟨a, dx, fs, rfl, e2 _ _ (e _ _ ha), hl, h H2 (e.trans e2) _ fun H3 e3 => hs H3 ((e.trans e2).trans e3) Q fun H4 e4 => q H4 ((e2.trans e3).trans e4)⟩
theorem ev_isi {ta tb : TE} {x c : V} {t u : Value} {b : Bool} (ha : Ev ta σ H x) (hb : Ev tb σ H c) (k : ClsV c u) (ty : ∀ H1, Ex H H1 → TyX K H1 x t) (e : PySem.W.kitOne K t u = some b) : Ev (tCB (rIsi K) (tCons ta (tCons tb tNil))) σ H (.bl b) := fun H1 e1 Q q =>
  ha H1 e1 _ fun H2 e2 => hb H2 (e1.trans e2) _ fun H3 e3 => ⟨x, c, t, u, b, rfl, k, ty H3 ((e1.trans e2).trans e3), e, q H3 (e2.trans e3)⟩
theorem ev_strI {ta : TE} {i : Int} (ha : Ev ta σ H (.int i)) (hi : i.natAbs < 1000000) : Ev (tCB rStrI (tCons ta tNil)) σ H (.str (toString i)) := fun H1 e1 Q q =>
  ha H1 e1 _ fun H2 e2 => ⟨i, rfl, by
    have h3 : i.natAbs.log2 ≤ i.natAbs := Nat.log2_le_self _
    by_cases h0 : i.natAbs = 0
    · rw [h0]; decide
    · have h4 : i.natAbs < 2 ^ 20 := by omega
      have h5 : i.natAbs.log2 < 20 := (Nat.log2_lt h0).mpr h4
      omega, q H2 e2⟩
theorem ev_lenL {ta : TE} {p : Addr} {xs : List V} (ha : Ev ta σ H (.ref p)) (h : SqL K H p xs) : Ev (tCB (rLenA K) (tCons ta tNil)) σ H (.int (xs.length : Int)) := fun H1 e1 Q q =>
  ha H1 e1 _ fun H2 e2 => .inl ⟨p, xs, rfl, .inl (ex_l (e1.trans e2) h), q H2 e2⟩
theorem ev_lenT {ta : TE} {p : Addr} {xs : List V} (ha : Ev ta σ H (.ref p)) (h : SqT K H p xs) : Ev (tCB (rLenA K) (tCons ta tNil)) σ H (.int (xs.length : Int)) := fun H1 e1 Q q =>
  ha H1 e1 _ fun H2 e2 => .inl ⟨p, xs, rfl, .inr (Evl.ex_t (e1.trans e2) h), q H2 e2⟩
theorem ev_lenS {ta : TE} {z : Str} (ha : Ev ta σ H (.str z)) (h : z.length ≤ 100000) : Ev (tCB (rLenA K) (tCons ta tNil)) σ H (.int (z.length : Int)) := fun H1 e1 Q q =>
  ha H1 e1 _ fun H2 e2 => .inr ⟨z, rfl, small_line (by omega), q H2 e2⟩
theorem ev_chain {ta tb tc : TE} {i j l : Int} (ha : Ev ta σ H (.int i)) (hb : Ev tb σ H (.int j)) (hc : Ev tc σ H (.int l)) : Ev (tChain rLeI rLeI ta tb tc) σ H (.bl (decide (i ≤ j) && decide (j ≤ l))) := fun H1 e1 Q q =>
  ha H1 e1 _ fun H2 e2 => hb H2 (e1.trans e2) _ fun H3 e3 => ⟨i, j, rfl, rfl, _, rfl, by
    by_cases h : i ≤ j
    · rw [decide_eq_true h] at q ⊢
      exact ite_t rfl (hc H3 ((e1.trans e2).trans e3) _ fun H4 e4 => ⟨j, l, rfl, rfl, q H4 ((e2.trans e3).trans e4)⟩)
    · rw [decide_eq_false h] at q ⊢
      exact ite_f rfl (q H3 (e2.trans e3))⟩
theorem ev_eqI {ta tb : TE} {i j : Int} (ha : Ev ta σ H (.int i)) (hb : Ev tb σ H (.int j)) : Ev (tOp (rEqA K) ta tb) σ H (.bl (decide (i = j))) :=
  ev_is' (ev_op (z := .bl (decide (V.int i = V.int j))) ha hb fun H1 e Q q => .inl ⟨rfl, q H1 (Ex.refl _)⟩) (by
    congr 1
    by_cases h : i = j
    · rw [h]; simp
    · rw [decide_eq_false h]; exact decide_eq_false fun z => h (V.int.inj z))
theorem ev_eqS {ta tb : TE} {i j : Str} (ha : Ev ta σ H (.str i)) (hb : Ev tb σ H (.str j)) : Ev (tOp (rEqA K) ta tb) σ H (.bl (decide (i = j))) :=
  ev_is' (ev_op (z := .bl (decide (V.str i = V.str j))) ha hb fun H1 e Q q => .inl ⟨rfl, q H1 (Ex.refl _)⟩) (by
    congr 1
    by_cases h : i = j
    · rw [h]; simp
    · rw [decide_eq_false h]; exact decide_eq_false fun z => h (V.str.inj z))
theorem ev_neS {ta tb : TE} {i j : Str} (ha : Ev ta σ H (.str i)) (hb : Ev tb σ H (.str j)) : Ev (tOp (rNeA K) ta tb) σ H (.bl (!decide (i = j))) :=
  ev_is' (ev_op (z := .bl (!decide (V.str i = V.str j))) ha hb fun H1 e Q q => .inl ⟨rfl, q H1 (Ex.refl _)⟩) (by
    congr 2
    by_cases h : i = j
    · rw [h]; simp
    · rw [decide_eq_false h]; exact decide_eq_false fun z => h (V.str.inj z))
theorem ev_addS {ta tb : TE} {i j : Str} (ha : Ev ta σ H (.str i)) (hb : Ev tb σ H (.str j)) (h : i.length + j.length ≤ 100000) : Ev (tOp (rAddA K) ta tb) σ H (.str (i ++ j)) :=
  ev_op ha hb fun H1 e Q q => .inr (.inl ⟨i, j, rfl, rfl, small_line (by omega), q H1 (Ex.refl _)⟩)
theorem ev_addI {ta tb : TE} {i j : Int} (ha : Ev ta σ H (.int i)) (hb : Ev tb σ H (.int j)) : Ev (tOp (rAddA K) ta tb) σ H (.int (i + j)) :=
  ev_op ha hb fun H1 e Q q => .inl ⟨i, j, rfl, rfl, q H1 (Ex.refl _)⟩
theorem ev_fld {to : TE} {a C dx : Addr} {fs : List (Str × V)} {f : Str} {v : V} (ho : Ev to σ H (.ref a)) (ha : H a = some (.ins C dx fs)) (c : Cls K C) (n : NoAttr K C f) (hl : fs.lookup f = some v) : Ev (tFld K to f) σ H v := fun H1 e Q q =>
  ho H1 e _ fun H2 e2 => ⟨a, C, dx, fs, v, rfl, e2 _ _ (e _ _ ha), c, n, hl, q H2 e2⟩
theorem inV_str {z : Str} : ∀ {l : List Str}, inV (.str z) (SV l) = decide (z ∈ l)
  | [] => rfl
  | y :: l => by
    have ih := inV_str (z := z) (l := l)
    unfold inV at ih ⊢
    show (eqV (V.str y) (V.str z) || (SV l).any fun y => eqV y (V.str z)) = _
    rw [ih]
    by_cases h : y = z
    · subst h
      simp [eqV]
    · have h2 : eqV (V.str y) (V.str z) = false := by simp [eqV, h]
      rw [h2]
      by_cases h3 : z ∈ l
      · rw [decide_eq_true h3, decide_eq_true (List.mem_cons_of_mem _ h3)]; rfl
      · rw [decide_eq_false h3, decide_eq_false (fun q => by rcases List.mem_cons.mp q with q | q; exact h q.symm; exact h3 q)]; rfl
theorem flat_SV (l : List Str) : (SV l).all flatV = true := List.all_eq_true.mpr fun v hv => by
  obtain ⟨z, _, rfl⟩ := List.mem_map.mp hv
  rfl
theorem ev_inL {ta tb : TE} {z : Str} {p : Addr} {l : List Str} (ha : Ev ta σ H (.str z)) (hb : Ev tb σ H (.ref p)) (hx : SqL K H p (SV l)) : Ev (tOp (rInA K) ta tb) σ H (.bl (decide (z ∈ l))) :=
  ev_op ha hb fun H1 e Q q => .inl ⟨p, SV l, rfl, .inl (ex_l e hx), rfl, flat_SV l, by rw [if_neg Bool.false_ne_true, inV_str]; exact q H1 (Ex.refl _)⟩
theorem ev_niL {ta tb : TE} {z : Str} {p : Addr} {l : List Str} (ha : Ev ta σ H (.str z)) (hb : Ev tb σ H (.ref p)) (hx : SqL K H p (SV l)) : Ev (tOp (rNiA K) ta tb) σ H (.bl (!decide (z ∈ l))) :=
  ev_op ha hb fun H1 e Q q => .inl ⟨p, SV l, rfl, .inl (ex_l e hx), rfl, flat_SV l, by rw [if_pos rfl, inV_str]; exact q H1 (Ex.refl _)⟩
theorem ev_niLn {ta tb : TE} {z : Str} {l : List Str} (ha : Ev ta σ H (.str z)) (hb : EvL tb σ H (SV l)) : Ev (tOp (rNiA K) ta tb) σ H (.bl (!decide (z ∈ l))) :=
  ev_opL ha hb fun p H0 hp e0 H1 e Q q => .inl ⟨p, SV l, rfl, .inl (ex_l e (sq_of hp)), rfl, flat_SV l, by rw [if_pos rfl, inV_str]; exact q H1 (Ex.refl _)⟩
theorem ev_inLn {ta tb : TE} {z : Str} {l : List Str} (ha : Ev ta σ H (.str z)) (hb : EvL tb σ H (SV l)) : Ev (tOp (rInA K) ta tb) σ H (.bl (decide (z ∈ l))) :=
  ev_opL ha hb fun p H0 hp e0 H1 e Q q => .inl ⟨p, SV l, rfl, .inl (ex_l e (sq_of hp)), rfl, flat_SV l, by rw [if_neg Bool.false_ne_true, inV_str]; exact q H1 (Ex.refl _)⟩
theorem el_sliceTo {tl th : TE} {p : Addr} {xs : List V} {j : Nat} (h : Ev tl σ H (.ref p)) (hj : Ev th σ H (.int (j : Int))) (hx : SqL K H p xs) : EvL (tSl (rSlA K) tl tNoPart (tPart th)) σ H (xs.take j) := fun H1 e1 Q q =>
  h H1 e1 _ fun H2 e2 => hj H2 (e1.trans e2) _ fun H3 e3 => ⟨(j : Int), rfl, .inl ⟨p, xs, rfl, ex_l ((e1.trans e2).trans e3) hx, fun r hr => by
    have e5 : cutV xs none (some (j : Int)) = xs.take j := by
      unfold cutV
      rw [HT.sIx_none, HT.sIx_nat, List.drop_zero, Nat.sub_zero]
      by_cases hj : j ≤ xs.length
      · rw [Nat.min_eq_left hj]
      · rw [Nat.min_eq_right (by omega), List.take_of_length_le (Nat.le_refl _), List.take_of_length_le (by omega)]
    rw [e5]
    exact q r _ (fresh_back (e2.trans e3) hr) ((e2.trans e3).trans (Ex.new hr)) upd_same⟩⟩
theorem el_sliceFrom {tl th : TE} {p : Addr} {xs : List V} {j : Nat} (h : Ev tl σ H (.ref p)) (hj : Ev th σ H (.int (j : Int))) (hx : SqL K H p xs) : EvL (tSl (rSlA K) tl (tPart th) tNoPart) σ H (xs.drop j) := fun H1 e1 Q q =>
  h H1 e1 _ fun H2 e2 => hj H2 (e1.trans e2) _ fun H3 e3 => ⟨(j : Int), rfl, .inl ⟨p, xs, rfl, ex_l ((e1.trans e2).trans e3) hx, fun r hr => by
    have e5 : cutV xs (some (j : Int)) none = xs.drop j := by
      unfold cutV
      rw [HT.sIx_none, HT.sIx_nat]
      by_cases hj : j ≤ xs.length
      · rw [Nat.min_eq_left hj, List.take_of_length_le (by rw [List.length_drop]; omega)]
      · rw [Nat.min_eq_right (by omega), Nat.sub_self, List.take_zero, List.drop_eq_nil_of_le (by omega)]
    rw [e5]
    exact q r _ (fresh_back (e2.trans e3) hr) ((e2.trans e3).trans (Ex.new hr)) upd_same⟩⟩
theorem el_catL {ta tb : TE} {p : Addr} {xs ys : List V} (ha : Ev ta σ H (.ref p)) (hx : H p = some (.lst xs)) (hb : EvL tb σ H ys) (h : xs.length + ys.length ≤ 100000) : EvL (tOp (rAddA K) ta tb) σ H (xs ++ ys) := fun H1 e1 Q q =>
  ha H1 e1 _ fun H2 e2 => hb H2 (e1.trans e2) _ fun r H3 hr e3 hy => .inr (.inr (.inl ⟨p, r, xs, ys, rfl, rfl, ((e1.trans e2).trans e3) _ _ hx, hy, small_line (by omega), fun s hs => q s _ (fresh_back (e2.trans e3) hs) ((e2.trans e3).trans (Ex.new hs)) upd_same⟩))
theorem el_catRR {ta tb : TE} {p r : Addr} {xs ys : List V} (ha : Ev ta σ H (.ref p)) (hx : H p = some (.lst xs)) (hb : Ev tb σ H (.ref r)) (hy : H r = some (.lst ys)) (h : xs.length + ys.length ≤ 100000) : EvL (tOp (rAddA K) ta tb) σ H (xs ++ ys) := fun H1 e1 Q q =>
  ha H1 e1 _ fun H2 e2 => hb H2 (e1.trans e2) _ fun H3 e3 => .inr (.inr (.inl ⟨p, r, xs, ys, rfl, rfl, ((e1.trans e2).trans e3) _ _ hx, ((e1.trans e2).trans e3) _ _ hy, small_line (by omega), fun s hs => q s _ (fresh_back (e2.trans e3) hs) ((e2.trans e3).trans (Ex.new hs)) upd_same⟩))
theorem el_catLL {ta tb : TE} {xs ys : List V} (ha : EvL ta σ H xs) (hb : EvL tb σ H ys) (h : xs.length + ys.length ≤ 100000) : EvL (tOp (rAddA K) ta tb) σ H (xs ++ ys) := fun H1 e1 Q q =>
  ha H1 e1 _ fun p H2 hp e2 hx => hb H2 (e1.trans e2) _ fun r H3 hr e3 hy => .inr (.inr (.inl ⟨p, r, xs, ys, rfl, rfl, e3 _ _ hx, hy, small_line (by omega), fun s hs => q s _ (fresh_back (e2.trans e3) hs) ((e2.trans e3).trans (Ex.new hs)) upd_same⟩))
theorem el_catLR {ta tb : TE} {r : Addr} {xs ys : List V} (ha : EvL ta σ H xs) (hb : Ev tb σ H (.ref r)) (hy : H r = some (.lst ys)) (h : xs.length + ys.length ≤ 100000) : EvL (tOp (rAddA K) ta tb) σ H (xs ++ ys) := fun H1 e1 Q q =>
  ha H1 e1 _ fun p H2 hp e2 hx => hb H2 (e1.trans e2) _ fun H3 e3 => .inr (.inr (.inl ⟨p, r, xs, ys, rfl, rfl, e3 _ _ hx, ((e1.trans e2).trans e3) _ _ hy, small_line (by omega), fun s hs => q s _ (fresh_back (e2.trans e3) hs) ((e2.trans e3).trans (Ex.new hs)) upd_same⟩))
theorem el_listSq {ta : TE} {p : Addr} {xs : List V} (ha : Ev ta σ H (.ref p)) (hx : SqL K H p xs) : EvL (tCB (rListSq K) (tCons ta tNil)) σ H xs := fun H1 e1 Q q =>
  ha H1 e1 _ fun H2 e2 => ⟨p, xs, rfl, .inl (ex_l (e1.trans e2) hx), fun r hr => q r _ (fresh_back e2 hr) (e2.trans (Ex.new hr)) upd_same⟩
theorem ev_joinE {ta tb : TE} {s : Str} {p : Addr} {l : List Str} (ha : Ev ta σ H (.str s)) (hb : Ev tb σ H (.ref p)) (hx : SqL K H p (SV l)) (hz : (l.map (·.length)).sum + l.length * s.length ≤ 1000000) : Ev (tM1 (rJoin K) ta tb) σ H (.str (Txt.join s l)) := fun H1 e1 Q q =>
  ha H1 e1 _ fun H2 e2 => ⟨⟨s, rfl⟩, hb H2 (e1.trans e2) _ fun H3 e3 => ⟨s, p, l, rfl, rfl, .inl (ex_l ((e1.trans e2).trans e3) hx), by omega, q H3 (e2.trans e3)⟩⟩
theorem ev_joinL {ta tb : TE} {s : Str} {l : List Str} (ha : Ev ta σ H (.str s)) (hb : EvL tb σ H (SV l)) (hz : (l.map (·.length)).sum + l.length * s.length ≤ 1000000) : Ev (tM1 (rJoin K) ta tb) σ H (.str (Txt.join s l)) := fun H1 e1 Q q =>
  ha H1 e1 _ fun H2 e2 => ⟨⟨s, rfl⟩, hb H2 (e1.trans e2) _ fun p H3 hp e3 hx => ⟨s, p, l, rfl, rfl, .inl (sq_of hx), by omega, q H3 (e2.trans e3)⟩⟩
theorem el_split {ta tb : TE} {z s : Str} (ha : Ev ta σ H (.str z)) (hb : Ev tb σ H (.str s)) (hs : (s.length == 0) = false) (hz : z.length ≤ 100000) : EvL (tM1 rSplit ta tb) σ H (SV (Txt.split z s)) := fun H1 e1 Q q =>
  ha H1 e1 _ fun H2 e2 => ⟨⟨z, rfl⟩, hb H2 (e1.trans e2) _ fun H3 e3 => ⟨z, s, rfl, rfl, hs, small_line (by omega), fun r hr => q r _ (fresh_back (e2.trans e3) hr) ((e2.trans e3).trans (Ex.new hr)) upd_same⟩⟩
end
end WB
namespace WB
open PySem PySem.Spec PyProof.Rows L2
open Evl hiding Ex
section
variable {K : Fr} {σ : L2.St} {H : Hp} {Q : VK} {tl te : TE} {tt : TT} {i : Nat} {vs : List Nat} {xs : List V}
abbrev Lt (tt : TT) (te : TE) (σx : L2.St) (H1 : Hp) (keep : Bool) (D : Addr) (R : V → Hp → Prop) : Prop := ∀ (k : Hp → Prop) (ky : VK), (keep = false → ∀ H3, Ex H1 H3 → k H3) →
  (keep = true → ∀ y H4, Ex H1 H4 → (∀ H5, ExP D H4 H5 → R y H5) → ky y H4) → tt σx H1 fun b H3 => if b = true then te σx H3 ky else k H3
theorem lc_listE (hl : EvL tl σ H xs) (keep : V → Bool) (R : V → V → Hp → Prop) (hlen : xs.length ≤ 1000000) (hw : ∀ x, wipe ((wipe σ vs).set i (some x)) vs = wipe σ vs)
    (body : ∀ D H1, H D = none → Ex H H1 → (∃ acc, H1 D = some (.lst acc)) → ∀ x ∈ xs, Lt tt te ((wipe σ vs).set i (some x)) H1 (keep x) D (R x))
    (q : ∀ D ys H', H D = none → Ex H H' → H' D = some (.lst ys) → Paired (fun x y => R x y H') (xs.filter keep) ys → Q (.ref D) H') : tLc (iList K tl) (gName i) tt te vs σ H Q := by
  refine hl H (Evl.Ex.refl H) _ fun p H0 hp e0 h0 => ⟨p, rfl, ⟨xs, sq_of h0⟩, ?_⟩
  refine lc_rel (seq_list (K := K)) keep R (fun H1 e => sq_of (e _ _ h0)) hlen (fun D hD x hx H1 e1 ha k ky h1 h2 => ⟨hw x, body D H1 (fresh_back e0 hD) (e0.trans e1) ha x hx k ky h1 h2⟩) fun D ys H' hD e => q D ys H' (fresh_back e0 hD) (e0.trans e)
theorem lc_listV {a : Addr} (hl : Ev tl σ H (.ref a)) (hx : SqL K H a xs) (keep : V → Bool) (R : V → V → Hp → Prop) (hlen : xs.length ≤ 1000000) (hw : ∀ x, wipe ((wipe σ vs).set i (some x)) vs = wipe σ vs)
    (body : ∀ D H1, H D = none → Ex H H1 → (∃ acc, H1 D = some (.lst acc)) → ∀ x ∈ xs, Lt tt te ((wipe σ vs).set i (some x)) H1 (keep x) D (R x))
    (q : ∀ D ys H', H D = none → Ex H H' → H' D = some (.lst ys) → Paired (fun x y => R x y H') (xs.filter keep) ys → Q (.ref D) H') : tLc (iList K tl) (gName i) tt te vs σ H Q := by
  refine hl H (Evl.Ex.refl H) _ fun H0 e0 => ⟨a, rfl, ⟨xs, ex_l e0 hx⟩, ?_⟩
  refine lc_rel (seq_list (K := K)) keep R (fun H1 e => ex_l (e0.trans e) hx) hlen (fun D hD x hx H1 e1 ha k ky h1 h2 => ⟨hw x, body D H1 (fresh_back e0 hD) (e0.trans e1) ha x hx k ky h1 h2⟩) fun D ys H' hD e => q D ys H' (fresh_back e0 hD) (e0.trans e)
theorem lt_flat {σx : L2.St} {H1 : Hp} {keep : Bool} {D : Addr} {v : V} (ht : EvT tt σx H1 keep) (he : keep = true → ∀ H2, Ex H1 H2 → Ev te σx H2 v) : Lt tt te σx H1 keep D (fun y _ => y = v) := fun k ky h1 h2 =>
  ht H1 (Evl.Ex.refl _) _ fun H2 e2 => iteB (fun h => he h H2 e2 H2 (Evl.Ex.refl _) _ fun H3 e3 => h2 h _ H3 (e2.trans e3) fun _ _ => rfl) fun h => h1 h H2 e2
theorem et_yes : EvT tYes σ H true := fun H1 e Q q => q H1 (Evl.Ex.refl _)
theorem lc_flatV {a : Addr} (hl : Ev tl σ H (.ref a)) (hx : SqL K H a xs) (keep : V → Bool) (f : V → V) (hlen : xs.length ≤ 1000000) (hw : ∀ x, wipe ((wipe σ vs).set i (some x)) vs = wipe σ vs)
    (ht : ∀ x ∈ xs, ∀ H1, Ex H H1 → EvT tt ((wipe σ vs).set i (some x)) H1 (keep x)) (he : ∀ x ∈ xs, keep x = true → ∀ H1, Ex H H1 → Ev te ((wipe σ vs).set i (some x)) H1 (f x)) :
    EvL (tLc (iList K tl) (gName i) tt te vs) σ H ((xs.filter keep).map f) := fun H0 e0 Q q =>
  lc_listV (hl.mono e0) (ex_l e0 hx) keep (fun x y _ => y = f x) hlen hw (fun D H1 _ e1 _ x hx => lt_flat (ht x hx H1 (e0.trans e1)) fun h H2 e2 => he x hx h H2 ((e0.trans e1).trans e2)) fun D ys H' hD e h r => q D H' hD e (by rw [h, paired_map r])
theorem lc_flatE (hl : EvL tl σ H xs) (keep : V → Bool) (f : V → V) (hlen : xs.length ≤ 1000000) (hw : ∀ x, wipe ((wipe σ vs).set i (some x)) vs = wipe σ vs)
    (ht : ∀ x ∈ xs, ∀ H1, Ex H H1 → EvT tt ((wipe σ vs).set i (some x)) H1 (keep x)) (he : ∀ x ∈ xs, keep x = true → ∀ H1, Ex H H1 → Ev te ((wipe σ vs).set i (some x)) H1 (f x)) :
    EvL (tLc (iList K tl) (gName i) tt te vs) σ H ((xs.filter keep).map f) := fun H0 e0 Q q =>
  lc_listE (hl.mono e0) keep (fun x y _ => y = f x) hlen hw (fun D H1 _ e1 _ x hx => lt_flat (ht x hx H1 (e0.trans e1)) fun h H2 e2 => he x hx h H2 ((e0.trans e1).trans e2)) fun D ys H' hD e h r => q D H' hD e (by rw [h, paired_map r])
theorem filter_SV {l : List Str} {p : Str → Bool} {kp : V → Bool} (h : ∀ z ∈ l, kp (.str z) = p z) : (SV l).filter kp = SV (l.filter p) := by
  induction l with
  | nil => rfl
  | cons y l ih =>
    have e1 := h y (by simp)
    have e2 := ih fun z hz => h z (by simp [hz])
    show ((V.str y) :: SV l).filter kp = _
    rw [List.filter_cons, List.filter_cons, e1, e2]
    cases p y <;> rfl
def stV (v : V) : Str := match v with
  | .str z => z
  | _ => ""
theorem lc_strV {a : Addr} {l : List Str} (hl : Ev tl σ H (.ref a)) (hx : SqL K H a (SV l)) (keep : Str → Bool) (f : Str → V) (hlen : l.length ≤ 1000000) (hw : ∀ x, wipe ((wipe σ vs).set i (some x)) vs = wipe σ vs)
    (ht : ∀ z ∈ l, ∀ H1, Ex H H1 → EvT tt ((wipe σ vs).set i (some (.str z))) H1 (keep z)) (he : ∀ z ∈ l, keep z = true → ∀ H1, Ex H H1 → Ev te ((wipe σ vs).set i (some (.str z))) H1 (f z)) :
    EvL (tLc (iList K tl) (gName i) tt te vs) σ H ((l.filter keep).map f) := by
  have h := lc_flatV (K := K) (tt := tt) (te := te) (i := i) (vs := vs) hl hx (fun v => keep (stV v)) (fun v => f (stV v)) (by rw [List.length_map]; exact hlen) hw (fun x hx => by
    obtain ⟨z, hz, rfl⟩ := List.mem_map.mp hx
    exact ht z hz) (fun x hx => by
    obtain ⟨z, hz, rfl⟩ := List.mem_map.mp hx
    exact he z hz)
  rw [filter_SV (p := keep) fun z _ => rfl, List.map_map] at h
  exact h
theorem lc_strE {l : List Str} (hl : EvL tl σ H (SV l)) (keep : Str → Bool) (f : Str → V) (hlen : l.length ≤ 1000000) (hw : ∀ x, wipe ((wipe σ vs).set i (some x)) vs = wipe σ vs)
    (ht : ∀ z ∈ l, ∀ H1, Ex H H1 → EvT tt ((wipe σ vs).set i (some (.str z))) H1 (keep z)) (he : ∀ z ∈ l, keep z = true → ∀ H1, Ex H H1 → Ev te ((wipe σ vs).set i (some (.str z))) H1 (f z)) :
    EvL (tLc (iList K tl) (gName i) tt te vs) σ H ((l.filter keep).map f) := by
  have h := lc_flatE (K := K) (tt := tt) (te := te) (i := i) (vs := vs) hl (fun v => keep (stV v)) (fun v => f (stV v)) (by rw [List.length_map]; exact hlen) hw (fun x hx => by
    obtain ⟨z, hz, rfl⟩ := List.mem_map.mp hx
    exact ht z hz) (fun x hx => by
    obtain ⟨z, hz, rfl⟩ := List.mem_map.mp hx
    exact he z hz)
  rw [filter_SV (p := keep) fun z _ => rfl, List.map_map] at h
  exact h
theorem el_mS {C : Addr} {m : Str} {sp : Sp} {E : L2.St → XK} {to : TE} {ta : TA} {a dx : Addr} {fs : List (Str × V)} {vs zs : List V} (ho : Ev to σ H (.ref a)) (ha : H a = some (.ins C dx fs)) (hl : fs.lookup m = none) (h : EvA ta σ H vs)
    (hs : ∀ H1, Ex H H1 → ∀ Q : VK, (∀ p H2, H1 p = none → Ex H1 H2 → H2 p = some (.lst zs) → Q (.ref p) H2) → sp (.ref a :: vs) H1 Q (E σ)) : EvL (tMethS C m sp E to ta) σ H zs := fun H1 e Q q =>
  ho H1 e _ fun H2 e2 => ⟨a, dx, fs, rfl, e2 _ _ (e _ _ ha), hl, h H2 (e.trans e2) _ fun H3 e3 => hs H3 ((e.trans e2).trans e3) Q fun p H4 hp e4 hz => q p H4 (fresh_back (e2.trans e3) hp) ((e2.trans e3).trans e4) hz⟩
theorem ev_all {tx : TE} {bs : List Bool} (h : EvL tx σ H (bs.map V.bl)) : Ev (tCB (rAll K) (tCons tx tNil)) σ H (.bl (bs.all id)) := fun H1 e Q q =>
  h H1 e _ fun p H2 hp e2 h2 => ⟨p, bs, rfl, sq_of h2, q H2 e2⟩
theorem ev_bl {te : TE} {b c : Bool} (h : Ev te σ H (.bl b)) (e : b = c) : Ev te σ H (.bl c) := e ▸ h
end
theorem mergeK_app : ∀ (more acc : List (Key × V)), ((acc ++ more).map (·.1)).Nodup → mergeK acc more = acc ++ more
  | [], acc, _ => by simp [mergeK]
  | kv :: more, acc, h => by
    have h0 : valV acc kv.1 = none := by
      cases e : valV acc kv.1 with
      | none => rfl
      | some v =>
        have hm := valV_in e
        rw [List.map_append, List.map_cons] at h
        exact absurd rfl ((List.nodup_append.mp h).2.2 kv.1 hm kv.1 List.mem_cons_self)
    have ih := mergeK_app more (acc ++ [kv]) (by rw [List.append_assoc]; exact h)
    show mergeK (putK acc kv.1 kv.2) more = _
    rw [putK_new _ h0]
    show mergeK (acc ++ [kv]) more = _
    rw [ih, List.append_assoc]
    rfl
theorem mergeK_nil {kvs : List (Key × V)} (h : (kvs.map (·.1)).Nodup) : mergeK [] kvs = kvs := mergeK_app kvs [] h
theorem valV_mem : ∀ {kvs : List (Key × V)} {k : Key} {v : V}, (kvs.map (·.1)).Nodup → (k, v) ∈ kvs → valV kvs k = some v
  | [], k, v, _, h => by cases h
  | p :: r, k, v, nd, h => by
    rw [List.map_cons, List.nodup_cons] at nd
    rcases List.mem_cons.mp h with e | h
    · rw [← e]; exact valV_pos rfl
    · rw [valV_neg, valV_mem nd.2 h]
      intro e
      exact nd.1 (by rw [e]; exact List.mem_map.mpr ⟨_, h, rfl⟩)
end WB
namespace WB
open PySem PySem.Spec PyProof.Rows L2
open Evl hiding Ex
theorem sub_st_di : isSubtype (.type "str") (.type "dict") = pure false := by rw [isSubtype_type]; kernel_rfl
theorem sub_di_st : isSubtype (.type "dict") (.type "str") = pure false := by rw [isSubtype_type]; kernel_rfl
abbrev diO (dd : Option Addr) (es : Array DictEntry) (ep : Nat) (sl : Array (Option Value)) : Obj := { cls := .type "dict", dict := dd, data := .dict es ep, slots := sl }
theorem de_declines (l : Addr) (dd : Option Addr) (es : Array DictEntry) (ep : Nat) (sl : Array (Option Value)) (b : Str) (u : Tok) : Meets (Builtin.«dict.__eq__» ⟨[.ref l, .str b u], []⟩) (fun _ R s => s.heap.get? l = some (diO dd es ep sl) ∧ R (.ok (.ret .notImplemented)) s) :=
  .of_wp fun prog w A R s h => by
    obtain ⟨hp, g, d, tk, os⟩ := s
    obtain ⟨hl, h⟩ := h
    have f1 := sub_st_di
    wp_walk using wpAny_loadPart' hl
    exact ⟨_, rfl, h⟩
theorem se_declines (l : Addr) (dd : Option Addr) (es : Array DictEntry) (ep : Nat) (sl : Array (Option Value)) (b : Str) (u : Tok) : Meets (Builtin.«str.__eq__» ⟨[.str b u, .ref l], []⟩) (fun _ R s => s.heap.get? l = some (diO dd es ep sl) ∧ R (.ok (.ret .notImplemented)) s) :=
  .of_wp fun prog w A R s h => by
    obtain ⟨hp, g, d, tk, os⟩ := s
    obtain ⟨hl, h⟩ := h
    wp_walk using wpAny_loadPart' hl, wpAny_load hl
    exact ⟨_, rfl, h⟩
section
variable {A : Around} {s : Shared} {l : Addr} {dd : Option Addr} {es : Array DictEntry} {ep : Nat} {sl : Array (Option Value)}
theorem rc_di_st (b : Str) (u : Tok) (ho : s.heap.get? l = some (diO dd es ep sl)) (hu : A.units < cLine) : SeqAt.RcAt A s (.ref l) (.str b u) false := fun prog w E Q h =>
  SeqAt.rc_eq_decline_or (k := false) ⟨_, ho, rfl⟩ (typeIs_str s b u) (by decide) sub_st_di PySem.F.slot_dict_eq F.slot_str_eq_refl
    (fun _ hq => call_meets PySem.F.slot_dict_eq ⟨_, ho, rfl⟩ PySem.F.entry_dict_eq (PySem.F.args_dict_eq_2 _ _) (de_declines l dd es ep sl b u) ⟨ho, hq⟩)
    (fun _ hq => call_meets F.slot_str_eq_refl (typeIs_str s b u) F.entry_str_eq (F.args_str_eq_2 _ _) (se_declines l dd es ep sl b u) ⟨ho, hq⟩)
    (fun _ hq => wpAny_of_eq (rfl : isSame (.ref l) (.str b u) = pure false) hq) (.inr hu) h
theorem rc_st_di (b : Str) (u : Tok) (ho : s.heap.get? l = some (diO dd es ep sl)) (hu : A.units < cLine) : SeqAt.RcAt A s (.str b u) (.ref l) false := fun prog w E Q h =>
  SeqAt.rc_eq_decline_or (k := false) (typeIs_str s b u) ⟨_, ho, rfl⟩ (by decide) sub_di_st F.slot_str_eq PySem.F.slot_dict_eq_refl
    (fun _ hq => call_meets F.slot_str_eq (typeIs_str s b u) F.entry_str_eq (F.args_str_eq_2 _ _) (se_declines l dd es ep sl b u) ⟨ho, hq⟩)
    (fun _ hq => call_meets PySem.F.slot_dict_eq_refl ⟨_, ho, rfl⟩ PySem.F.entry_dict_eq (PySem.F.args_dict_eq_2 _ _) (de_declines l dd es ep sl b u) ⟨ho, hq⟩)
    (fun _ hq => wpAny_of_eq (rfl : isSame (.str b u) (.ref l) = pure false) hq) (.inr hu) h
theorem eq_st_di (b : Str) (u : Tok) (ho : s.heap.get? l = some (diO dd es ep sl)) (hu : A.units < cLine) : SeqAt.EqAt A s (.str b u) (.ref l) false := fun prog w E Q h => by
  unfold eqBool
  refine wpAny_holding (wpAny_ite_split (fun hab => absurd (eq_of_beq hab) nofun) fun _ => ?_)
  exact wpAny_bind (rc_st_di b u ho hu prog w E _ (wpAny_truthy_bool h))
end
mutual
inductive Dq (K : Fr) (H : Hp) : V → PyData → Prop
  | non : Dq K H .non .none
  | bl (b : Bool) : Dq K H (.bl b) (.bool b)
  | int (i : Int) : Dq K H (.int i) (.int i)
  | str (x : Str) : Dq K H (.str x) (.str x)
  | lst {a : Addr} {xs : List V} {ds : List PyData} : H a = some (.lst xs) → DqAll K H xs ds → Dq K H (.ref a) (.list ds)
  | tup {a : Addr} {xs : List V} {ds : List PyData} : H a = some (.tup xs) → DqAll K H xs ds → Dq K H (.ref a) (.tuple ds)
  | dic {a : Addr} : H a = some (.dK []) → Dq K H (.ref a) (.dict [])
inductive DqAll (K : Fr) (H : Hp) : List V → List PyData → Prop
  | nil : DqAll K H [] []
  | cons {v : V} {vs : List V} {d : PyData} {ds : List PyData} : Dq K H v d → DqAll K H vs ds → DqAll K H (v :: vs) (d :: ds)
end
mutual
theorem Dq.mono {K : Fr} {H H' : Hp} (e : Ex H H') : ∀ {v : V} {d : PyData}, Dq K H v d → Dq K H' v d
  | _, _, .non => .non
  | _, _, .bl b => .bl b
  | _, _, .int i => .int i
  | _, _, .str x => .str x
  | _, _, .lst h t => .lst (e _ _ h) (DqAll.mono e t)
  | _, _, .tup h t => .tup (e _ _ h) (DqAll.mono e t)
  | _, _, .dic h => .dic (e _ _ h)
theorem DqAll.mono {K : Fr} {H H' : Hp} (e : Ex H H') : ∀ {vs : List V} {ds : List PyData}, DqAll K H vs ds → DqAll K H' vs ds
  | _, _, .nil => .nil
  | _, _, .cons h t => .cons (Dq.mono e h) (DqAll.mono e t)
end
def eqZ (z : Str) : PyData → Bool
  | .str y => decide (y = z)
  | _ => false
def eqZU (d : PyData) : Value → Bool
  | .str y _ => eqZ y d
  | _ => false
section
variable {X : Cx} {pins : List (Addr × Obj)} {σ : L2.St} {H : Hp} {s : Shared}
theorem dK_nil (I : Inv X pins σ H s) {a : Addr} (h : H a = some (.dK [])) : (a == sysModules) = false ∧ ∃ dd es ep sl, s.heap.get? a = some (diO dd es ep sl) ∧ es.toList = [] := by
  obtain ⟨_, ya, va, ra, da⟩ := (show ObjOk X.prog X.w H s.heap a (.dK []) from I.hok a _ h)
  cases ra
  obtain ⟨⟨cls, dd, data, sl⟩, es, ep, ho, ⟨hc, hd, hs⟩, hdata, _, hp, _⟩ := da
  dsimp only at hc hd hs hdata
  subst hc hd hs hdata
  refine ⟨ya, _, es, ep, _, ho, ?_⟩
  generalize es.toList = l at hp
  cases hp
  rfl
theorem st_eq {A : Around} (I : Inv X pins σ H s) (hu : A.units < cLine) {x : V} {d : PyData} {v : Value} (h : Dq X.K H x d) (r : RelV x v) (y : Str) (t : Tok) : SeqAt.EqAt A s (.str y t) v (eqZ y d) := by
  cases h with
  | non => cases r; exact SeqAt.EqAt.str_none y t
  | bl b => cases r; exact SeqAt.EqAt.str_bool y t b
  | int i => obtain ⟨u, rfl⟩ := r; exact SeqAt.EqAt.str_int y t i u
  | str z =>
    obtain ⟨u, rfl⟩ := r
    have e : eqZ y (.str z) = (y == z) := by
      show decide (z = y) = (y == z)
      by_cases h : z = y
      · subst h; simp
      · rw [decide_eq_false h]; exact (beq_eq_false_iff_ne.mpr fun e => h e.symm).symm
    rw [e]
    exact SeqAt.EqAt.str_str y t z u
  | lst ha _ =>
    cases r
    obtain ⟨its, _, hl, _⟩ := I.list (sq_of ha)
    exact SeqAt.EqAt.str_list y t hl.isList hu
  | tup ha _ =>
    cases r
    obtain ⟨its, _, hl, _⟩ := I.tuple (st_of ha)
    exact SeqAt.EqAt.str_tuple y t hl hu
  | dic ha =>
    cases r
    obtain ⟨_, dd, es, ep, sl, ho, _⟩ := dK_nil I ha
    exact eq_st_di y t ho hu
theorem q_st {A : Around} (I : Inv X pins σ H s) (hu : A.units < cLine) {x : V} {d : PyData} {v : Value} (h : Dq X.K H x d) (r : RelV x v) (y : Str) (t : Tok) : SeqAt.RcAt A s v (.str y t) (eqZ y d) := by
  cases h with
  | non => cases r; exact SeqAt.RcAt.none_str y t
  | bl b => cases r; exact SeqAt.RcAt.bool_str b y t
  | int i => obtain ⟨u, rfl⟩ := r; exact SeqAt.RcAt.int_str i u y t
  | str z =>
    obtain ⟨u, rfl⟩ := r
    have e : eqZ y (.str z) = (z == y) := by
      show decide (z = y) = (z == y)
      by_cases h : z = y
      · subst h; simp
      · rw [decide_eq_false h]; exact (beq_eq_false_iff_ne.mpr h).symm
    rw [e]
    exact SeqAt.RcAt.str_str z u y t
  | lst ha _ =>
    cases r
    obtain ⟨its, _, hl, _⟩ := I.list (sq_of ha)
    exact SeqAt.RcAt.list_str y t hl.isList hu
  | tup ha _ =>
    cases r
    obtain ⟨its, _, hl, _⟩ := I.tuple (st_of ha)
    exact SeqAt.RcAt.tuple_str y t hl hu
  | dic ha =>
    cases r
    obtain ⟨_, dd, es, ep, sl, ho, _⟩ := dK_nil I ha
    exact rc_di_st y t ho hu
theorem st_items {A : Around} (I : Inv X pins σ H s) (hu : A.units < cLine) {x : V} {d : PyData} {v : Value} (h : Dq X.K H x d) (r : RelV x v) : ∀ {l : List Str} {us : List Value}, Vals (SV l) us → (∀ u ∈ us, SeqAt.EqAt A s u v (eqZU d u)) ∧ us.any (eqZU d) = l.any fun y => eqZ y d
  | [], _, .nil => ⟨fun u hu => (by cases hu), rfl⟩
  | y :: l, u :: us, .cons ry t => by
    obtain ⟨tk, rfl⟩ := ry
    obtain ⟨i1, i2⟩ := st_items I hu h r t
    refine ⟨fun u hu' => ?_, ?_⟩
    · rcases List.mem_cons.mp hu' with e | hu'
      · rw [e]; exact st_eq I hu h r y tk
      · exact i1 u hu'
    · rw [List.any_cons, List.any_cons, i2]
      rfl
end
def rInQ (K : Fr) (neg : Bool) : R2 := fun x y H Q => ∃ (p : Addr) (l : List Str) (d : PyData), y = .ref p ∧ SqL K H p (SV l) ∧ Dq K H x d ∧ Q (.bl (if neg = true then !l.any (fun z => eqZ z d) else l.any fun z => eqZ z d)) H
def rEqQ (K : Fr) : R2 := fun x y H Q => ∃ (z : Str) (d : PyData), y = .str z ∧ Dq K H x d ∧ Q (.bl (eqZ z d)) H
def rNeNil (K : Fr) : R2 := fun x y H Q => ∃ (p q : Addr) (xs : List V), x = .ref p ∧ y = .ref q ∧ SqL K H p xs ∧ SqL K H q [] ∧ Q (.bl (decide (xs ≠ []))) H
def rEqNil (K : Fr) : R2 := fun x y H Q => ∃ (p q : Addr) (xs : List V), x = .ref p ∧ y = .ref q ∧ SqL K H p xs ∧ SqL K H q [] ∧ Q (.bl (decide (xs = []))) H
section
variable {X : Cx}
theorem op_inQ (hu : X.A.units + 64 < cLine) : OpR X (compareOp .In) (rInQ X.K false) := by
  intro pins s σ H x y v u Q I rx ry h
  obtain ⟨p, l, d, rfl, hq, hd, q⟩ := h
  cases ry
  obtain ⟨its, rv, hl, _⟩ := I.list hq
  obtain ⟨i1, i2⟩ := st_items (A := X.A.in1) I (by show X.A.units + 1 < cLine; omega) hd rx rv
  refine SeqAt.in_listAt (eqZU d) hl.isList (fun z hz => i1 z (by simpa using hz)) ⟨.bl _, H, I, rfl, ?_⟩
  rw [show its.toArray.any (eqZU d) = its.any (eqZU d) by simp, i2]
  exact q
theorem op_niQ (hu : X.A.units + 64 < cLine) : OpR X (compareOp .NotIn) (rInQ X.K true) := by
  intro pins s σ H x y v u Q I rx ry h
  obtain ⟨p, l, d, rfl, hq, hd, q⟩ := h
  cases ry
  obtain ⟨its, rv, hl, _⟩ := I.list hq
  obtain ⟨i1, i2⟩ := st_items (A := X.A.in1) I (by show X.A.units + 1 < cLine; omega) hd rx rv
  refine SeqAt.notIn_listAt (eqZU d) hl.isList (fun z hz => i1 z (by simpa using hz)) ⟨.bl _, H, I, rfl, ?_⟩
  rw [show its.toArray.any (eqZU d) = its.any (eqZU d) by simp, i2]
  exact q
theorem op_eqQ (hu : X.A.units + 64 < cLine) : OpR X (compareOp .Eq) (rEqQ X.K) := by
  intro pins s σ H x y v u Q I rx ry h
  obtain ⟨z, d, rfl, hd, q⟩ := h
  obtain ⟨t, rfl⟩ := ry
  exact q_st I (by omega) hd rx z t _ _ _ _ ⟨.bl _, H, I, rfl, q⟩
theorem op_neNil (hu : X.A.units + 64 < cLine) : OpR X (compareOp .NotEq) (rNeNil X.K) := by
  intro pins s σ H x y v u Q I rx ry h
  obtain ⟨p, q0, xs, rfl, rfl, hp, hq, q⟩ := h
  cases rx
  cases ry
  obtain ⟨its, rv, hl, _⟩ := I.list hp
  obtain ⟨its2, rv2, hl2, _⟩ := I.list hq
  cases rv2
  by_cases e : xs = []
  · subst e
    cases rv
    refine SeqAt.RcNeAt.lists (e := fun _ => true) hl.isList hl2.isList rfl (by omega) (fun j h1 h2 => absurd h1 (by simp)) _ _ _ _ ?_
    exact ⟨.bl false, H, I, rfl, q⟩
  · refine SeqAt.RcNeAt.lists_lengths hl.isList hl2.isList ?_ (by omega) _ _ _ _ ⟨.bl true, H, I, rfl, ?_⟩
    · have : its.length ≠ 0 := by
        rw [← rv.length]
        intro h0
        exact e (List.length_eq_zero_iff.mp h0)
      simpa using this
    · rw [decide_eq_true e] at q
      exact q
theorem op_eqNil (hu : X.A.units + 64 < cLine) : OpR X (compareOp .Eq) (rEqNil X.K) := by
  intro pins s σ H x y v u Q I rx ry h
  obtain ⟨p, q0, xs, rfl, rfl, hp, hq, q⟩ := h
  cases rx
  cases ry
  obtain ⟨its, rv, hl, _⟩ := I.list hp
  obtain ⟨its2, rv2, hl2, _⟩ := I.list hq
  cases rv2
  by_cases e : xs = []
  · subst e
    cases rv
    refine SeqAt.RcAt.lists (e := fun _ => true) hl.isList hl2.isList rfl (by omega) (fun j h1 h2 => absurd h1 (by simp)) _ _ _ _ ?_
    exact ⟨.bl true, H, I, rfl, q⟩
  · refine SeqAt.RcAt.lists_lengths hl.isList hl2.isList ?_ (by omega) _ _ _ _ ⟨.bl false, H, I, rfl, ?_⟩
    · have : its.length ≠ 0 := by
        rw [← rv.length]
        intro h0
        exact e (List.length_eq_zero_iff.mp h0)
      simpa using this
    · rw [decide_eq_false e] at q
      exact q
end
end WB
namespace WB
open PySem PySem.Spec PyProof.Rows L2
open Evl hiding Ex
def sysB (K : Fr) : Bool := match K.lookup sysModules with
  | some o => o.cls == .type "dict"
  | none => false
section
variable {X : Cx} {pins : List (Addr × Obj)} {σ : L2.St} {H : Hp} {s : Shared}
theorem not_sys (I : Inv X pins σ H s) (hB : sysB X.K = true) {a : Addr} {o : Obj} (h : s.heap.get? a = some o) (hc : o.cls = .type "list") : a ≠ sysModules := by
  rintro rfl
  unfold sysB at hB
  split at hB
  · rename_i o' ho'
    rw [I.kIn _ _ ho'] at h
    cases h
    rw [hc] at hB
    exact absurd hB (by decide)
  · cases hB
mutual
theorem Dq.reads (I : Inv X pins σ H s) (hB : sysB X.K = true) : ∀ {v : V} {d : PyData} {u : Value}, Dq X.K H v d → RelV v u → ∃ as, Reads s.heap u d as ∧ sysModules ∉ as
  | _, _, _, .non, r => by cases r; exact ⟨_, .none, by simp⟩
  | _, _, _, .bl b, r => by cases r; exact ⟨_, .bool b, by simp⟩
  | _, _, _, .int i, r => by obtain ⟨t, rfl⟩ := r; exact ⟨_, .int i t, by simp⟩
  | _, _, _, .str x, r => by obtain ⟨t, rfl⟩ := r; exact ⟨_, .str x t, by simp⟩
  | _, _, _, .lst ha hd, r => by
    cases r
    obtain ⟨its, rv, ⟨o, n, ho, hc, _, hdd⟩, _⟩ := I.list (sq_of ha)
    obtain ⟨as, hr, hs⟩ := DqAll.reads I hB hd rv
    refine ⟨_, .list ho hc hdd hr, fun hm => ?_⟩
    rcases List.mem_cons.mp hm with e | hm
    · exact not_sys I hB ho hc e.symm
    · exact hs hm
  | _, _, _, .tup ha hd, r => by
    cases r
    obtain ⟨its, rv, ⟨o, ho, hc, n, hdd⟩, _⟩ := I.tuple (st_of ha)
    obtain ⟨as, hr, hs⟩ := DqAll.reads I hB hd rv
    exact ⟨_, .tuple ho hc hdd hr, hs⟩
  | _, _, _, .dic (a := a) ha, r => by
    cases r
    obtain ⟨ya, dd, es, ep, sl, ho, he⟩ := dK_nil I ha
    refine ⟨_, .dict ho rfl rfl (by rw [he]; exact .nil) (by rw [he]; exact .nil), fun hm => ?_⟩
    have e : a = sysModules := by simpa [eq_comm] using hm
    rw [e] at ya
    simp at ya
theorem DqAll.reads (I : Inv X pins σ H s) (hB : sysB X.K = true) : ∀ {vs : List V} {ds : List PyData} {us : List Value}, DqAll X.K H vs ds → Vals vs us → ∃ as, ReadsAll s.heap us ds as ∧ sysModules ∉ as
  | _, _, _, .nil, .nil => ⟨_, .nil, by simp⟩
  | _, _, _, .cons h t, .cons r rs => by
    obtain ⟨as, h1, h2⟩ := Dq.reads I hB h r
    obtain ⟨bs, h3, h4⟩ := DqAll.reads I hB t rs
    exact ⟨_, .cons h1 h3, fun hm => (List.mem_append.mp hm).elim h2 h4⟩
end
end
def rReprQ (K : Fr) : List V → Hp → VK → Prop := fun xs H Q => ∃ (x : V) (d : PyData), xs = [x] ∧ Dq K H x d ∧ d.showable = true ∧ d.shown.length ≤ sizeLine ∧ d.depth ≤ 60 ∧ Q (.str d.shown) H
theorem call_reprQ {X : Cx} (hg : X.A.guards = some []) (hu : X.A.units + 64 < cLine) (hB : sysB X.K = true) : CallR X (.builtin "repr") (rReprQ X.K) := by
  intro pins s σ H xs us Q I r h
  obtain ⟨x, d, rfl, hd, hs, hl, hdp, q⟩ := h
  obtain ⟨u, rfl, ru⟩ := r.one
  obtain ⟨as, hr, hsm⟩ := Dq.reads I hB hd ru
  have fin : ∀ (a : Addr), u = .ref a → wpAny (model X.prog X.w) X.A (call (.builtin "repr") [u]) (EP X pins σ Q) X.xe s := fun a e => by
    subst e
    exact repr_of_reads' hr hs (fun _ => hsm) hg (by omega) (fun _ _ z => z) (fun h' u tk hk => ⟨.str d.shown, H, I.kept hk, ⟨_, rfl⟩, q⟩) hl
  cases hd with
  | non => cases ru; exact PySem.P.repr_of_none ⟨.str _, H, I.tok _, ⟨_, rfl⟩, q⟩
  | bl b => cases ru; exact PySem.P.repr_of_bool ⟨.str _, H, I.tok _, ⟨_, rfl⟩, q⟩
  | int i => obtain ⟨t, rfl⟩ := ru; exact PySem.P.repr_of_int (of_decide_eq_true hs) ⟨.str _, H, I.tok _, ⟨_, rfl⟩, q⟩
  | str z => obtain ⟨t, rfl⟩ := ru; exact PySem.P.repr_of_str ⟨.str _, H, I.tok _, ⟨_, rfl⟩, q⟩ hl
  | lst ha _ => cases ru; exact fin _ rfl
  | tup ha _ => cases ru; exact fin _ rfl
  | dic ha => cases ru; exact fin _ rfl
end WB
namespace WB
open PySem PySem.Spec PyProof.Rows L2
open Evl hiding Ex
structure FnG (P : Program) (w : World) (K : Fr) (mg : Str → Option Value) (base : Heap) (k : Nat) (f : Addr) (fd : FuncData) (ps : List Str) (sp : Sp) : Prop where
  len : ∀ vs H Q E, sp vs H Q E → vs.length = ps.length
  run : ∀ (A : Around) (outer : List Env) (s : Shared) (H : Hp) (args : Args) (us : List Value) (vs : List V) (Q : VK) (E : XK), A.guards = some [] → Room k A → Env0 P w K mg base A outer s H → BindsTo s fd args (ps.zip us) → Vals vs us → sp vs H Q E →
    codeAny (model P w) A (.call (.ref f) args) (CR CX0 outer P w H s Q E) s
theorem cells_kind {N ps : List Str} {scope : Scope} (S : FnScope N ps scope) {us : List Value} {n : Nat} : ∀ y ∈ ps.zip us, scope.names.lookup y.1 = some .local ∨ (scope.names.lookup y.1 = some .cell ∧ ((cellsFrom n scope.names []).lookup y.1).isSome = true) := by
  rintro ⟨a, b⟩ hy
  cases S.par a (List.of_mem_zip hy).1 with
  | inl h => exact Or.inl h
  | inr h => exact Or.inr ⟨h, PySem.W.cellsFrom_some _ _ _ (Or.inl h)⟩
theorem funG {P : Program} {w : World} {K : Fr} {mg : Str → Option Value} {base : Heap} {x qual : Str} {params : Arguments} {body : List Stmt} {scope : Scope} {dvs : List V} {kws : List (Str × V)} {f : Addr} {fd : FuncData} {N ps : List Str} {k : Nat} {sp : Sp}
    (F : FunD K x qual params body scope dvs kws f fd) (S : FnScope N ps scope) (len : ∀ vs H Q E, sp vs H Q E → vs.length = ps.length)
    (hbody : ∀ (cdv : Value) (A : Around) (outer : List Env) (s : Shared) (H : Hp) (vs : List V) (Q : VK) (E : XK), A.guards = some [] → Room k (A.deeper (envOfC qual scope s.heap.objs.size f cdv)) → sp vs H Q E →
      ∃ t, PSs (cxOf CX0 P w K mg base N qual scope f cdv A outer s H E) body t ∧ t { nx := fun _ H' => Q .non H', rt := Q } (L2.start N vs) H) : FnG P w K mg base (k + 1) f fd ps sp := by
  obtain ⟨oc, od, dV, kV, doc, pm, an, cdv, ct, osl, rfl, lk, hcd, _, _⟩ := F.ex
  constructor
  · exact len
  intro A outer s H args us vs Q E hg hr e0 hb r hsp
  have hl := len _ _ _ _ hsp
  have kin : K.In s.heap := by
    refine e0.mod.kin.keeps ?_
    intro b o e
    exact (e0.bs b o e).1
  have lim : s.heap.NoLimit := by
    refine e0.mod.nolimit.keeps ?_
    intro b o e
    exact (e0.bs b o e).1
  refine codeAny_call_function hr.depth (kin _ _ lk) rfl S.co S.gen rfl (PySem.W.codeRec_of kin hcd) (hb _ _ _ _ (wpAny_newFunctionEnv_cells S.kind (cells_kind S) ?_))
  intro env he s1 x1
  subst he
  refine And.intro (lim.keeps x1.toInCall.keep) (codeAny_func ?_)
  obtain ⟨t, ht, hq⟩ := hbody cdv A outer s H vs Q E hg (hr.deeper _) hsp
  refine wpAny_mono (ht.run [] s1 (L2.start N vs) H _ (inv_start S hr.hd e0 hl r x1) hq) ?_ fun _ _ z => z
  intro fl s' hs
  cases fl with
  | next =>
    obtain ⟨σ', H', J, q⟩ := hs
    exact ⟨V.non, H', J.os, J.bare, J.base, J.hok, rfl, q⟩
  | ret u =>
    obtain ⟨v, σ', H', J, rv, q⟩ := hs
    exact ⟨v, H', J.os, J.bare, J.base, J.hok, rv, q⟩
  | brk => obtain ⟨_, _, _, q⟩ := hs; exact q.elim
  | cont => obtain ⟨_, _, _, q⟩ := hs; exact q.elim
def CalG (P : Program) (w : World) (K : Fr) (mg : Str → Option Value) (base : Heap) (k : Nat) (x : Str) (ps : List Str) (sp : Sp) : Prop :=
  ∃ f fd, FnG P w K mg base k f fd ps sp ∧ mg x = some (.ref f) ∧ PySem.W.keepIn K (.ref f) = true ∧ Binds K fd ps []
section
variable {X : Cx} {k j : Nat} {ps : List Str} {sp : Sp} {x : Str} {p pos : Pos} {e : Expr} {es : List Expr} {t : TA}
theorem pe_wcallG (c : CalG X.prog X.w X.K X.mg X.base k x ps sp) (hgu : X.A.guards = some []) (hr : Room j X.A) (hk : k ≤ j) (ha : PA X (e :: es) t) (hg : Gl X x := by rfl)
    (hdb : (x == ("__debug__" : Str)) = false := by decide) (he : starEach (e :: es) X.env = (false, eval e X.env) :: starEach es X.env := by rfl) (hpl : (backTo pos (starEach es X.env)).any (·.1) = false := by rfl) :
    PE X (.Call (.Name x p) (e :: es) [] pos) (tCallS sp (fun _ => E0) t) := by
  obtain ⟨f, fd, F, hm, hkp, hb⟩ := c
  constructor
  intro pins s σ H Q I h
  refine wpAny_Call_Name_kw (ld_glob I hg hm ?_ hdb)
  refine PySem.W.callWith_K (h₀ := X.base) I.ok.mod.kin hkp (thn (ha.run pos pins _ σ H _ (I.tok _) h) ?_) he hpl
  rintro us s1 ⟨vs, H1, I1, r, q⟩
  refine And.intro I1.kIn ?_
  have hl : us.length = ps.length := r.length.symm.trans (F.len _ _ _ _ q)
  have b := hb s1 us I1.kIn ((List.append_nil us).symm ▸ hl)
  rw [List.append_nil] at b
  refine wpAny_call (codeAny_mono (F.run X.A X.stack s1 H1 ⟨us, []⟩ us vs Q E0 hgu (hr.mono hk) I1.env0 b r q) ?_)
  intro r s' hq
  match r, hq with
  | .error er, hq => exact hq.elim
  | .ok (.ret u), hq => exact I1.after hq
  | .ok .next, hq => exact hq.elim
  | .ok .brk, hq => exact hq.elim
  | .ok .cont, hq => exact hq.elim
end
section
variable {P : Program} {w : World} {K : Fr} {mg mb : Str → Option Value} {k : Nat} {fa a : Addr} {fd : FuncData} {x : Str} {sp : Sp} {s1 : Shared} {vs : List Value} {ns : List Int}
def onlyA (H : Hp) (a : Addr) (K : Fr) : Prop := (∀ b, H b ≠ none → b = a ∧ K.lookup a = none) ∧ ∀ b, H b = none ∨ ∃ o xs, H b = some (.frz o (.lst xs))
theorem law_core (KX : K.In s1.heap) (hns : s1.heap.Ns mainGlobals mg) (hb : s1.heap.Ns builtinsNs mb) (hbb : ∀ x : Str, x ≠ "__name__" → mb x = bootBuiltins x) (hlim : s1.heap.NoLimit) (hg : s1.gens = #[])
    (ha : s1.heap.get? a = some { cls := .type "list", data := .seq vs.toArray }) (hr : Room k callerA) (F : ∀ base : Heap, K.In base → base.Ns mainGlobals mg → FnG P w K mg base k fa fd [x] sp)
    (hbind : ∀ (s : Shared) (u : Value), BindsTo s fd ⟨[u], []⟩ [(x, u)]) {H : Hp} (hO : onlyA H a K) (hok : HOk P w H s1.heap) (hsp : sp [.ref a] H (fun v _ => v = .bl true) fun _ _ _ => False) :
    codeAny (model P w) callerA (.call (.ref fa) ⟨[.ref a], []⟩) (fun r s' => r = .ok (.ret (.bool true)) ∧ OldK s1.heap s'.heap ∧ s'.os = s1.os ∧ AllBare s'.gens) s1 := by
  have hid : ∀ {b : Addr} {o : Obj}, s1.heap.get? b = some o → b ≠ a ∨ K.lookup a ≠ none → (hidT s1.heap H).get? b = some o := by
    intro b o e h
    refine hidT_get e ?_
    cases q : H b with
    | none => rfl
    | some u =>
      have z := hO.1 b (by rw [q]; exact nofun)
      exact (h.elim (fun n => (n z.1).elim) fun n => (n z.2).elim)
  have ns2 : ∀ {b : Addr} {m : Str → Option Value}, s1.heap.Ns b m → (hidT s1.heap H).Ns b m := by
    rintro b m ⟨o, es, ep, e, d, r⟩
    refine ⟨o, es, ep, hid e (Or.inl ?_), d, r⟩
    intro z
    rw [z, ha] at e
    obtain rfl := Option.some.inj e
    exact Data.noConfusion d
  have kin2 : K.In (hidT s1.heap H) := by
    intro b o e
    refine hid (KX b o e) ?_
    by_cases z : b = a
    · right
      rw [← z, e]
      exact nofun
    · exact Or.inl z
  have md : Mod K mg (hidT s1.heap H) := by
    obtain ⟨mc, h1, h2⟩ := hlim
    exact ⟨kin2, ns2 hns, ⟨mb, ns2 hb, hbb⟩, ⟨mc, ns2 h1, h2⟩⟩
  have env0 : Env0 P w K mg (hidT s1.heap H) callerA [] s1 H := by
    refine ⟨rfl, md, fun b o e => of_hidT e, Nat.le_of_eq (hidT_size _ _), trivial, ?_, hok, .of_eq hg⟩
    intro b hb
    exact (List.not_mem_nil hb).elim
  refine codeAny_mono ((F _ kin2 (ns2 hns)).run callerA [] s1 H ⟨[.ref a], []⟩ [.ref a] [.ref a] _ _ rfl hr env0 (hbind s1 (.ref a)) (.cons rfl .nil) hsp) ?_
  intro r s' h
  match r, h with
  | .error e, h => exact h.elim
  | .ok .next, h => exact h.elim
  | .ok .brk, h => exact h.elim
  | .ok .cont, h => exact h.elim
  | .ok (.ret u), ⟨v, H2, os, bare, un, ok2, rv, q⟩ =>
    have q' : v = V.bl true := q
    subst q'
    have ru : u = Value.bool true := rv
    subst ru
    refine And.intro rfl (And.intro (OldK.of_keep ?_) (And.intro os bare))
    intro b o e
    match qb : H b with
    | none => exact un.keep b o e qb (fun z => (List.not_mem_nil z).elim) (List.not_mem_nil)
    | some u =>
      obtain z | ⟨ob, xs, z⟩ := hO.2 b
      · rw [qb] at z
        cases z
      · have g1 := (hok b _ z).1
        have g2 := (ok2 b _ (un.frzs b ob _ z)).1
        rw [e] at g1
        obtain rfl := Option.some.inj g1
        exact g2
theorem law_callG (KX : K.In s1.heap) (hns : s1.heap.Ns mainGlobals mg) (hb : s1.heap.Ns builtinsNs mb) (hbb : ∀ x : Str, x ≠ "__name__" → mb x = bootBuiltins x) (hlim : s1.heap.NoLimit) (hg : s1.gens = #[])
    (ha : s1.heap.get? a = some { cls := .type "list", data := .seq vs.toArray }) (hi : IntsAre vs ns) (hl : ns.length ≤ sizeLine) (hr : Room k callerA) (F : ∀ base : Heap, K.In base → base.Ns mainGlobals mg → FnG P w K mg base k fa fd [x] sp)
    (hbind : ∀ (s : Shared) (u : Value), BindsTo s fd ⟨[u], []⟩ [(x, u)]) (hsp : ∀ H : Hp, SqL K H a (ns.map V.int) → sp [.ref a] H (fun v _ => v = .bl true) fun _ _ _ => False) :
    codeAny (model P w) callerA (.call (.ref fa) ⟨[.ref a], []⟩) (fun r s' => r = .ok (.ret (.bool true)) ∧ OldK s1.heap s'.heap ∧ s'.os = s1.os ∧ AllBare s'.gens) s1 := by
  have rv := vals_ints hi
  match hk : K.lookup a with
  | some o =>
    obtain rfl := Option.some.inj ((KX a o hk).symm.trans ha)
    refine law_core KX hns hb hbb hlim hg ha hr F hbind (H := fun _ => none) ⟨fun b z => (z rfl).elim, fun _ => Or.inl rfl⟩ ?_ (hsp _ (Or.inr ⟨_, vs.toArray, _, hk, rfl, rfl, rfl, ?_, ?_⟩))
    · intro b u z
      have z' : (none : Option HO) = some u := z
      cases z'
    · rw [List.size_toArray, hi.length]
      exact hl
    · rw [show vs.toArray.toList = vs from rfl]
      exact rv
  | none =>
    let o1 : Obj := { cls := .type "list", data := .seq vs.toArray }
    have ho : ∀ b u, (upd (fun _ => none) a (.frz o1 (.lst (ns.map V.int)))) b = some u → b = a ∧ u = .frz o1 (.lst (ns.map V.int)) := by
      intro b u z
      by_cases hba : b = a
      · rw [hba, upd_same] at z
        exact ⟨hba, (Option.some.inj z).symm⟩
      · rw [upd_ne hba] at z
        cases z
    refine law_core KX hns hb hbb hlim hg ha hr F hbind (H := upd (fun _ => none) a (.frz o1 (.lst (ns.map V.int)))) ⟨?_, ?_⟩ ?_ (hsp _ (Or.inl (Or.inr ⟨o1, upd_same⟩)))
    · intro b z
      match q : (upd (fun _ => none) a (.frz o1 (.lst (ns.map V.int)))) b with
      | none => exact (z q).elim
      | some u => exact ⟨(ho b u q).1, hk⟩
    · intro b
      match q : (upd (fun _ => none) a (.frz o1 (.lst (ns.map V.int)))) b with
      | none => exact Or.inl rfl
      | some u => exact Or.inr ⟨o1, _, by rw [(ho b u q).2]⟩
    · intro b u z
      obtain ⟨rfl, rfl⟩ := ho b u z
      exact ⟨ha, by rw [List.length_map]; exact hl, vs, 0, rv, ha⟩
end
end WB
namespace WB
open PySem PySem.Spec PyProof.Rows L2
open Evl hiding Ex
theorem walk_ofG {l : PySem.W.OpenLaw} {n k : Nat} {q : Program} {loose : List Str} {XP : (Str → Option Value) → Heap → Prop} {YP : World → Heap → Prop} {d : DefRec} {x : Str} (hn : l.most = some n) (hn2 : n ≤ sizeLine) (hdf : d.params.defaults = []) (hr : Room k callerA)
    (F : ∀ (w : World) (mg : Str → Option Value) (fa : Addr) (h : Heap), YP w h → h.Ns mainGlobals mg → mg d.name = some (.ref fa) → ∃ (K : Fr) (fd : FuncData) (sp : Sp), K.In h ∧ (∀ (s : Shared) (u : Value), BindsTo s fd ⟨[u], []⟩ [(x, u)]) ∧
      (∀ (H : Hp) (a : Addr) (ns : List Int), ns.length ≤ n → SqL K H a (ns.map V.int) → sp [.ref a] H (fun v _ => v = .bl true) fun _ _ _ => False) ∧ ∀ base : Heap, K.In base → base.Ns mainGlobals mg → FnG l.prog w K mg base k fa fd [x] sp) :
    PySem.W.WalkO q loose XP YP l.row.toRowW d [] (fun f vs => PySem.call f vs) := by
  refine Att.attach_call hn hdf ?_
  intro w s0 s1 mg mb fa o pm cd doc a vs ns G Y ho hd hcd hmg hobj hints hlen hg
  obtain ⟨K, fd, sp, KX, hb, hsp, hF⟩ := F w mg fa _ Y G.T.g hmg
  exact law_callG KX G.T.g G.T.b G.T.builtins G.T.nolimit hg hobj hints (Nat.le_trans hlen hn2) hr hF hb fun H hS => hsp H a ns hlen hS
abbrev rDivMod : List V → Hp → VK → Prop := fun xs H Q => ∃ i j, xs = [.int i, .int j] ∧ CDiv i j ∧ ∀ p, H p = none → Q (.ref p) (upd H p (.tup [.int (i / j), .int (i % j)]))
def rListStr : List V → Hp → VK → Prop := fun xs H Q => ∃ z : Str, xs = [.str z] ∧ z.length ≤ 10000 ∧ ∀ l, H l = none → Q (.ref l) (upd H l (.lst (signsV z)))
theorem vals_signs {x : Str} {acc : List Value} (h : ∀ j v, acc[j]? = some v → SignAt x j v) (hl : acc.length = x.cps.size) : Vals (signsV x) acc := by
  have key : ∀ (l : List Nat) (acc : List Value) (k : Nat), l.length = acc.length → (∀ j c, l[j]? = some c → x.cps[k + j]? = some c) → (∀ j v, acc[j]? = some v → SignAt x (k + j) v) → Vals (l.map fun c => V.str (sgn c)) acc := by
    intro l
    induction l with
    | nil =>
      intro acc k hlen _ _
      cases acc with
      | nil => exact .nil
      | cons => cases hlen
    | cons c l ih =>
      intro acc k hlen hc ha
      cases acc with
      | nil => cases hlen
      | cons v acc =>
        obtain ⟨c', u, hc', rfl⟩ := ha 0 v rfl
        have e0 := hc 0 c rfl
        rw [hc'] at e0
        obtain rfl := Option.some.inj e0
        refine .cons ⟨u, rfl⟩ (ih acc (k + 1) (Nat.succ.inj hlen) (fun j c hj => ?_) fun j v hj => ?_)
        · rw [show k + 1 + j = k + (j + 1) by omega]
          exact hc (j + 1) c hj
        · rw [show k + 1 + j = k + (j + 1) by omega]
          exact ha (j + 1) v hj
  unfold signsV
  refine key _ _ 0 (by rw [hl, Array.length_toList]) (fun j c hj => by rw [Nat.zero_add]; simpa using hj) fun j v hj => by rw [Nat.zero_add]; exact h j v hj
theorem call_listStr {X : Cx} (hc : X.calm = true) : CallR X (.type "list") rListStr := by
  intro pins s σ H xs us Q I r h
  obtain ⟨z, rfl, hz, q⟩ := h
  obtain ⟨u, rfl, t, rfl⟩ := r.one
  refine call_list_str (I.ok.hd hc) z t (fun h' tk acc' c' hk hg hi => ?_) (small_line (by have : z.cps.size = z.length := rfl; omega))
  have hn : H s.heap.objs.size = none := I.hok.fresh (Nat.le_refl _)
  have rv := vals_signs (x := z) (acc := acc'.toList) (fun j v hj => hi.2 j v (by simpa using hj)) (by rw [Array.length_toList]; exact hi.1)
  refine ⟨.ref _, _, I.laid (a := s.heap.objs.size) (o := .lst (signsV z)) hk (Nat.le_refl _) ⟨?_, acc'.toList, c', rv, ?_⟩, rfl, q _ hn⟩
  · unfold signsV
    rw [List.length_map, Array.length_toList]
    exact small_line (by have : z.cps.size = z.length := rfl; omega)
  · rw [hg]
def rLenOwn (C : Addr) (sp : Sp) : List V → Hp → VK → Prop := fun xs H Q => ∃ (a dx : Addr) (fs : List (Str × V)), xs = [.ref a] ∧ H a = some (.ins C dx fs) ∧ sp [.ref a] H (fun v H' => ∃ n : Int, v = .int n ∧ 0 ≤ n ∧ n < 1000000 ∧ Q (.int n) H') E0
theorem call_lenOwn {X : Cx} {C : Addr} {ps : List Str} {k j : Nat} {sp : Sp} (c : Met X.prog X.w X.K X.mg X.base CX0 k C "__len__" ps sp) (hr : Room j X.A) (hk : k + 1 ≤ j) : CallR X (.builtin "len") (rLenOwn C sp) := by
  intro pins s σ H xs us Q I r h
  obtain ⟨a, dx, fs, rfl, ha, hs⟩ := h
  obtain ⟨f, fd, F, _, hm, hb⟩ := c
  obtain ⟨u, rfl, ru⟩ := r.one
  cases ru
  obtain ⟨mA, J, _⟩ := ins_get I.hok ha
  obtain ⟨od, J, _⟩ := J.look
  obtain ⟨m, hF⟩ := I.fr
  refine PySem.W.len_K hF I.ok.mod.kin J hm.at_ hm.fn ?_
  have hl := F.len _ _ _ _ hs
  have e0 : Env0 X.prog X.w X.K X.mg X.base X.A.in1 X.stack s H := I.env0.in1
  have b := hb s [.ref a] I.kIn hl
  rw [List.append_nil] at b
  refine wpAny_call (codeAny_mono (F.run X.A.in1 X.stack s H ⟨[.ref a], []⟩ [.ref a] [.ref a] _ E0 ((hr.mono hk).in1) e0 b (.cons rfl .nil) hs) ?_)
  intro r s' hq
  match r, hq with
  | .error er, hq => exact hq.elim
  | .ok .next, hq => exact hq.elim
  | .ok .brk, hq => exact hq.elim
  | .ok .cont, hq => exact hq.elim
  | .ok (.ret u), hq =>
    obtain ⟨z, H', I', rz, n, rfl, n0, n1, q⟩ := I.after hq
    obtain ⟨t, rfl⟩ := rz
    exact ⟨⟨n0, by omega⟩, .int n, H', I'.tok _, ⟨_, rfl⟩, q⟩
end WB
namespace W81
open PySem PySem.Spec PyProof.Rows L2 LiI WB
def top (i : Nat) : Stmt := PySem.Challenge.pw_walkbox_k81_whole_plans_refused.main.body.getD i (.Pass ⟨0, 0, 0, 0⟩)
abbrev s_NoMap_init : Stmt := inClass (top 3) 0
abbrev N_NoMap_init : List Str := ["self", "what", "who"]
theorem sc_NoMap_init : FnScope N_NoMap_init ["self", "what", "who"] (defScope s_NoMap_init) := ⟨rfl, rfl, rfl, by decide +kernel, rfl, by decide +kernel, by decide +kernel⟩
abbrev s_NoPlan_init : Stmt := inClass (top 4) 0
abbrev N_NoPlan_init : List Str := ["self", "who"]
theorem sc_NoPlan_init : FnScope N_NoPlan_init ["self", "who"] (defScope s_NoPlan_init) := ⟨rfl, rfl, rfl, by decide +kernel, rfl, by decide +kernel, by decide +kernel⟩
abbrev s_is_made_of : Stmt := top 15
abbrev N_is_made_of : List Str := ["thing", "signs", "most", "sign"]
theorem sc_is_made_of : FnScope N_is_made_of ["thing", "signs", "most"] (defScope s_is_made_of) := ⟨rfl, rfl, rfl, by decide +kernel, rfl, by decide +kernel, by decide +kernel⟩
abbrev s_is_name : Stmt := top 16
abbrev N_is_name : List Str := ["thing"]
theorem sc_is_name : FnScope N_is_name ["thing"] (defScope s_is_name) := ⟨rfl, rfl, rfl, by decide +kernel, rfl, by decide +kernel, by decide +kernel⟩
abbrev s_is_word : Stmt := top 17
abbrev N_is_word : List Str := ["thing"]
theorem sc_is_word : FnScope N_is_word ["thing"] (defScope s_is_word) := ⟨rfl, rfl, rfl, by decide +kernel, rfl, by decide +kernel, by decide +kernel⟩
abbrev s_want : Stmt := top 18
abbrev N_want : List Str := ["truth", "what", "who"]
theorem sc_want : FnScope N_want ["truth", "what", "who"] (defScope s_want) := ⟨rfl, rfl, rfl, by decide +kernel, rfl, by decide +kernel, by decide +kernel⟩
abbrev s_want_hosts : Stmt := top 19
abbrev N_want_hosts : List Str := ["hosts", "number", "host"]
theorem sc_want_hosts : FnScope N_want_hosts ["hosts"] (defScope s_want_hosts) := ⟨rfl, rfl, rfl, by decide +kernel, rfl, by decide +kernel, by decide +kernel⟩
abbrev s_want_walkers : Stmt := top 20
abbrev N_want_walkers : List Str := ["hosts", "walkers", "names", "number", "walker", "name", "home"]
theorem sc_want_walkers : FnScope N_want_walkers ["hosts", "walkers"] (defScope s_want_walkers) := ⟨rfl, rfl, rfl, by decide +kernel, rfl, by decide +kernel, by decide +kernel⟩
abbrev s_Map_init : Stmt := inClass (top 21) 0
abbrev N_Map_init : List Str := ["self", "hosts", "walkers"]
theorem sc_Map_init : FnScope N_Map_init ["self", "hosts", "walkers"] (defScope s_Map_init) := ⟨rfl, rfl, rfl, by decide +kernel, rfl, by decide +kernel, by decide +kernel⟩
abbrev s_Map_hosts : Stmt := inClass (top 21) 1
abbrev N_Map_hosts : List Str := ["self"]
theorem sc_Map_hosts : FnScope N_Map_hosts ["self"] (defScope s_Map_hosts) := ⟨rfl, rfl, rfl, by decide +kernel, rfl, by decide +kernel, by decide +kernel⟩
abbrev s_Map_walkers : Stmt := inClass (top 21) 2
abbrev N_Map_walkers : List Str := ["self"]
theorem sc_Map_walkers : FnScope N_Map_walkers ["self"] (defScope s_Map_walkers) := ⟨rfl, rfl, rfl, by decide +kernel, rfl, by decide +kernel, by decide +kernel⟩
abbrev s_Map_has_host : Stmt := inClass (top 21) 3
abbrev N_Map_has_host : List Str := ["self", "name"]
theorem sc_Map_has_host : FnScope N_Map_has_host ["self", "name"] (defScope s_Map_has_host) := ⟨rfl, rfl, rfl, by decide +kernel, rfl, by decide +kernel, by decide +kernel⟩
abbrev s_Map_has_walker : Stmt := inClass (top 21) 4
abbrev N_Map_has_walker : List Str := ["self", "name"]
theorem sc_Map_has_walker : FnScope N_Map_has_walker ["self", "name"] (defScope s_Map_has_walker) := ⟨rfl, rfl, rfl, by decide +kernel, rfl, by decide +kernel, by decide +kernel⟩
abbrev s_Map_eq : Stmt := inClass (top 21) 10
abbrev N_Map_eq : List Str := ["self", "other"]
theorem sc_Map_eq : FnScope N_Map_eq ["self", "other"] (defScope s_Map_eq) := ⟨rfl, rfl, rfl, by decide +kernel, rfl, by decide +kernel, by decide +kernel⟩
abbrev s_is_deed : Stmt := top 25
abbrev N_is_deed : List Str := ["thing", "grounds"]
theorem sc_is_deed : FnScope N_is_deed ["thing", "grounds"] (defScope s_is_deed) := ⟨rfl, rfl, rfl, by decide +kernel, rfl, by decide +kernel, by decide +kernel⟩
abbrev s_want_row : Stmt := top 26
abbrev N_want_row : List Str := ["grounds", "number", "row", "taken", "walker", "deeds", "deed"]
theorem sc_want_row : FnScope N_want_row ["grounds", "number", "row", "taken"] (defScope s_want_row) := ⟨rfl, rfl, rfl, by decide +kernel, rfl, by decide +kernel, by decide +kernel⟩
abbrev s_Plan_init : Stmt := inClass (top 27) 0
abbrev N_Plan_init : List Str := ["self", "grounds", "rows", "taken", "number", "row", "walker", "deeds"]
theorem sc_Plan_init : FnScope N_Plan_init ["self", "grounds", "rows"] (defScope s_Plan_init) := ⟨rfl, rfl, rfl, by decide +kernel, rfl, by decide +kernel, by decide +kernel⟩
abbrev s_Plan_grounds : Stmt := inClass (top 27) 1
abbrev N_Plan_grounds : List Str := ["self"]
theorem sc_Plan_grounds : FnScope N_Plan_grounds ["self"] (defScope s_Plan_grounds) := ⟨rfl, rfl, rfl, by decide +kernel, rfl, by decide +kernel, by decide +kernel⟩
abbrev s_Plan_rows : Stmt := inClass (top 27) 2
abbrev N_Plan_rows : List Str := ["self", "walker", "deeds"]
theorem sc_Plan_rows : FnScope N_Plan_rows ["self"] (defScope s_Plan_rows) := ⟨rfl, rfl, rfl, by decide +kernel, rfl, by decide +kernel, by decide +kernel⟩
abbrev s_Plan_len : Stmt := inClass (top 27) 4
abbrev N_Plan_len : List Str := ["self", "walker", "deeds", "deed"]
theorem sc_Plan_len : FnScope N_Plan_len ["self"] (defScope s_Plan_len) := ⟨rfl, rfl, rfl, by decide +kernel, rfl, by decide +kernel, by decide +kernel⟩
abbrev s_l_pot : Stmt := top 29
abbrev N_l_pot : List Str := ["_law_script", "_law_k", "_law_cell"]
theorem sc_l_pot : FnScope N_l_pot ["_law_script", "_law_k"] (defScope s_l_pot) := ⟨rfl, rfl, rfl, by decide +kernel, rfl, by decide +kernel, by decide +kernel⟩
abbrev s_l_take : Stmt := top 30
abbrev N_l_take : List Str := ["_law_pot_here", "_law_many", "_law_digit"]
theorem sc_l_take : FnScope N_l_take ["_law_pot_here", "_law_many"] (defScope s_l_take) := ⟨rfl, rfl, rfl, by decide +kernel, rfl, by decide +kernel, by decide +kernel⟩
abbrev s_l_names : Stmt := top 31
abbrev N_l_names : List Str := ["_law_pot_here", "_law_many", "_law_signs", "_law_firsts", "_law_found", "_law_k", "_law_first", "_law_j"]
theorem sc_l_names : FnScope N_l_names ["_law_pot_here", "_law_many"] (defScope s_l_names) := ⟨rfl, rfl, rfl, by decide +kernel, rfl, by decide +kernel, by decide +kernel⟩
abbrev s_l_grounds : Stmt := top 32
abbrev N_l_grounds : List Str := ["_law_pot_here", "_law_hosts", "_law_walkers", "_law_names_here", "_law_rows_here", "_law_name"]
theorem sc_l_grounds : FnScope N_l_grounds ["_law_pot_here"] (defScope s_l_grounds) := ⟨rfl, rfl, rfl, by decide +kernel, rfl, by decide +kernel, by decide +kernel⟩
abbrev s_l_rows : Stmt := top 33
abbrev N_l_rows : List Str := ["_law_pot_here", "_law_grounds_here", "_law_most", "_law_names_here", "_law_hosts", "_law_lists", "_law_k", "_law_name", "_law_other", "_law_deed", "_law_left", "_law_order"]
theorem sc_l_rows : FnScope N_l_rows ["_law_pot_here", "_law_grounds_here", "_law_most"] (defScope s_l_rows) := ⟨rfl, rfl, rfl, by decide +kernel, rfl, by decide +kernel, by decide +kernel⟩
abbrev s_l_bad_deed : Stmt := top 34
abbrev N_l_bad_deed : List Str := ["_law_pot_here", "_law_grounds_here", "_law_name", "_law_host", "_law_some"]
theorem sc_l_bad_deed : FnScope N_l_bad_deed ["_law_pot_here", "_law_grounds_here"] (defScope s_l_bad_deed) := ⟨rfl, rfl, rfl, by decide +kernel, rfl, by decide +kernel, by decide +kernel⟩
abbrev s_l_spoilt : Stmt := top 35
abbrev N_l_spoilt : List Str := ["_law_pot_here", "_law_grounds_here", "_law_rows_here", "_law_at", "_law_kind", "_law_walker", "_law_deeds", "_law_row", "_law_spot"]
theorem sc_l_spoilt : FnScope N_l_spoilt ["_law_pot_here", "_law_grounds_here", "_law_rows_here"] (defScope s_l_spoilt) := ⟨rfl, rfl, rfl, by decide +kernel, rfl, by decide +kernel, by decide +kernel⟩
abbrev s_l_is_row : Stmt := top 36
abbrev N_l_is_row : List Str := ["_law_row"]
theorem sc_l_is_row : FnScope N_l_is_row ["_law_row"] (defScope s_l_is_row) := ⟨rfl, rfl, rfl, by decide +kernel, rfl, by decide +kernel, by decide +kernel⟩
abbrev s_l_is_word : Stmt := top 37
abbrev N_l_is_word : List Str := ["_law_thing", "_law_signs", "_law_sign"]
theorem sc_l_is_word : FnScope N_l_is_word ["_law_thing"] (defScope s_l_is_word) := ⟨rfl, rfl, rfl, by decide +kernel, rfl, by decide +kernel, by decide +kernel⟩
abbrev s_l_is_deed : Stmt := top 38
abbrev N_l_is_deed : List Str := ["_law_thing", "_law_grounds_here"]
theorem sc_l_is_deed : FnScope N_l_is_deed ["_law_thing", "_law_grounds_here"] (defScope s_l_is_deed) := ⟨rfl, rfl, rfl, by decide +kernel, rfl, by decide +kernel, by decide +kernel⟩
abbrev s_l_due : Stmt := top 39
abbrev N_l_due : List Str := ["_law_rows_here", "_law_grounds_here", "_law_taken", "_law_k", "_law_row", "_law_deed"]
theorem sc_l_due : FnScope N_l_due ["_law_rows_here", "_law_grounds_here"] (defScope s_l_due) := ⟨rfl, rfl, rfl, by decide +kernel, rfl, by decide +kernel, by decide +kernel⟩
abbrev s_l_right : Stmt := top 40
abbrev N_l_right : List Str := ["_law_grounds_here", "_law_rows_here", "_law_due_here", "_law_before", "_law_found", "_law_plan", "e", "_law_row"]
theorem sc_l_right : FnScope N_l_right ["_law_grounds_here", "_law_rows_here"] (defScope s_l_right) := ⟨rfl, rfl, rfl, by decide +kernel, rfl, by decide +kernel, by decide +kernel⟩
abbrev s_law : Stmt := top 41
abbrev N_law : List Str := ["_law_script", "_law_grounds_here", "_law_k", "_law_pot_here", "_law_rows_here", "_law_turn", "_law_thing", "_law_row"]
theorem sc_law : FnScope N_law ["_law_script"] (defScope s_law) := ⟨rfl, rfl, rfl, by decide +kernel, rfl, by decide +kernel, by decide +kernel⟩
def d_NoMap_init : He.DefD := ⟨("NoMap", some "__init__"), "__init__", "NoMap.__init__", defArgs s_NoMap_init, defBody s_NoMap_init, defScope s_NoMap_init, [], []⟩
def d_NoPlan_init : He.DefD := ⟨("NoPlan", some "__init__"), "__init__", "NoPlan.__init__", defArgs s_NoPlan_init, defBody s_NoPlan_init, defScope s_NoPlan_init, [], []⟩
def d_is_made_of : He.DefD := ⟨("is_made_of", none), "is_made_of", "is_made_of", defArgs s_is_made_of, defBody s_is_made_of, defScope s_is_made_of, [], []⟩
def d_is_name : He.DefD := ⟨("is_name", none), "is_name", "is_name", defArgs s_is_name, defBody s_is_name, defScope s_is_name, [], []⟩
def d_is_word : He.DefD := ⟨("is_word", none), "is_word", "is_word", defArgs s_is_word, defBody s_is_word, defScope s_is_word, [], []⟩
def d_want : He.DefD := ⟨("want", none), "want", "want", defArgs s_want, defBody s_want, defScope s_want, [], []⟩
def d_want_hosts : He.DefD := ⟨("want_hosts", none), "want_hosts", "want_hosts", defArgs s_want_hosts, defBody s_want_hosts, defScope s_want_hosts, [], []⟩
def d_want_walkers : He.DefD := ⟨("want_walkers", none), "want_walkers", "want_walkers", defArgs s_want_walkers, defBody s_want_walkers, defScope s_want_walkers, [], []⟩
def d_Map_init : He.DefD := ⟨("Map", some "__init__"), "__init__", "Map.__init__", defArgs s_Map_init, defBody s_Map_init, defScope s_Map_init, [], []⟩
def d_Map_hosts : He.DefD := ⟨("Map", some "hosts"), "hosts", "Map.hosts", defArgs s_Map_hosts, defBody s_Map_hosts, defScope s_Map_hosts, [], []⟩
def d_Map_walkers : He.DefD := ⟨("Map", some "walkers"), "walkers", "Map.walkers", defArgs s_Map_walkers, defBody s_Map_walkers, defScope s_Map_walkers, [], []⟩
def d_Map_has_host : He.DefD := ⟨("Map", some "has_host"), "has_host", "Map.has_host", defArgs s_Map_has_host, defBody s_Map_has_host, defScope s_Map_has_host, [], []⟩
def d_Map_has_walker : He.DefD := ⟨("Map", some "has_walker"), "has_walker", "Map.has_walker", defArgs s_Map_has_walker, defBody s_Map_has_walker, defScope s_Map_has_walker, [], []⟩
def d_Map_eq : He.DefD := ⟨("Map", some "__eq__"), "__eq__", "Map.__eq__", defArgs s_Map_eq, defBody s_Map_eq, defScope s_Map_eq, [], []⟩
def d_is_deed : He.DefD := ⟨("is_deed", none), "is_deed", "is_deed", defArgs s_is_deed, defBody s_is_deed, defScope s_is_deed, [], []⟩
def d_want_row : He.DefD := ⟨("want_row", none), "want_row", "want_row", defArgs s_want_row, defBody s_want_row, defScope s_want_row, [], []⟩
def d_Plan_init : He.DefD := ⟨("Plan", some "__init__"), "__init__", "Plan.__init__", defArgs s_Plan_init, defBody s_Plan_init, defScope s_Plan_init, [], []⟩
def d_Plan_grounds : He.DefD := ⟨("Plan", some "grounds"), "grounds", "Plan.grounds", defArgs s_Plan_grounds, defBody s_Plan_grounds, defScope s_Plan_grounds, [], []⟩
def d_Plan_rows : He.DefD := ⟨("Plan", some "rows"), "rows", "Plan.rows", defArgs s_Plan_rows, defBody s_Plan_rows, defScope s_Plan_rows, [], []⟩
def d_Plan_len : He.DefD := ⟨("Plan", some "__len__"), "__len__", "Plan.__len__", defArgs s_Plan_len, defBody s_Plan_len, defScope s_Plan_len, [], []⟩
def d_l_pot : He.DefD := ⟨("_law_pot", none), "_law_pot", "_law_pot", defArgs s_l_pot, defBody s_l_pot, defScope s_l_pot, [], []⟩
def d_l_take : He.DefD := ⟨("_law_take", none), "_law_take", "_law_take", defArgs s_l_take, defBody s_l_take, defScope s_l_take, [], []⟩
def d_l_names : He.DefD := ⟨("_law_names", none), "_law_names", "_law_names", defArgs s_l_names, defBody s_l_names, defScope s_l_names, [], []⟩
def d_l_grounds : He.DefD := ⟨("_law_grounds", none), "_law_grounds", "_law_grounds", defArgs s_l_grounds, defBody s_l_grounds, defScope s_l_grounds, [], []⟩
def d_l_rows : He.DefD := ⟨("_law_rows", none), "_law_rows", "_law_rows", defArgs s_l_rows, defBody s_l_rows, defScope s_l_rows, [], []⟩
def d_l_bad_deed : He.DefD := ⟨("_law_bad_deed", none), "_law_bad_deed", "_law_bad_deed", defArgs s_l_bad_deed, defBody s_l_bad_deed, defScope s_l_bad_deed, [], []⟩
def d_l_spoilt : He.DefD := ⟨("_law_spoilt", none), "_law_spoilt", "_law_spoilt", defArgs s_l_spoilt, defBody s_l_spoilt, defScope s_l_spoilt, [], []⟩
def d_l_is_row : He.DefD := ⟨("_law_is_row", none), "_law_is_row", "_law_is_row", defArgs s_l_is_row, defBody s_l_is_row, defScope s_l_is_row, [], []⟩
def d_l_is_word : He.DefD := ⟨("_law_is_word", none), "_law_is_word", "_law_is_word", defArgs s_l_is_word, defBody s_l_is_word, defScope s_l_is_word, [], []⟩
def d_l_is_deed : He.DefD := ⟨("_law_is_deed", none), "_law_is_deed", "_law_is_deed", defArgs s_l_is_deed, defBody s_l_is_deed, defScope s_l_is_deed, [], []⟩
def d_l_due : He.DefD := ⟨("_law_due", none), "_law_due", "_law_due", defArgs s_l_due, defBody s_l_due, defScope s_l_due, [], []⟩
def d_l_right : He.DefD := ⟨("_law_right", none), "_law_right", "_law_right", defArgs s_l_right, defBody s_l_right, defScope s_l_right, [], []⟩
def d_law : He.DefD := ⟨("law", none), "law", "law", defArgs s_law, defBody s_law, defScope s_law, [], []⟩
def fn : List He.DefD := [d_NoMap_init, d_NoPlan_init, d_is_made_of, d_is_name, d_is_word, d_want, d_want_hosts, d_want_walkers, d_Map_init, d_Map_hosts, d_Map_walkers, d_Map_has_host, d_Map_has_walker, d_Map_eq, d_is_deed, d_want_row, d_Plan_init, d_Plan_grounds, d_Plan_rows, d_Plan_len, d_l_pot, d_l_take, d_l_names, d_l_grounds, d_l_rows, d_l_bad_deed, d_l_spoilt, d_l_is_row, d_l_is_word, d_l_is_deed, d_l_due, d_l_right, d_law]
def fb : List (Fr → Bool) := [
  fun K => (He.Fa.free "all").ok K,
  fun K => (He.Fa.free "dict").ok K,
  fun K => (He.Fa.free "divmod").ok K,
  fun K => (He.Fa.free "enumerate").ok K,
  fun K => (He.Fa.free "isinstance").ok K,
  fun K => (He.Fa.free "len").ok K,
  fun K => (He.Fa.free "list").ok K,
  fun K => (He.Fa.free "max").ok K,
  fun K => (He.Fa.free "min").ok K,
  fun K => (He.Fa.free "range").ok K,
  fun K => (He.Fa.free "repr").ok K,
  fun K => (He.Fa.free "str").ok K,
  fun K => (He.Fa.free "sum").ok K,
  fun K => (He.Fa.free "tuple").ok K,
  fun K => (He.Fa.str "FIGURES" "0123456789").ok K,
  fun K => (He.Fa.int "LEAST_HOSTS" 2).ok K,
  fun K => (He.Fa.str "LETTERS" "abcdefghijklmnopqrstuvwxyz").ok K,
  fun K => (He.Fa.int "MOST_HOSTS" 6).ok K,
  fun K => (He.Fa.int "MOST_LETTERS" 8).ok K,
  fun K => (He.Fa.int "MOST_SIGNS" 12).ok K,
  fun K => (He.Fa.int "MOST_WALKERS" 5).ok K,
  fun K => (He.Fa.str "WALK" "walk").ok K,
  fun K => (He.Fa.str "WRITE" "write").ok K,
  fun K => (He.Fa.glo "is_made_of").ok K,
  fun K => (He.Fa.glo "is_name").ok K,
  fun K => (He.Fa.glo "is_word").ok K,
  fun K => (He.Fa.glo "want").ok K,
  fun K => (He.Fa.glo "want_hosts").ok K,
  fun K => (He.Fa.glo "want_walkers").ok K,
  fun K => (He.Fa.glo "is_deed").ok K,
  fun K => (He.Fa.glo "want_row").ok K,
  fun K => (He.Fa.glo "_law_pot").ok K,
  fun K => (He.Fa.glo "_law_take").ok K,
  fun K => (He.Fa.glo "_law_names").ok K,
  fun K => (He.Fa.glo "_law_grounds").ok K,
  fun K => (He.Fa.glo "_law_rows").ok K,
  fun K => (He.Fa.glo "_law_bad_deed").ok K,
  fun K => (He.Fa.glo "_law_spoilt").ok K,
  fun K => (He.Fa.glo "_law_is_row").ok K,
  fun K => (He.Fa.glo "_law_is_word").ok K,
  fun K => (He.Fa.glo "_law_is_deed").ok K,
  fun K => (He.Fa.glo "_law_due").ok K,
  fun K => (He.Fa.glo "_law_right").ok K,
  fun K => (He.Fa.glo "law").ok K,
  fun K => (He.Fa.glo "WalkError").ok K,
  binB "WalkError",
  fun K => (He.Fa.glo "NoMap").ok K,
  oxB "NoMap",
  fun K => (He.Fa.noat "NoMap" "what").ok K,
  fun K => (He.Fa.noat "NoMap" "who").ok K,
  fun K => (He.Fa.glo "NoPlan").ok K,
  oxB "NoPlan",
  fun K => (He.Fa.noat "NoPlan" "who").ok K,
  fun K => (He.Fa.glo "NoText").ok K,
  oxB "NoText",
  fun K => (He.Fa.noat "NoText" "row").ok K,
  fun K => (He.Fa.glo "Map").ok K,
  fun K => (He.Fa.cls "Map").ok K,
  fun K => (He.Fa.mkr "Map").ok K,
  fun K => (He.Fa.noat "Map" "all_hosts").ok K,
  fun K => (He.Fa.noat "Map" "homes").ok K,
  fun K => (He.Fa.glo "Plan").ok K,
  fun K => (He.Fa.cls "Plan").ok K,
  fun K => (He.Fa.mkr "Plan").ok K,
  fun K => (He.Fa.noat "Plan" "own_map").ok K,
  fun K => (He.Fa.noat "Plan" "lists").ok K,
  exiB "NoMap",
  exiB "NoPlan",
  fun K => (He.Fa.meth "Map" "hosts").ok K,
  fun K => (He.Fa.meth "Map" "walkers").ok K,
  fun K => (He.Fa.meth "Map" "has_host").ok K,
  fun K => (He.Fa.meth "Map" "has_walker").ok K,
  fun K => (He.Fa.meth "Map" "__eq__").ok K,
  fun K => (He.Fa.meth "Plan" "grounds").ok K,
  fun K => (He.Fa.meth "Plan" "rows").ok K,
  fun K => (He.Fa.meth "Plan" "__len__").ok K,
  clsB "Map",
  clsB "Plan",
  objB,
  sysB,
  fun K => decide (PySem.W.kitOne K (.ref (He.ga K "NoPlan")) (.ref (He.ga K "WalkError")) = some true),
  fun K => decide (PySem.W.kitOne K (.ref (He.ga K "NoPlan")) (.ref (He.ga K "NoText")) = some false),
  fun K => decide (PySem.W.kitOne K (.ref (He.ga K "Map")) (.ref (He.ga K "Map")) = some true),
  fun K => decide (PySem.W.kitOne K (.ref (He.ga K "Plan")) (.type "str") = some false),
  fun K => decide (PySem.W.exmOne K (.ref (He.ga K "NoPlan")) (.ref (He.ga K "NoPlan")) = some true)]
structure Tx (K : Fr) (mg : Str → Option Value) : Prop where
  f_all : mg "all" = none
  f_dict : mg "dict" = none
  f_divmod : mg "divmod" = none
  f_enumerate : mg "enumerate" = none
  f_isinstance : mg "isinstance" = none
  f_len : mg "len" = none
  f_list : mg "list" = none
  f_max : mg "max" = none
  f_min : mg "min" = none
  f_range : mg "range" = none
  f_repr : mg "repr" = none
  f_str : mg "str" = none
  f_sum : mg "sum" = none
  f_tuple : mg "tuple" = none
  k_FIGURES : ∃ u, mg "FIGURES" = some u ∧ RelV (.str "0123456789") u
  k_LEAST_HOSTS : ∃ u, mg "LEAST_HOSTS" = some u ∧ RelV (.int 2) u
  k_LETTERS : ∃ u, mg "LETTERS" = some u ∧ RelV (.str "abcdefghijklmnopqrstuvwxyz") u
  k_MOST_HOSTS : ∃ u, mg "MOST_HOSTS" = some u ∧ RelV (.int 6) u
  k_MOST_LETTERS : ∃ u, mg "MOST_LETTERS" = some u ∧ RelV (.int 8) u
  k_MOST_SIGNS : ∃ u, mg "MOST_SIGNS" = some u ∧ RelV (.int 12) u
  k_MOST_WALKERS : ∃ u, mg "MOST_WALKERS" = some u ∧ RelV (.int 5) u
  k_WALK : ∃ u, mg "WALK" = some u ∧ RelV (.str "walk") u
  k_WRITE : ∃ u, mg "WRITE" = some u ∧ RelV (.str "write") u
  g_is_made_of : mg "is_made_of" = some (.ref (He.ga K "is_made_of"))
  g_is_name : mg "is_name" = some (.ref (He.ga K "is_name"))
  g_is_word : mg "is_word" = some (.ref (He.ga K "is_word"))
  g_want : mg "want" = some (.ref (He.ga K "want"))
  g_want_hosts : mg "want_hosts" = some (.ref (He.ga K "want_hosts"))
  g_want_walkers : mg "want_walkers" = some (.ref (He.ga K "want_walkers"))
  g_is_deed : mg "is_deed" = some (.ref (He.ga K "is_deed"))
  g_want_row : mg "want_row" = some (.ref (He.ga K "want_row"))
  g_l_pot : mg "_law_pot" = some (.ref (He.ga K "_law_pot"))
  g_l_take : mg "_law_take" = some (.ref (He.ga K "_law_take"))
  g_l_names : mg "_law_names" = some (.ref (He.ga K "_law_names"))
  g_l_grounds : mg "_law_grounds" = some (.ref (He.ga K "_law_grounds"))
  g_l_rows : mg "_law_rows" = some (.ref (He.ga K "_law_rows"))
  g_l_bad_deed : mg "_law_bad_deed" = some (.ref (He.ga K "_law_bad_deed"))
  g_l_spoilt : mg "_law_spoilt" = some (.ref (He.ga K "_law_spoilt"))
  g_l_is_row : mg "_law_is_row" = some (.ref (He.ga K "_law_is_row"))
  g_l_is_word : mg "_law_is_word" = some (.ref (He.ga K "_law_is_word"))
  g_l_is_deed : mg "_law_is_deed" = some (.ref (He.ga K "_law_is_deed"))
  g_l_due : mg "_law_due" = some (.ref (He.ga K "_law_due"))
  g_l_right : mg "_law_right" = some (.ref (He.ga K "_law_right"))
  g_law : mg "law" = some (.ref (He.ga K "law"))
  g_WalkError : mg "WalkError" = some (.ref (He.ga K "WalkError"))
  b_WalkError : BinC K (He.ga K "WalkError")
  g_NoMap : mg "NoMap" = some (.ref (He.ga K "NoMap"))
  x_NoMap : (OexC K (He.ga K "NoMap") ∧ XfC K (He.ga K "NoMap") ∧ PySem.W.findIn K (.ref (He.ga K "NoMap")) "__class__" = some (some (.builtin "object.__class__")) ∧ PySem.W.mroIn K (He.ga K "NoMap") (.type "object") = some true)
  n_NoMap_what : PySem.W.findIn K (.ref (He.ga K "NoMap")) "what" = some none
  n_NoMap_who : PySem.W.findIn K (.ref (He.ga K "NoMap")) "who" = some none
  g_NoPlan : mg "NoPlan" = some (.ref (He.ga K "NoPlan"))
  x_NoPlan : (OexC K (He.ga K "NoPlan") ∧ XfC K (He.ga K "NoPlan") ∧ PySem.W.findIn K (.ref (He.ga K "NoPlan")) "__class__" = some (some (.builtin "object.__class__")) ∧ PySem.W.mroIn K (He.ga K "NoPlan") (.type "object") = some true)
  n_NoPlan_who : PySem.W.findIn K (.ref (He.ga K "NoPlan")) "who" = some none
  g_NoText : mg "NoText" = some (.ref (He.ga K "NoText"))
  x_NoText : (OexC K (He.ga K "NoText") ∧ XfC K (He.ga K "NoText") ∧ PySem.W.findIn K (.ref (He.ga K "NoText")) "__class__" = some (some (.builtin "object.__class__")) ∧ PySem.W.mroIn K (He.ga K "NoText") (.type "object") = some true)
  n_NoText_row : PySem.W.findIn K (.ref (He.ga K "NoText")) "row" = some none
  g_Map : mg "Map" = some (.ref (He.ga K "Map"))
  c_Map : Cls K (He.ga K "Map")
  m_Map : Mk K (He.ga K "Map") (He.ma K (He.ga K "Map") "__init__")
  n_Map_all_hosts : NoAttr K (He.ga K "Map") "all_hosts"
  n_Map_homes : NoAttr K (He.ga K "Map") "homes"
  g_Plan : mg "Plan" = some (.ref (He.ga K "Plan"))
  c_Plan : Cls K (He.ga K "Plan")
  m_Plan : Mk K (He.ga K "Plan") (He.ma K (He.ga K "Plan") "__init__")
  n_Plan_own_map : NoAttr K (He.ga K "Plan") "own_map"
  n_Plan_lists : NoAttr K (He.ga K "Plan") "lists"
  j_NoMap_init : (PySem.W.findIn K (.ref (He.ga K "NoMap")) "__init__" = some (some (.ref (He.ma K (He.ga K "NoMap") "__init__"))) ∧ PySem.W.typeIn K (.ref (He.ma K (He.ga K "NoMap") "__init__")) = some (.type "function"))
  j_NoPlan_init : (PySem.W.findIn K (.ref (He.ga K "NoPlan")) "__init__" = some (some (.ref (He.ma K (He.ga K "NoPlan") "__init__"))) ∧ PySem.W.typeIn K (.ref (He.ma K (He.ga K "NoPlan") "__init__")) = some (.type "function"))
  t_Map_hosts : Meth K (He.ga K "Map") "hosts" (He.ma K (He.ga K "Map") "hosts")
  t_Map_walkers : Meth K (He.ga K "Map") "walkers" (He.ma K (He.ga K "Map") "walkers")
  t_Map_has_host : Meth K (He.ga K "Map") "has_host" (He.ma K (He.ga K "Map") "has_host")
  t_Map_has_walker : Meth K (He.ga K "Map") "has_walker" (He.ma K (He.ga K "Map") "has_walker")
  t_Map_eq : Meth K (He.ga K "Map") "__eq__" (He.ma K (He.ga K "Map") "__eq__")
  t_Plan_grounds : Meth K (He.ga K "Plan") "grounds" (He.ma K (He.ga K "Plan") "grounds")
  t_Plan_rows : Meth K (He.ga K "Plan") "rows" (He.ma K (He.ga K "Plan") "rows")
  t_Plan_len : Meth K (He.ga K "Plan") "__len__" (He.ma K (He.ga K "Plan") "__len__")
  w_Map : ClsW K (He.ga K "Map")
  w_Plan : ClsW K (He.ga K "Plan")
  y_obj : (PySem.W.specialIn K (.builtin "object.__class__") "__get__" = some (some (.builtin "getset_descriptor.__get__")) ∧ PySem.W.takesIn K (.builtin "object.__class__") = some true)
  y_sys : sysB K = true
  q_plan_walk : PySem.W.kitOne K (.ref (He.ga K "NoPlan")) (.ref (He.ga K "WalkError")) = some true
  q_plan_text : PySem.W.kitOne K (.ref (He.ga K "NoPlan")) (.ref (He.ga K "NoText")) = some false
  q_map_map : PySem.W.kitOne K (.ref (He.ga K "Map")) (.ref (He.ga K "Map")) = some true
  q_Plan_str : PySem.W.kitOne K (.ref (He.ga K "Plan")) (.type "str") = some false
  e_plan_plan : PySem.W.exmOne K (.ref (He.ga K "NoPlan")) (.ref (He.ga K "NoPlan")) = some true
  d_NoMap_init : ∃ fd, FunD K "__init__" "NoMap.__init__" (defArgs s_NoMap_init) (defBody s_NoMap_init) (defScope s_NoMap_init) [] [] (He.fAd K ("NoMap", some "__init__")) fd
  d_NoPlan_init : ∃ fd, FunD K "__init__" "NoPlan.__init__" (defArgs s_NoPlan_init) (defBody s_NoPlan_init) (defScope s_NoPlan_init) [] [] (He.fAd K ("NoPlan", some "__init__")) fd
  d_is_made_of : ∃ fd, FunD K "is_made_of" "is_made_of" (defArgs s_is_made_of) (defBody s_is_made_of) (defScope s_is_made_of) [] [] (He.fAd K ("is_made_of", none)) fd
  d_is_name : ∃ fd, FunD K "is_name" "is_name" (defArgs s_is_name) (defBody s_is_name) (defScope s_is_name) [] [] (He.fAd K ("is_name", none)) fd
  d_is_word : ∃ fd, FunD K "is_word" "is_word" (defArgs s_is_word) (defBody s_is_word) (defScope s_is_word) [] [] (He.fAd K ("is_word", none)) fd
  d_want : ∃ fd, FunD K "want" "want" (defArgs s_want) (defBody s_want) (defScope s_want) [] [] (He.fAd K ("want", none)) fd
  d_want_hosts : ∃ fd, FunD K "want_hosts" "want_hosts" (defArgs s_want_hosts) (defBody s_want_hosts) (defScope s_want_hosts) [] [] (He.fAd K ("want_hosts", none)) fd
  d_want_walkers : ∃ fd, FunD K "want_walkers" "want_walkers" (defArgs s_want_walkers) (defBody s_want_walkers) (defScope s_want_walkers) [] [] (He.fAd K ("want_walkers", none)) fd
  d_Map_init : ∃ fd, FunD K "__init__" "Map.__init__" (defArgs s_Map_init) (defBody s_Map_init) (defScope s_Map_init) [] [] (He.fAd K ("Map", some "__init__")) fd
  d_Map_hosts : ∃ fd, FunD K "hosts" "Map.hosts" (defArgs s_Map_hosts) (defBody s_Map_hosts) (defScope s_Map_hosts) [] [] (He.fAd K ("Map", some "hosts")) fd
  d_Map_walkers : ∃ fd, FunD K "walkers" "Map.walkers" (defArgs s_Map_walkers) (defBody s_Map_walkers) (defScope s_Map_walkers) [] [] (He.fAd K ("Map", some "walkers")) fd
  d_Map_has_host : ∃ fd, FunD K "has_host" "Map.has_host" (defArgs s_Map_has_host) (defBody s_Map_has_host) (defScope s_Map_has_host) [] [] (He.fAd K ("Map", some "has_host")) fd
  d_Map_has_walker : ∃ fd, FunD K "has_walker" "Map.has_walker" (defArgs s_Map_has_walker) (defBody s_Map_has_walker) (defScope s_Map_has_walker) [] [] (He.fAd K ("Map", some "has_walker")) fd
  d_Map_eq : ∃ fd, FunD K "__eq__" "Map.__eq__" (defArgs s_Map_eq) (defBody s_Map_eq) (defScope s_Map_eq) [] [] (He.fAd K ("Map", some "__eq__")) fd
  d_is_deed : ∃ fd, FunD K "is_deed" "is_deed" (defArgs s_is_deed) (defBody s_is_deed) (defScope s_is_deed) [] [] (He.fAd K ("is_deed", none)) fd
  d_want_row : ∃ fd, FunD K "want_row" "want_row" (defArgs s_want_row) (defBody s_want_row) (defScope s_want_row) [] [] (He.fAd K ("want_row", none)) fd
  d_Plan_init : ∃ fd, FunD K "__init__" "Plan.__init__" (defArgs s_Plan_init) (defBody s_Plan_init) (defScope s_Plan_init) [] [] (He.fAd K ("Plan", some "__init__")) fd
  d_Plan_grounds : ∃ fd, FunD K "grounds" "Plan.grounds" (defArgs s_Plan_grounds) (defBody s_Plan_grounds) (defScope s_Plan_grounds) [] [] (He.fAd K ("Plan", some "grounds")) fd
  d_Plan_rows : ∃ fd, FunD K "rows" "Plan.rows" (defArgs s_Plan_rows) (defBody s_Plan_rows) (defScope s_Plan_rows) [] [] (He.fAd K ("Plan", some "rows")) fd
  d_Plan_len : ∃ fd, FunD K "__len__" "Plan.__len__" (defArgs s_Plan_len) (defBody s_Plan_len) (defScope s_Plan_len) [] [] (He.fAd K ("Plan", some "__len__")) fd
  d_l_pot : ∃ fd, FunD K "_law_pot" "_law_pot" (defArgs s_l_pot) (defBody s_l_pot) (defScope s_l_pot) [] [] (He.fAd K ("_law_pot", none)) fd
  d_l_take : ∃ fd, FunD K "_law_take" "_law_take" (defArgs s_l_take) (defBody s_l_take) (defScope s_l_take) [] [] (He.fAd K ("_law_take", none)) fd
  d_l_names : ∃ fd, FunD K "_law_names" "_law_names" (defArgs s_l_names) (defBody s_l_names) (defScope s_l_names) [] [] (He.fAd K ("_law_names", none)) fd
  d_l_grounds : ∃ fd, FunD K "_law_grounds" "_law_grounds" (defArgs s_l_grounds) (defBody s_l_grounds) (defScope s_l_grounds) [] [] (He.fAd K ("_law_grounds", none)) fd
  d_l_rows : ∃ fd, FunD K "_law_rows" "_law_rows" (defArgs s_l_rows) (defBody s_l_rows) (defScope s_l_rows) [] [] (He.fAd K ("_law_rows", none)) fd
  d_l_bad_deed : ∃ fd, FunD K "_law_bad_deed" "_law_bad_deed" (defArgs s_l_bad_deed) (defBody s_l_bad_deed) (defScope s_l_bad_deed) [] [] (He.fAd K ("_law_bad_deed", none)) fd
  d_l_spoilt : ∃ fd, FunD K "_law_spoilt" "_law_spoilt" (defArgs s_l_spoilt) (defBody s_l_spoilt) (defScope s_l_spoilt) [] [] (He.fAd K ("_law_spoilt", none)) fd
  d_l_is_row : ∃ fd, FunD K "_law_is_row" "_law_is_row" (defArgs s_l_is_row) (defBody s_l_is_row) (defScope s_l_is_row) [] [] (He.fAd K ("_law_is_row", none)) fd
  d_l_is_word : ∃ fd, FunD K "_law_is_word" "_law_is_word" (defArgs s_l_is_word) (defBody s_l_is_word) (defScope s_l_is_word) [] [] (He.fAd K ("_law_is_word", none)) fd
  d_l_is_deed : ∃ fd, FunD K "_law_is_deed" "_law_is_deed" (defArgs s_l_is_deed) (defBody s_l_is_deed) (defScope s_l_is_deed) [] [] (He.fAd K ("_law_is_deed", none)) fd
  d_l_due : ∃ fd, FunD K "_law_due" "_law_due" (defArgs s_l_due) (defBody s_l_due) (defScope s_l_due) [] [] (He.fAd K ("_law_due", none)) fd
  d_l_right : ∃ fd, FunD K "_law_right" "_law_right" (defArgs s_l_right) (defBody s_l_right) (defScope s_l_right) [] [] (He.fAd K ("_law_right", none)) fd
  d_law : ∃ fd, FunD K "law" "law" (defArgs s_law) (defBody s_law) (defScope s_law) [] [] (He.fAd K ("law", none)) fd
theorem tx_of {K : Fr} {h : Heap} {mg : Str → Option Value} (X : K.In h) (G : h.Ns mainGlobals mg) (c : SaysW fb fn K) : Tx K mg where
  f_all := He.free_ok X G (c.fact 0 rfl)
  f_dict := He.free_ok X G (c.fact 1 rfl)
  f_divmod := He.free_ok X G (c.fact 2 rfl)
  f_enumerate := He.free_ok X G (c.fact 3 rfl)
  f_isinstance := He.free_ok X G (c.fact 4 rfl)
  f_len := He.free_ok X G (c.fact 5 rfl)
  f_list := He.free_ok X G (c.fact 6 rfl)
  f_max := He.free_ok X G (c.fact 7 rfl)
  f_min := He.free_ok X G (c.fact 8 rfl)
  f_range := He.free_ok X G (c.fact 9 rfl)
  f_repr := He.free_ok X G (c.fact 10 rfl)
  f_str := He.free_ok X G (c.fact 11 rfl)
  f_sum := He.free_ok X G (c.fact 12 rfl)
  f_tuple := He.free_ok X G (c.fact 13 rfl)
  k_FIGURES := kstr (c.fact 14 rfl) X G
  k_LEAST_HOSTS := kint (c.fact 15 rfl) X G
  k_LETTERS := kstr (c.fact 16 rfl) X G
  k_MOST_HOSTS := kint (c.fact 17 rfl) X G
  k_MOST_LETTERS := kint (c.fact 18 rfl) X G
  k_MOST_SIGNS := kint (c.fact 19 rfl) X G
  k_MOST_WALKERS := kint (c.fact 20 rfl) X G
  k_WALK := kstr (c.fact 21 rfl) X G
  k_WRITE := kstr (c.fact 22 rfl) X G
  g_is_made_of := He.glo_ok X G (c.fact 23 rfl)
  g_is_name := He.glo_ok X G (c.fact 24 rfl)
  g_is_word := He.glo_ok X G (c.fact 25 rfl)
  g_want := He.glo_ok X G (c.fact 26 rfl)
  g_want_hosts := He.glo_ok X G (c.fact 27 rfl)
  g_want_walkers := He.glo_ok X G (c.fact 28 rfl)
  g_is_deed := He.glo_ok X G (c.fact 29 rfl)
  g_want_row := He.glo_ok X G (c.fact 30 rfl)
  g_l_pot := He.glo_ok X G (c.fact 31 rfl)
  g_l_take := He.glo_ok X G (c.fact 32 rfl)
  g_l_names := He.glo_ok X G (c.fact 33 rfl)
  g_l_grounds := He.glo_ok X G (c.fact 34 rfl)
  g_l_rows := He.glo_ok X G (c.fact 35 rfl)
  g_l_bad_deed := He.glo_ok X G (c.fact 36 rfl)
  g_l_spoilt := He.glo_ok X G (c.fact 37 rfl)
  g_l_is_row := He.glo_ok X G (c.fact 38 rfl)
  g_l_is_word := He.glo_ok X G (c.fact 39 rfl)
  g_l_is_deed := He.glo_ok X G (c.fact 40 rfl)
  g_l_due := He.glo_ok X G (c.fact 41 rfl)
  g_l_right := He.glo_ok X G (c.fact 42 rfl)
  g_law := He.glo_ok X G (c.fact 43 rfl)
  g_WalkError := He.glo_ok X G (c.fact 44 rfl)
  b_WalkError := binB_ok (c.fact 45 rfl)
  g_NoMap := He.glo_ok X G (c.fact 46 rfl)
  x_NoMap := oxB_ok (c.fact 47 rfl)
  n_NoMap_what := He.noat_ok (c.fact 48 rfl)
  n_NoMap_who := He.noat_ok (c.fact 49 rfl)
  g_NoPlan := He.glo_ok X G (c.fact 50 rfl)
  x_NoPlan := oxB_ok (c.fact 51 rfl)
  n_NoPlan_who := He.noat_ok (c.fact 52 rfl)
  g_NoText := He.glo_ok X G (c.fact 53 rfl)
  x_NoText := oxB_ok (c.fact 54 rfl)
  n_NoText_row := He.noat_ok (c.fact 55 rfl)
  g_Map := He.glo_ok X G (c.fact 56 rfl)
  c_Map := He.cls_ok (c.fact 57 rfl)
  m_Map := He.mkr_ok (c.fact 58 rfl)
  n_Map_all_hosts := He.noat_ok (c.fact 59 rfl)
  n_Map_homes := He.noat_ok (c.fact 60 rfl)
  g_Plan := He.glo_ok X G (c.fact 61 rfl)
  c_Plan := He.cls_ok (c.fact 62 rfl)
  m_Plan := He.mkr_ok (c.fact 63 rfl)
  n_Plan_own_map := He.noat_ok (c.fact 64 rfl)
  n_Plan_lists := He.noat_ok (c.fact 65 rfl)
  j_NoMap_init := exiB_ok (c.fact 66 rfl)
  j_NoPlan_init := exiB_ok (c.fact 67 rfl)
  t_Map_hosts := He.meth_ok (c.fact 68 rfl)
  t_Map_walkers := He.meth_ok (c.fact 69 rfl)
  t_Map_has_host := He.meth_ok (c.fact 70 rfl)
  t_Map_has_walker := He.meth_ok (c.fact 71 rfl)
  t_Map_eq := He.meth_ok (c.fact 72 rfl)
  t_Plan_grounds := He.meth_ok (c.fact 73 rfl)
  t_Plan_rows := He.meth_ok (c.fact 74 rfl)
  t_Plan_len := He.meth_ok (c.fact 75 rfl)
  w_Map := clsB_ok (c.fact 76 rfl)
  w_Plan := clsB_ok (c.fact 77 rfl)
  y_obj := objB_ok (c.fact 78 rfl)
  y_sys := (c.fact 79 rfl)
  q_plan_walk := of_decide_eq_true (c.fact 80 rfl)
  q_plan_text := of_decide_eq_true (c.fact 81 rfl)
  q_map_map := of_decide_eq_true (c.fact 82 rfl)
  q_Plan_str := of_decide_eq_true (c.fact 83 rfl)
  e_plan_plan := of_decide_eq_true (c.fact 84 rfl)
  d_NoMap_init := c.def_ 0 rfl
  d_NoPlan_init := c.def_ 1 rfl
  d_is_made_of := c.def_ 2 rfl
  d_is_name := c.def_ 3 rfl
  d_is_word := c.def_ 4 rfl
  d_want := c.def_ 5 rfl
  d_want_hosts := c.def_ 6 rfl
  d_want_walkers := c.def_ 7 rfl
  d_Map_init := c.def_ 8 rfl
  d_Map_hosts := c.def_ 9 rfl
  d_Map_walkers := c.def_ 10 rfl
  d_Map_has_host := c.def_ 11 rfl
  d_Map_has_walker := c.def_ 12 rfl
  d_Map_eq := c.def_ 13 rfl
  d_is_deed := c.def_ 14 rfl
  d_want_row := c.def_ 15 rfl
  d_Plan_init := c.def_ 16 rfl
  d_Plan_grounds := c.def_ 17 rfl
  d_Plan_rows := c.def_ 18 rfl
  d_Plan_len := c.def_ 19 rfl
  d_l_pot := c.def_ 20 rfl
  d_l_take := c.def_ 21 rfl
  d_l_names := c.def_ 22 rfl
  d_l_grounds := c.def_ 23 rfl
  d_l_rows := c.def_ 24 rfl
  d_l_bad_deed := c.def_ 25 rfl
  d_l_spoilt := c.def_ 26 rfl
  d_l_is_row := c.def_ 27 rfl
  d_l_is_word := c.def_ 28 rfl
  d_l_is_deed := c.def_ 29 rfl
  d_l_due := c.def_ 30 rfl
  d_l_right := c.def_ 31 rfl
  d_law := c.def_ 32 rfl
end W81
namespace W81
open PySem PySem.Spec PyProof.Rows L2 WB



def letters : Str := "abcdefghijklmnopqrstuvwxyz"
def isMade (z signs : Str) (n : Int) : Bool := (decide ((1 : Int) ≤ z.length) && decide ((z.length : Int) ≤ n)) && z.cps.toList.all fun c => decide (c ∈ signs.cps.toList)
def isName (z : Str) : Bool := isMade z letters 8
def okHosts (hs : List Str) : Bool := hs.all isName && decide hs.Nodup && decide (2 ≤ hs.length) && decide (hs.length ≤ 6)
def okRow (hs seen : List Str) (r : List Str) : Bool := match r with
  | [n, h] => isName n && decide (n ∉ seen) && decide (h ∈ hs)
  | _ => false
def okRows (hs : List Str) : List Str → List (List Str) → Bool
  | _, [] => true
  | seen, r :: rs => okRow hs seen r && okRows hs (seen ++ [r.headD ""]) rs
def okWalkers (hs : List Str) (rows : List (List Str)) : Bool := okRows hs hs rows && decide (1 ≤ rows.length) && decide (rows.length ≤ 5)
def okMap (hs : List Str) (rows : List (List Str)) : Bool := okHosts hs && okWalkers hs rows
def pairs (rows : List (List Str)) : List (Str × Str) := rows.map fun r => (r.headD "", r.getD 1 "")
def mapF (l d : Addr) : List (Str × V) := putF "homes" (.ref d) (putF "all_hosts" (.ref l) [])
def dkv (ws : List (Str × Str)) : List (Key × V) := ws.map fun w => (Sum.inr w.1, V.str w.2)
def MapAt (K : Fr) (H : Hp) (x : Addr) (hs : List Str) (ws : List (Str × Str)) : Prop := ∃ dx l d, H x = some (.ins (He.ga K "Map") dx (mapF l d)) ∧ H l = some (.lst (SV hs)) ∧ H d = some (.dK (dkv ws))
def RowsAt (H : Hp) (b : Addr) (rows : List (List Str)) : Prop := ∃ ps : List Addr, H b = some (.lst (ps.map V.ref)) ∧ Paired (fun p r => H p = some (.tup (SV r))) ps rows
def Pot (H : Hp) (p : Addr) : Prop := ∃ a b : Int, H p = some (.lst [.int a, .int b]) ∧ 0 ≤ a ∧ 0 ≤ b ∧ b < 2 ^ 32
abbrev cMap (K : Fr) : Addr := He.ga K "Map"
abbrev cNoMap (K : Fr) : Addr := He.ga K "NoMap"
abbrev cNoPlan (K : Fr) : Addr := He.ga K "NoPlan"
abbrev cPlan (K : Fr) : Addr := He.ga K "Plan"
def sp_NoMap_init (K : Fr) : Sp := fun vs H Q _ => ∃ (e : Addr) (a b : V), vs = [.ref e, a, b] ∧ H e = some (exo e (cNoMap K) none) ∧
  ∀ d H', H d = none → d ≠ e → H' e = some (exo e (cNoMap K) (some d)) → H' d = some (exd d [("who", b), ("what", a)]) → ExP e H H' → Q .non H'
def sp_NoPlan_init (K : Fr) : Sp := fun vs H Q _ => ∃ (e : Addr) (a : V), vs = [.ref e, a] ∧ H e = some (exo e (cNoPlan K) none) ∧
  ∀ d H', H d = none → d ≠ e → H' e = some (exo e (cNoPlan K) (some d)) → H' d = some (exd d [("who", a)]) → ExP e H H' → Q .non H'
def eqStr : PyData → Option Str
  | .str z => some z
  | _ => none
def isMadeD (d : PyData) (signs : Str) (n : Int) : Bool := match d with
  | .str z => isMade z signs n
  | _ => false
def wordSigns : Str := "abcdefghijklmnopqrstuvwxyz0123456789"
def isWordD (d : PyData) : Bool := isMadeD d wordSigns 12
def inD (l : List Str) (d : PyData) : Bool := l.any fun z => eqZ z d
def isDeedD (hs wn : List Str) : PyData → Bool
  | .tuple [a, b] => eqZ "walk" a && inD hs b
  | .tuple [a, b, c] => eqZ "write" a && inD wn b && isWordD c
  | _ => false
def rowBad (hs wn : List Str) (k : Nat) (taken : List Str) : PyData → Option Str
  | .tuple [a, b] => if (inD wn a && !inD taken a) = true then (match a, b with
      | .str n, .list ds => if ds.all (isDeedD hs wn) = true then none else some n
      | .str n, _ => some n
      | _, _ => none) else some (toString (k : Int))
  | _ => some (toString (k : Int))
def nameOf : PyData → Str
  | .tuple (.str n :: _) => n
  | _ => ""
def rowsBad (hs wn : List Str) : Nat → List Str → List PyData → Option Str
  | _, _, [] => none
  | k, taken, r :: rs => match rowBad hs wn k taken r with
    | some w => some w
    | none => rowsBad hs wn (k + 1) (taken ++ [nameOf r]) rs
def planBad (hs wn : List Str) : PyData → Option Str
  | .list rows => rowsBad hs wn 0 [] rows
  | _ => some "rows"
def rowD (r : Str × List PyData) : PyData := .tuple [.str r.1, .list r.2]
def rowsD (rs : List (Str × List PyData)) : PyData := .list (rs.map rowD)
def lenD (rs : List (Str × List PyData)) : Nat := (rs.map fun r => r.2.length).sum
def planF (g l : Addr) : List (Str × V) := putF "lists" (.ref l) (putF "own_map" (.ref g) [])
def PlanAt (K : Fr) (H : Hp) (x g : Addr) (d : PyData) : Prop := ∃ dx l, H x = some (.ins (He.ga K "Plan") dx (planF g l)) ∧ Dq K H (.ref l) d
def whoV : Option Str → V
  | none => .non
  | some z => .str z
def isRowD : PyData → Bool
  | .tuple [.str _, .list _] => true
  | _ => false
def Gd (w k : Nat) (d : PyData) : Prop := d.leavesShort 13 = true ∧ d.showable = true ∧ d.weight ≤ w ∧ d.depth ≤ k
def DqP (K : Fr) (p : Addr) (H : Hp) (v : V) (d : PyData) : Prop := Dq K (del H p) v d
def sp_is_made_of (K : Fr) : Sp := fun vs H Q _ => ∃ (v : V) (d : PyData) (signs : Str) (n : Int), vs = [v, .str signs, .int n] ∧ Dq K H v d ∧ (∀ z, d = .str z → z.length ≤ 100000) ∧ ∀ H', Ex H H' → Q (.bl (isMadeD d signs n)) H'
def sp_is_word (K : Fr) : Sp := fun vs H Q _ => ∃ (v : V) (d : PyData), vs = [v] ∧ Dq K H v d ∧ (∀ z, d = .str z → z.length ≤ 100000) ∧ ∀ H', Ex H H' → Q (.bl (isWordD d)) H'
def sp_is_name (_ : Fr) : Sp := fun vs H Q _ => ∃ z : Str, vs = [.str z] ∧ z.length ≤ 5000 ∧ ∀ H', Ex H H' → Q (.bl (isName z)) H'
def sp_want (K : Fr) : Sp := fun vs H Q E => ∃ (b : Bool) (x y : V), vs = [.bl b, x, y] ∧ (b = true → Q .non H) ∧ (b = false → ∀ d H', Ex H H' → E (.ref (cNoMap K)) (some d) H')
def Small (l : List Str) : Prop := l.length ≤ 5000 ∧ ∀ z ∈ l, z.length ≤ 5000
def sp_want_hosts (K : Fr) : Sp := fun vs H Q E => ∃ (a : Addr) (hs : List Str), vs = [.ref a] ∧ H a = some (.lst (SV hs)) ∧ Small hs ∧
  (okHosts hs = true → ∀ H', Ex H H' → Q .non H') ∧ (okHosts hs = false → ∀ d H', Ex H H' → E (.ref (cNoMap K)) (some d) H')
def SmallR (rows : List (List Str)) : Prop := rows.length ≤ 5000 ∧ ∀ r ∈ rows, Small r
def sp_want_walkers (K : Fr) : Sp := fun vs H Q E => ∃ (a : Addr) (hs : List Str) (b : Addr) (rows : List (List Str)), vs = [.ref a, .ref b] ∧ H a = some (.lst (SV hs)) ∧ RowsAt H b rows ∧ Small hs ∧ SmallR rows ∧
  (okWalkers hs rows = true → ∀ H', Ex H H' → Q .non H') ∧ (okWalkers hs rows = false → ∀ d H', Ex H H' → E (.ref (cNoMap K)) (some d) H')
def sp_Map_init (K : Fr) : Sp := fun vs H Q E => ∃ (x dx a : Addr) (hs : List Str) (b : Addr) (rows : List (List Str)), vs = [.ref x, .ref a, .ref b] ∧ H x = some (.ins (cMap K) dx []) ∧ H a = some (.lst (SV hs)) ∧ RowsAt H b rows ∧ Small hs ∧ SmallR rows ∧
  (okMap hs rows = true → ∀ H', MapAt K H' x hs (pairs rows) → ExP x H H' → Q .non H') ∧ (okMap hs rows = false → ∀ d H', ExP x H H' → E (.ref (cNoMap K)) (some d) H')
def sp_Map_hosts (K : Fr) : Sp := fun vs H Q _ => ∃ (x : Addr) (hs : List Str) (ws : List (Str × Str)), vs = [.ref x] ∧ MapAt K H x hs ws ∧ ∀ p H', H p = none → Ex H H' → H' p = some (.lst (SV hs)) → Q (.ref p) H'
def sp_Map_walkers (K : Fr) : Sp := fun vs H Q _ => ∃ (x : Addr) (hs : List Str) (ws : List (Str × Str)), vs = [.ref x] ∧ MapAt K H x hs ws ∧ ∀ p H', H p = none → Ex H H' → H' p = some (.lst (SV (ws.map (·.1)))) → Q (.ref p) H'
def sp_Map_has_walker (K : Fr) : Sp := fun vs H Q _ => ∃ (x : Addr) (hs : List Str) (ws : List (Str × Str)) (v : V) (d : PyData), vs = [.ref x, v] ∧ MapAt K H x hs ws ∧ Dq K H v d ∧ ∀ H', Ex H H' → Q (.bl (inD (ws.map (·.1)) d)) H'
def sp_Map_has_host (K : Fr) : Sp := fun vs H Q _ => ∃ (x : Addr) (hs : List Str) (ws : List (Str × Str)) (v : V) (d : PyData), vs = [.ref x, v] ∧ MapAt K H x hs ws ∧ Dq K H v d ∧ ∀ H', Ex H H' → Q (.bl (inD hs d)) H'
def SoundM (hs : List Str) (ws : List (Str × Str)) : Prop := (∀ z ∈ hs, PyData.strOk z = true) ∧ ∀ w ∈ ws, PyData.strOk w.1 = true ∧ PyData.strOk w.2 = true
def R_Map (K : Fr) : Addr → Addr → Hp → Prop := fun a b H => ∃ hs ws, MapAt K H a hs ws ∧ MapAt K H b hs ws ∧ SoundM hs ws
def sp_Map_eq (K : Fr) : Sp := spEq (R_Map K)
def sp_is_deed (K : Fr) : Sp := fun vs H Q _ => ∃ (v : V) (d : PyData) (x : Addr) (hs : List Str) (ws : List (Str × Str)), vs = [v, .ref x] ∧ Dq K H v d ∧ d.weight ≤ 100000 ∧ MapAt K H x hs ws ∧ ∀ H', Ex H H' → Q (.bl (isDeedD hs (ws.map (·.1)) d)) H'
def sp_want_row (K : Fr) : Sp := fun vs H Q E => ∃ (x : Addr) (k : Nat) (v : V) (t : Addr) (d : PyData) (hs : List Str) (ws : List (Str × Str)) (taken : List Str), vs = [.ref x, .int k, v, .ref t] ∧ k < 100000 ∧ Dq K H v d ∧ d.weight ≤ 100000 ∧ MapAt K H x hs ws ∧ H t = some (.lst (SV taken)) ∧
  (rowBad hs (ws.map (·.1)) k taken d = none → ∀ H', Ex H H' → Q .non H') ∧ (∀ w, rowBad hs (ws.map (·.1)) k taken d = some w → ∀ dd H', Ex H H' → H' dd = some (.xd [("who", .str w)]) → E (.ref (cNoPlan K)) (some dd) H')
def sp_Plan_init (K : Fr) : Sp := fun vs H Q E => ∃ (x dx g : Addr) (v : V) (d : PyData) (hs : List Str) (ws : List (Str × Str)), vs = [.ref x, .ref g, v] ∧ H x = some (.ins (cPlan K) dx []) ∧ MapAt K H g hs ws ∧ Dq K H v d ∧ d.weight ≤ 50000 ∧
  (planBad hs (ws.map (·.1)) d = none → ∀ H', PlanAt K H' x g d → ExP x H H' → Q .non H') ∧ (∀ w, planBad hs (ws.map (·.1)) d = some w → ∀ dd H', ExP x H H' → H' dd = some (.xd [("who", .str w)]) → E (.ref (cNoPlan K)) (some dd) H')
def sp_Plan_grounds (K : Fr) : Sp := fun vs H Q _ => ∃ (x g : Addr) (d : PyData), vs = [.ref x] ∧ PlanAt K H x g d ∧ ∀ H', Ex H H' → Q (.ref g) H'
def sp_Plan_rows (K : Fr) : Sp := fun vs H Q _ => ∃ (x g : Addr) (rs : List (Str × List PyData)), vs = [.ref x] ∧ PlanAt K H x g (rowsD rs) ∧ (rowsD rs).weight ≤ 50000 ∧ ∀ p H', Ex H H' → Dq K H' (.ref p) (rowsD rs) → Q (.ref p) H'
def sp_Plan_len (K : Fr) : Sp := fun vs H Q _ => ∃ (x g : Addr) (rs : List (Str × List PyData)), vs = [.ref x] ∧ PlanAt K H x g (rowsD rs) ∧ (rowsD rs).weight ≤ 50000 ∧ ∀ H', Ex H H' → Q (.int (lenD rs : Nat)) H'
def sp_l_pot (K : Fr) : Sp := fun vs H Q _ => ∃ (a : Addr) (ns : List Int) (k : Int), vs = [.ref a, .int k] ∧ SqL K H a (ns.map V.int) ∧ ns.length ≤ 63 ∧ 0 ≤ k ∧ k < 20 ∧ ∀ p H', H p = none → Ex H H' → Pot H' p → Q (.ref p) H'
def sp_l_take (_ : Fr) : Sp := fun vs H Q _ => ∃ (p : Addr) (n : Int), vs = [.ref p, .int n] ∧ Pot H p ∧ 1 ≤ n ∧ n < 1000000 ∧ ∀ d H', 0 ≤ d → d < n → ExP p H H' → Pot H' p → Q (.int d) H'
def sp_l_names (_ : Fr) : Sp := fun vs H Q _ => ∃ (p : Addr) (n : Int), vs = [.ref p, .int n] ∧ Pot H p ∧ 0 ≤ n ∧ n ≤ 6 ∧ ∀ q xs H', xs.length = n.toNat → (∀ u ∈ xs, isName u = true) → xs.Nodup → ExP p H H' → Pot H' p → H q = none → H' q = some (.lst (SV xs)) → Q (.ref q) H'
def sp_l_grounds (K : Fr) : Sp := fun vs H Q _ => ∃ p : Addr, vs = [.ref p] ∧ Pot H p ∧ ∀ x hs rows H', okMap hs rows = true → MapAt K H' x hs (pairs rows) → H x = none → ExP p H H' → Pot H' p → Q (.ref x) H'
def MapOk (K : Fr) (H : Hp) (x : Addr) (hs : List Str) (ws : List (Str × Str)) : Prop := MapAt K H x hs ws ∧ ∃ rows, okMap hs rows = true ∧ ws = pairs rows
def sp_l_rows (K : Fr) : Sp := fun vs H Q _ => ∃ (p x : Addr) (most : Int) (hs : List Str) (ws : List (Str × Str)), vs = [.ref p, .ref x, .int most] ∧ Pot H p ∧ MapOk K H x hs ws ∧ 1 ≤ most ∧ most ≤ 6 ∧
  ∀ l rs H', DqP K p H' (.ref l) (rowsD rs) → Gd 1000 6 (rowsD rs) → ExP p H H' → Pot H' p → Q (.ref l) H'
def sp_l_bad_deed (K : Fr) : Sp := fun vs H Q _ => ∃ (p x : Addr) (hs : List Str) (ws : List (Str × Str)), vs = [.ref p, .ref x] ∧ Pot H p ∧ MapOk K H x hs ws ∧ ∀ v d H', DqP K p H' v d → Gd 200 3 d → ExP p H H' → Pot H' p → Q v H'
def sp_l_spoilt (K : Fr) : Sp := fun vs H Q _ => ∃ (p x l : Addr) (hs : List Str) (ws : List (Str × Str)) (rs : List (Str × List PyData)) (w : Nat), vs = [.ref p, .ref x, .ref l] ∧ Pot H p ∧ MapOk K H x hs ws ∧ DqP K p H (.ref l) (rowsD rs) ∧ rs ≠ [] ∧ Gd w 10 (rowsD rs) ∧ w ≤ 10000 ∧
  ∀ l' ds H', DqP K p H' (.ref l') (.list ds) → Gd (3 * w + 400) 10 (.list ds) → ExP p H H' → Pot H' p → Q (.ref l') H'
def sp_l_is_row (K : Fr) : Sp := fun vs H Q _ => ∃ (v : V) (d : PyData), vs = [v] ∧ Dq K H v d ∧ ∀ H', Ex H H' → Q (.bl (isRowD d)) H'
def sp_l_is_word (K : Fr) : Sp := fun vs H Q _ => ∃ (v : V) (d : PyData), vs = [v] ∧ Dq K H v d ∧ (∀ z, d = .str z → z.length ≤ 100000) ∧ ∀ H', Ex H H' → Q (.bl (isWordD d)) H'
def sp_l_is_deed (K : Fr) : Sp := fun vs H Q _ => ∃ (v : V) (d : PyData) (x : Addr) (hs : List Str) (ws : List (Str × Str)), vs = [v, .ref x] ∧ Dq K H v d ∧ d.weight ≤ 100000 ∧ MapAt K H x hs ws ∧ ∀ H', Ex H H' → Q (.bl (isDeedD hs (ws.map (·.1)) d)) H'
def sp_l_due (K : Fr) : Sp := fun vs H Q _ => ∃ (v : V) (d : PyData) (x : Addr) (hs : List Str) (ws : List (Str × Str)), vs = [v, .ref x] ∧ Dq K H v d ∧ d.weight ≤ 50000 ∧ MapAt K H x hs ws ∧ ∀ H', Ex H H' → Q (whoV (planBad hs (ws.map (·.1)) d)) H'
def sp_l_right (K : Fr) : Sp := fun vs H Q _ => ∃ (x : Addr) (v : V) (d : PyData) (hs : List Str) (ws : List (Str × Str)), vs = [.ref x, v] ∧ MapOk K H x hs ws ∧ Dq K H v d ∧ Gd 50000 20 d ∧ ∀ H', Ex H H' → Q (.bl true) H'
def sp_law (K : Fr) : Sp := fun vs H Q _ => ∃ (a : Addr) (ns : List Int), vs = [.ref a] ∧ SqL K H a (ns.map V.int) ∧ ns.length ≤ 63 ∧ ∀ H', Q (.bl true) H'
section
variable {K : Fr} {vs : List V} {H : Hp} {Q : VK} {E : XK}
theorem len_NoMap_init (h : sp_NoMap_init K vs H Q E) : vs.length = 3 := by obtain ⟨_, _, _, rfl, _⟩ := h; rfl
theorem len_NoPlan_init (h : sp_NoPlan_init K vs H Q E) : vs.length = 2 := by obtain ⟨_, _, rfl, _⟩ := h; rfl
theorem len_is_made_of (h : sp_is_made_of K vs H Q E) : vs.length = 3 := by obtain ⟨_, _, _, _, rfl, _⟩ := h; rfl
theorem len_is_word (h : sp_is_word K vs H Q E) : vs.length = 1 := by obtain ⟨_, _, rfl, _⟩ := h; rfl
theorem len_is_name (h : sp_is_name K vs H Q E) : vs.length = 1 := by obtain ⟨_, rfl, _⟩ := h; rfl
theorem len_want (h : sp_want K vs H Q E) : vs.length = 3 := by obtain ⟨_, _, _, rfl, _⟩ := h; rfl
theorem len_want_hosts (h : sp_want_hosts K vs H Q E) : vs.length = 1 := by obtain ⟨_, _, rfl, _⟩ := h; rfl
theorem len_want_walkers (h : sp_want_walkers K vs H Q E) : vs.length = 2 := by obtain ⟨_, _, _, _, rfl, _⟩ := h; rfl
theorem len_Map_init (h : sp_Map_init K vs H Q E) : vs.length = 3 := by obtain ⟨_, _, _, _, _, _, rfl, _⟩ := h; rfl
theorem len_Map_hosts (h : sp_Map_hosts K vs H Q E) : vs.length = 1 := by obtain ⟨_, _, _, rfl, _⟩ := h; rfl
theorem len_Map_walkers (h : sp_Map_walkers K vs H Q E) : vs.length = 1 := by obtain ⟨_, _, _, rfl, _⟩ := h; rfl
theorem len_Map_has_walker (h : sp_Map_has_walker K vs H Q E) : vs.length = 2 := by obtain ⟨_, _, _, _, _, rfl, _⟩ := h; rfl
theorem len_Map_has_host (h : sp_Map_has_host K vs H Q E) : vs.length = 2 := by obtain ⟨_, _, _, _, _, rfl, _⟩ := h; rfl
theorem len_Map_eq (h : sp_Map_eq K vs H Q E) : vs.length = 2 := by obtain ⟨_, _, rfl, _⟩ := h; rfl
theorem len_is_deed (h : sp_is_deed K vs H Q E) : vs.length = 2 := by obtain ⟨_, _, _, _, _, rfl, _⟩ := h; rfl
theorem len_want_row (h : sp_want_row K vs H Q E) : vs.length = 4 := by obtain ⟨_, _, _, _, _, _, _, _, rfl, _⟩ := h; rfl
theorem len_Plan_init (h : sp_Plan_init K vs H Q E) : vs.length = 3 := by obtain ⟨_, _, _, _, _, _, _, rfl, _⟩ := h; rfl
theorem len_Plan_grounds (h : sp_Plan_grounds K vs H Q E) : vs.length = 1 := by obtain ⟨_, _, _, rfl, _⟩ := h; rfl
theorem len_Plan_rows (h : sp_Plan_rows K vs H Q E) : vs.length = 1 := by obtain ⟨_, _, _, rfl, _⟩ := h; rfl
theorem len_Plan_len (h : sp_Plan_len K vs H Q E) : vs.length = 1 := by obtain ⟨_, _, _, rfl, _⟩ := h; rfl
theorem len_l_pot (h : sp_l_pot K vs H Q E) : vs.length = 2 := by obtain ⟨_, _, _, rfl, _⟩ := h; rfl
theorem len_l_take (h : sp_l_take K vs H Q E) : vs.length = 2 := by obtain ⟨_, _, rfl, _⟩ := h; rfl
theorem len_l_names (h : sp_l_names K vs H Q E) : vs.length = 2 := by obtain ⟨_, _, rfl, _⟩ := h; rfl
theorem len_l_grounds (h : sp_l_grounds K vs H Q E) : vs.length = 1 := by obtain ⟨_, rfl, _⟩ := h; rfl
theorem len_l_rows (h : sp_l_rows K vs H Q E) : vs.length = 3 := by obtain ⟨_, _, _, _, _, rfl, _⟩ := h; rfl
theorem len_l_bad_deed (h : sp_l_bad_deed K vs H Q E) : vs.length = 2 := by obtain ⟨_, _, _, _, rfl, _⟩ := h; rfl
theorem len_l_spoilt (h : sp_l_spoilt K vs H Q E) : vs.length = 3 := by obtain ⟨_, _, _, _, _, _, _, rfl, _⟩ := h; rfl
theorem len_l_is_row (h : sp_l_is_row K vs H Q E) : vs.length = 1 := by obtain ⟨_, _, rfl, _⟩ := h; rfl
theorem len_l_is_word (h : sp_l_is_word K vs H Q E) : vs.length = 1 := by obtain ⟨_, _, rfl, _⟩ := h; rfl
theorem len_l_is_deed (h : sp_l_is_deed K vs H Q E) : vs.length = 2 := by obtain ⟨_, _, _, _, _, rfl, _⟩ := h; rfl
theorem len_l_due (h : sp_l_due K vs H Q E) : vs.length = 2 := by obtain ⟨_, _, _, _, _, rfl, _⟩ := h; rfl
theorem len_l_right (h : sp_l_right K vs H Q E) : vs.length = 2 := by obtain ⟨_, _, _, _, _, rfl, _⟩ := h; rfl
theorem len_law (h : sp_law K vs H Q E) : vs.length = 1 := by obtain ⟨_, _, rfl, _⟩ := h; rfl
end
end W81
namespace W81
open PySem PySem.Spec PyProof.Rows L2 LiI WB
def t_NoMap_init (K : Fr) : TS := tSeq (tDrop (tVeI K (tCons (tVar 0) (tCons (tC (.str "no map")) tNil))))
    (tSeq (tOst K "what" (tVar 0) (tVar 1))
    (tOst K "who" (tVar 0) (tVar 2)))
def t_NoPlan_init (K : Fr) : TS := tSeq (tDrop (tVeI K (tCons (tVar 0) (tCons (tC (.str "no plan")) tNil))))
    (tOst K "who" (tVar 0) (tVar 1))
def t_is_made_of (K : Fr) : TS := tSeq (tIfS (tOr (tNot (tB (tCB (rIsi K) (tCons (tVar 0) (tCons (tC (.ty "str")) tNil))))) (tNot (tTest (tChain rLeI rLeI (tC (.int 1)) (tCB (rLenA K) (tCons (tVar 0) tNil)) (tVar 2))))) (tRet (tC (.bl false))) (tNext))
    (tRet (tCB (rAll K) (tCons (tLc (iStr (tVar 0)) (gName 3) tYes (tOp rInSgn (tVar 3) (tVar 1)) [3]) tNil)))
def t_is_name (K : Fr) : TS := tRet (tCallS (sp_is_made_of K) (fun _ => E0) (tCons (tVar 0) (tCons (tC (.str "abcdefghijklmnopqrstuvwxyz")) (tCons (tC (.int 8)) tNil))))
def t_is_word (K : Fr) : TS := tRet (tCallS (sp_is_made_of K) (fun _ => E0) (tCons (tVar 0) (tCons (tOp (rAddA K) (tC (.str "abcdefghijklmnopqrstuvwxyz")) (tC (.str "0123456789"))) (tCons (tC (.int 12)) tNil))))
def t_want (K : Fr) (E : XK) : TS := tIfS (tNot (tB (tVar 0))) (fun _ σ H => tMkO (He.ga K "NoMap") (sp_NoMap_init K) [] (tCons (tVar 1) (tCons (tVar 2) tNil)) σ H fun cls d H' => E cls d H') (tNext)
def t_want_hosts (K : Fr) (E : XK) : TS := tSeq (tDrop (tCallS (sp_want K) (fun _ => E) (tCons (tCB (rIsi K) (tCons (tVar 0) (tCons (tC (.ty "list")) tNil))) (tCons (tC (.str "hosts")) (tCons (tC (.str "")) tNil)))))
    (tSeq (tFor (iEnum K (tCons (tVar 0) tNil)) (gTup K 2 (gCons (gName 1) (gCons (gName 2) gNil))) (tSeq (tDrop (tCallS (sp_want K) (fun _ => E) (tCons (tCallS (sp_is_name K) (fun _ => E0) (tCons (tVar 2) tNil)) (tCons (tC (.str "name")) (tCons (tCB (rStrI) (tCons (tVar 1) tNil)) tNil)))))
    (tDrop (tCallS (sp_want K) (fun _ => E) (tCons (tOp (rNiA K) (tVar 2) (tSl (rSlA K) (tVar 0) tNoPart (tPart (tVar 1)))) (tCons (tC (.str "again")) (tCons (tVar 2) tNil)))))))
    (tDrop (tCallS (sp_want K) (fun _ => E) (tCons (tChain rLeI rLeI (tC (.int 2)) (tCB (rLenA K) (tCons (tVar 0) tNil)) (tC (.int 6))) (tCons (tC (.str "many")) (tCons (tC (.str "hosts")) tNil))))))
def t_want_walkers (K : Fr) (E : XK) : TS := tSeq (tDrop (tCallS (sp_want K) (fun _ => E) (tCons (tCB (rIsi K) (tCons (tVar 1) (tCons (tC (.ty "list")) tNil))) (tCons (tC (.str "walkers")) (tCons (tC (.str "")) tNil)))))
    (tSeq (tAsg (tCB (rListSq K) (tCons (tVar 0) tNil)) (gName 2))
    (tSeq (tFor (iEnum K (tCons (tVar 1) tNil)) (gTup K 2 (gCons (gName 3) (gCons (gName 4) gNil))) (tSeq (tDrop (tCallS (sp_want K) (fun _ => E) (tCons (tAndV (tCB (rIsi K) (tCons (tVar 4) (tCons (tC (.ty "tuple")) tNil))) (tOp (rEqA K) (tCB (rLenA K) (tCons (tVar 4) tNil)) (tC (.int 2)))) (tCons (tC (.str "walker")) (tCons (tCB (rStrI) (tCons (tVar 3) tNil)) tNil)))))
    (tSeq (tAsg (tVar 4) (gTup K 2 (gCons (gName 5) (gCons (gName 6) gNil))))
    (tSeq (tDrop (tCallS (sp_want K) (fun _ => E) (tCons (tCallS (sp_is_name K) (fun _ => E0) (tCons (tVar 5) tNil)) (tCons (tC (.str "name")) (tCons (tCB (rStrI) (tCons (tVar 3) tNil)) tNil)))))
    (tSeq (tDrop (tCallS (sp_want K) (fun _ => E) (tCons (tOp (rNiA K) (tVar 5) (tVar 2)) (tCons (tC (.str "again")) (tCons (tVar 5) tNil)))))
    (tSeq (tDrop (tCallS (sp_want K) (fun _ => E) (tCons (tOp (rInA K) (tVar 6) (tVar 0)) (tCons (tC (.str "home")) (tCons (tVar 5) tNil)))))
    (tDrop (tBM K "list" (rAppend) (tVar 2) (tCons (tVar 5) tNil)))))))))
    (tDrop (tCallS (sp_want K) (fun _ => E) (tCons (tChain rLeI rLeI (tC (.int 1)) (tCB (rLenA K) (tCons (tVar 1) tNil)) (tC (.int 5))) (tCons (tC (.str "many")) (tCons (tC (.str "walkers")) tNil)))))))
def t_Map_init (K : Fr) (E : XK) : TS := tSeq (tDrop (tCallS (sp_want_hosts K) (fun _ => E) (tCons (tVar 1) tNil)))
    (tSeq (tDrop (tCallS (sp_want_walkers K) (fun _ => E) (tCons (tVar 1) (tCons (tVar 2) tNil))))
    (tSeq (sFld K (tVar 0) (tCB (rListSq K) (tCons (tVar 1) tNil)) "all_hosts")
    (sFld K (tVar 0) (tCB (rDictP K) (tCons (tVar 2) tNil)) "homes")))
def t_Map_hosts (K : Fr) : TS := tRet (tCB (rListSq K) (tCons (tFld K (tVar 0) "all_hosts") tNil))
def t_Map_walkers (K : Fr) : TS := tRet (tCB (rListD) (tCons (tFld K (tVar 0) "homes") tNil))
def t_Map_has_host (K : Fr) : TS := tRet (tOp (rInQ K false) (tVar 1) (tFld K (tVar 0) "all_hosts"))
def t_Map_has_walker (K : Fr) : TS := tRet (tOp (rInQ K false) (tVar 1) (tMethS (He.ga K "Map") "walkers" (sp_Map_walkers K) (fun _ => E0) (tVar 0) tNil))
def t_Map_eq (K : Fr) : TS := tSeq (tIfS (tNot (tB (tCB (rIsi K) (tCons (tVar 1) (tCons (tC (.ref (He.ga K "Map"))) tNil))))) (tRet (tC (.bl false))) (tNext))
    (tRet (tAndV (tOp (rEqA K) (tFld K (tVar 0) "all_hosts") (tFld K (tVar 1) "all_hosts")) (tOp (rEqA K) (tListItems (tFld K (tVar 0) "homes")) (tListItems (tFld K (tVar 1) "homes")))))
def t_is_deed (K : Fr) : TS := tSeq (tIfS (tOr (tNot (tB (tCB (rIsi K) (tCons (tVar 0) (tCons (tC (.ty "tuple")) tNil))))) (tTest (tOp (rNiA K) (tCB (rLenA K) (tCons (tVar 0) tNil)) (tTup (tCons (tC (.int 2)) (tCons (tC (.int 3)) tNil)))))) (tRet (tC (.bl false))) (tNext))
    (tSeq (tIfS (tTest (tOp (rEqQ K) (tOp (rIx K) (tVar 0) (tC (.int 0))) (tC (.str "walk")))) (tRet (tAndV (tOp (rEqA K) (tCB (rLenA K) (tCons (tVar 0) tNil)) (tC (.int 2))) (tMethS (He.ga K "Map") "has_host" (sp_Map_has_host K) (fun _ => E0) (tVar 1) (tCons (tOp (rIx K) (tVar 0) (tC (.int 1))) tNil)))) (tNext))
    (tRet (tAndV (tOp (rEqQ K) (tOp (rIx K) (tVar 0) (tC (.int 0))) (tC (.str "write"))) (tAndV (tOp (rEqA K) (tCB (rLenA K) (tCons (tVar 0) tNil)) (tC (.int 3))) (tAndV (tMethS (He.ga K "Map") "has_walker" (sp_Map_has_walker K) (fun _ => E0) (tVar 1) (tCons (tOp (rIx K) (tVar 0) (tC (.int 1))) tNil)) (tCallS (sp_is_word K) (fun _ => E0) (tCons (tOp (rIx K) (tVar 0) (tC (.int 2))) tNil)))))))
def t_want_row (K : Fr) (E : XK) : TS := tSeq (tIfS (tOr (tNot (tB (tCB (rIsi K) (tCons (tVar 2) (tCons (tC (.ty "tuple")) tNil))))) (tTest (tOp (rNeA K) (tCB (rLenA K) (tCons (tVar 2) tNil)) (tC (.int 2))))) (fun _ σ H => tMkO (He.ga K "NoPlan") (sp_NoPlan_init K) [] (tCons (tCB (rStrI) (tCons (tVar 1) tNil)) tNil) σ H fun cls d H' => E cls d H') (tNext))
    (tSeq (tAsg (tVar 2) (gTup K 2 (gCons (gName 4) (gCons (gName 5) gNil))))
    (tSeq (tIfS (tOr (tNot (tB (tMethS (He.ga K "Map") "has_walker" (sp_Map_has_walker K) (fun _ => E0) (tVar 0) (tCons (tVar 4) tNil)))) (tTest (tOp (rInQ K false) (tVar 4) (tVar 3)))) (fun _ σ H => tMkO (He.ga K "NoPlan") (sp_NoPlan_init K) [] (tCons (tCB (rStrI) (tCons (tVar 1) tNil)) tNil) σ H fun cls d H' => E cls d H') (tNext))
    (tIfS (tOr (tNot (tB (tCB (rIsi K) (tCons (tVar 5) (tCons (tC (.ty "list")) tNil))))) (tNot (tB (tCB (rAll K) (tCons (tLc (iList K (tVar 5)) (gName 6) tYes (tCallS (sp_is_deed K) (fun _ => E0) (tCons (tVar 6) (tCons (tVar 0) tNil))) [6]) tNil))))) (fun _ σ H => tMkO (He.ga K "NoPlan") (sp_NoPlan_init K) [] (tCons (tVar 4) tNil) σ H fun cls d H' => E cls d H') (tNext))))
def t_Plan_init (K : Fr) (E : XK) : TS := tSeq (tIfS (tNot (tB (tCB (rIsi K) (tCons (tVar 2) (tCons (tC (.ty "list")) tNil))))) (fun _ σ H => tMkO (He.ga K "NoPlan") (sp_NoPlan_init K) [] (tCons (tC (.str "rows")) tNil) σ H fun cls d H' => E cls d H') (tNext))
    (tSeq (tAsg (tLst tNil) (gName 3))
    (tSeq (tFor (iEnum K (tCons (tVar 2) tNil)) (gTup K 2 (gCons (gName 4) (gCons (gName 5) gNil))) (tSeq (tDrop (tCallS (sp_want_row K) (fun _ => E) (tCons (tVar 1) (tCons (tVar 4) (tCons (tVar 5) (tCons (tVar 3) tNil))))))
    (tDrop (tBM K "list" (rAppend) (tVar 3) (tCons (tOp (rIx K) (tVar 5) (tC (.int 0))) tNil)))))
    (tSeq (sFld K (tVar 0) (tVar 1) "own_map")
    (sFld K (tVar 0) (tLc (iList K (tVar 2)) (gTup K 2 (gCons (gName 6) (gCons (gName 7) gNil))) tYes (tTup (tCons (tVar 6) (tCons (tCB (rListSq K) (tCons (tVar 7) tNil)) tNil))) [6, 7]) "lists"))))
def t_Plan_grounds (K : Fr) : TS := tRet (tFld K (tVar 0) "own_map")
def t_Plan_rows (K : Fr) : TS := tRet (tLc (iList K (tFld K (tVar 0) "lists")) (gTup K 2 (gCons (gName 1) (gCons (gName 2) gNil))) tYes (tTup (tCons (tVar 1) (tCons (tCB (rListSq K) (tCons (tVar 2) tNil)) tNil))) [1, 2])
def t_Plan_len (K : Fr) : TS := tRet (tCB (rLenA K) (tCons (tLc2 (iList K (tFld K (tVar 0) "lists")) (gTup K 2 (gCons (gName 1) (gCons (gName 2) gNil))) tYes (iList K (tVar 2)) (gName 3) tYes (tVar 3) [1, 2, 3] [3]) tNil))
def t_l_pot (K : Fr) : TS := tSeq (tAsg (tIf (tTest (tOp rLtI (tVar 1) (tCB (rLenA K) (tCons (tVar 0) tNil)))) (tOp (rIx K) (tVar 0) (tVar 1)) (tC (.int 0))) (gName 2))
    (tRet (tLst (tCons (tCB (rMax2I) (tCons (tC (.int 0)) (tCons (tOp rSubI (tVar 2) (tOp rPowI (tC (.int 10)) (tC (.int 18)))) tNil))) (tCons (tOp rModI (tOp (rAddA K) (tOp (rAddA K) (tOp (rAddA K) (tOp rMulI (tOp rModI (tVar 2) (tC (.int 2147483629))) (tC (.int 48271))) (tOp rMulI (tOp rMulI (tC (.int 6007)) (tVar 1)) (tVar 1))) (tOp rMulI (tC (.int 41)) (tVar 1))) (tC (.int 23))) (tC (.int 2147483629))) tNil))))
def t_l_take (K : Fr) : TS := tSeq (tIfS (tTest (tOp rGtI (tOp (rIx K) (tVar 0) (tC (.int 0))) (tC (.int 0)))) (tSeq (tAsg (tCB (rDivMod) (tCons (tOp (rIx K) (tVar 0) (tC (.int 0))) (tCons (tVar 1) tNil))) (gTup K 2 (gCons (gSub (tVar 0) (tC (.int 0)) rSetL) (gCons (gName 2) gNil))))
    (tRet (tVar 2))) (tNext))
    (tSeq (tAsg (tOp rModI (tOp (rAddA K) (tOp rMulI (tOp (rIx K) (tVar 0) (tC (.int 1))) (tC (.int 39373))) (tC (.int 8191))) (tC (.int 2147483587))) (gSub (tVar 0) (tC (.int 1)) rSetL))
    (tRet (tOp rModI (tOp rDivI (tOp rModI (tOp rMulI (tOp (rIx K) (tVar 0) (tC (.int 1))) (tOp (rIx K) (tVar 0) (tC (.int 1)))) (tC (.int 2147483543))) (tC (.int 13))) (tVar 1))))
def t_l_names (K : Fr) : TS := tSeq (tAsg (tC (.str "abcdefghijklmnopqrstuvwxyz")) (gName 2))
    (tSeq (tPar 3 4 (tCons (tCB (rListStr) (tCons (tVar 2) tNil)) (tCons (tLst tNil) tNil)))
    (tSeq (tFor (iRng1 (tCons (tVar 1) tNil)) (gName 5) (tSeq (tAsg (tBM K "list" (rPopAt) (tVar 3) (tCons (tCallS (sp_l_take K) (fun _ => E0) (tCons (tVar 0) (tCons (tCB (rLenA K) (tCons (tVar 3) tNil)) tNil))) tNil)) (gName 6))
    (tDrop (tBM K "list" (rAppend) (tVar 4) (tCons (tOp (rAddA K) (tVar 6) (tM1 (rJoin K) (tC (.str "")) (tLc (iRng1 (tCons (tOp (rIx K) (tLst (tCons (tC (.int 0)) (tCons (tC (.int 0)) (tCons (tC (.int 2)) (tCons (tC (.int 7)) tNil))))) (tCallS (sp_l_take K) (fun _ => E0) (tCons (tVar 0) (tCons (tC (.int 4)) tNil)))) tNil)) (gName 7) tYes (tOp (rIx K) (tVar 2) (tCallS (sp_l_take K) (fun _ => E0) (tCons (tVar 0) (tCons (tC (.int 26)) tNil)))) [7]))) tNil)))))
    (tRet (tVar 4))))
def t_l_grounds (K : Fr) : TS := tSeq (tAsg (tTup (tCons (tOp (rAddA K) (tC (.int 2)) (tCallS (sp_l_take K) (fun _ => E0) (tCons (tVar 0) (tCons (tC (.int 2)) tNil)))) (tCons (tOp (rAddA K) (tC (.int 1)) (tCallS (sp_l_take K) (fun _ => E0) (tCons (tVar 0) (tCons (tC (.int 3)) tNil)))) tNil))) (gTup K 2 (gCons (gName 1) (gCons (gName 2) gNil))))
    (tSeq (tAsg (tCallS (sp_l_names K) (fun _ => E0) (tCons (tVar 0) (tCons (tOp (rAddA K) (tVar 1) (tVar 2)) tNil))) (gName 3))
    (tSeq (tAsg (tLc (iList K (tSl (rSlA K) (tVar 3) (tPart (tVar 1)) tNoPart)) (gName 5) tYes (tTup (tCons (tVar 5) (tCons (tOp (rIx K) (tVar 3) (tCallS (sp_l_take K) (fun _ => E0) (tCons (tVar 0) (tCons (tVar 1) tNil)))) tNil))) [5]) (gName 4))
    (tRet (tMakeS (He.ga K "Map") (sp_Map_init K) (fun _ => E0) (tCons (tSl (rSlA K) (tVar 3) tNoPart (tPart (tVar 1))) (tCons (tVar 4) tNil))))))
def t_l_rows (K : Fr) : TS := tSeq (tPar 3 4 (tCons (tMethS (He.ga K "Map") "walkers" (sp_Map_walkers K) (fun _ => E0) (tVar 1) tNil) (tCons (tMethS (He.ga K "Map") "hosts" (sp_Map_hosts K) (fun _ => E0) (tVar 1) tNil) tNil)))
    (tSeq (tAsg (tCB (rDictP K) (tCons (tLc (iList K (tVar 3)) (gName 7) tYes (tTup (tCons (tVar 7) (tCons (tLst tNil) tNil))) [7]) tNil)) (gName 5))
    (tSeq (tFor (iRng1 (tCons (tOp (rAddA K) (tC (.int 1)) (tCallS (sp_l_take K) (fun _ => E0) (tCons (tVar 0) (tCons (tVar 2) tNil)))) tNil)) (gName 6) (tSeq (tPar 7 8 (tCons (tOp (rIx K) (tVar 3) (tCallS (sp_l_take K) (fun _ => E0) (tCons (tVar 0) (tCons (tCB (rLenA K) (tCons (tVar 3) tNil)) tNil)))) (tCons (tOp (rIx K) (tVar 3) (tCallS (sp_l_take K) (fun _ => E0) (tCons (tVar 0) (tCons (tCB (rLenA K) (tCons (tVar 3) tNil)) tNil)))) tNil)))
    (tSeq (tAsg (tTup (tCons (tC (.str "write")) (tCons (tVar 8) (tCons (tOp (rAddA K) (tC (.str "w")) (tCB (rStrI) (tCons (tVar 6) tNil))) tNil)))) (gName 9))
    (tSeq (tIfS (tTest (tOp (rEqA K) (tCallS (sp_l_take K) (fun _ => E0) (tCons (tVar 0) (tCons (tC (.int 3)) tNil))) (tC (.int 0)))) (tAsg (tTup (tCons (tC (.str "walk")) (tCons (tOp (rIx K) (tVar 4) (tCallS (sp_l_take K) (fun _ => E0) (tCons (tVar 0) (tCons (tCB (rLenA K) (tCons (tVar 4) tNil)) tNil)))) tNil))) (gName 9)) (tNext))
    (tDrop (tBM K "list" (rAppend) (tDGet (tVar 5) (tVar 7)) (tCons (tVar 9) tNil)))))))
    (tSeq (tAsg (tCB (rListSq K) (tCons (tVar 3) tNil)) (gName 10))
    (tSeq (tAsg (tLc (iList K (tVar 3)) (gName 7) tYes (tBM K "list" (rPopAt) (tVar 10) (tCons (tCallS (sp_l_take K) (fun _ => E0) (tCons (tVar 0) (tCons (tCB (rLenA K) (tCons (tVar 10) tNil)) tNil))) tNil)) [7]) (gName 11))
    (tRet (tLc (iList K (tVar 11)) (gName 7) (tOr (tTest (tOp (rNeNil K) (tDGet (tVar 5) (tVar 7)) (tLst tNil))) (tTest (tOp (rEqA K) (tCallS (sp_l_take K) (fun _ => E0) (tCons (tVar 0) (tCons (tC (.int 2)) tNil))) (tC (.int 0))))) (tTup (tCons (tVar 7) (tCons (tDGet (tVar 5) (tVar 7)) tNil))) [7]))))))
def t_l_bad_deed (K : Fr) : TS := tSeq (tPar 2 3 (tCons (tOp (rIx K) (tMethS (He.ga K "Map") "walkers" (sp_Map_walkers K) (fun _ => E0) (tVar 1) tNil) (tC (.int 0))) (tCons (tOp (rIx K) (tMethS (He.ga K "Map") "hosts" (sp_Map_hosts K) (fun _ => E0) (tVar 1) tNil) (tC (.int 0))) tNil)))
    (tSeq (tAsg (tLst (tCons (tTup (tCons (tC (.str "write")) (tCons (tVar 3) (tCons (tC (.str "a")) tNil)))) (tCons (tTup (tCons (tC (.str "write")) (tCons (tVar 2) (tCons (tC (.str "A")) tNil)))) (tCons (tTup (tCons (tC (.str "write")) (tCons (tVar 2) (tCons (tC (.str "")) tNil)))) (tCons (tTup (tCons (tC (.str "write")) (tCons (tVar 2) (tCons (tC (.str "a1b2c3d4e5f6g")) tNil)))) (tCons (tC .non) tNil)))))) (gName 4))
    (tSeq (tAsg (tOp (rAddA K) (tVar 4) (tLst (tCons (tTup (tCons (tC (.str "write")) (tCons (tVar 2) tNil))) (tCons (tTup (tCons (tC (.str "write")) (tCons (tVar 2) (tCons (tC (.str "a")) (tCons (tC (.str "b")) tNil))))) (tCons (tLst (tCons (tC (.str "write")) (tCons (tVar 2) (tCons (tC (.str "a")) tNil)))) (tCons (tTup (tCons (tC (.str "walk")) (tCons (tVar 2) tNil))) (tCons (tTup (tCons (tC (.str "walk")) tNil)) (tCons (tTup tNil) tNil)))))))) (gName 4))
    (tSeq (tAsg (tOp (rAddA K) (tVar 4) (tLst (tCons (tTup (tCons (tC (.str "walk")) (tCons (tVar 3) (tCons (tVar 3) tNil)))) (tCons (tTup (tCons (tC (.str "walk")) (tCons (tLst (tCons (tVar 3) tNil)) tNil))) (tCons (tTup (tCons (tC (.str "hand")) (tCons (tVar 3) (tCons (tVar 3) tNil)))) (tCons (tTup (tCons (tC (.str "write")) (tCons (tC .non) (tCons (tC (.str "a")) tNil)))) (tCons (tC (.int 7)) (tCons (tC (.str "walk")) tNil)))))))) (gName 4))
    (tSeq (tAsg (tOp (rAddA K) (tVar 4) (tLst (tCons (tTup (tCons (tC (.str "write")) (tCons (tVar 2) (tCons (tC (.int 7)) tNil)))) (tCons (tTup (tCons (tC (.str "walk")) (tCons (tC .non) tNil))) (tCons (tTup (tCons (tC (.str "Walk")) (tCons (tVar 3) tNil))) (tCons (tTup (tCons (tLst (tCons (tC (.str "walk")) tNil)) (tCons (tVar 3) tNil))) (tCons (tTup (tCons (tC (.str "write")) (tCons (tDNewK) (tCons (tC (.str "a")) tNil)))) (tCons (tDNewK) tNil)))))))) (gName 4))
    (tRet (tOp (rIx K) (tVar 4) (tCallS (sp_l_take K) (fun _ => E0) (tCons (tVar 0) (tCons (tCB (rLenA K) (tCons (tVar 4) tNil)) tNil)))))))))
def t_l_spoilt (K : Fr) : TS := tSeq (tPar 3 4 (tCons (tCallS (sp_l_take K) (fun _ => E0) (tCons (tVar 0) (tCons (tCB (rLenA K) (tCons (tVar 2) tNil)) tNil))) (tCons (tCallS (sp_l_take K) (fun _ => E0) (tCons (tVar 0) (tCons (tC (.int 6)) tNil))) tNil)))
    (tSeq (tPar 5 6 (tCons (tOp (rIx K) (tOp (rIx K) (tVar 2) (tVar 3)) (tC (.int 0))) (tCons (tOp (rIx K) (tOp (rIx K) (tVar 2) (tVar 3)) (tC (.int 1))) tNil)))
    (tSeq (tAsg (tOp (rIx K) (tVar 2) (tVar 3)) (gName 7))
    (tSeq (tIfS (tTest (tOp (rEqA K) (tVar 4) (tC (.int 0)))) (tAsg (tOp (rIx K) (tLst (tCons (tC .non) (tCons (tCB (rListSq K) (tCons (tVar 7) tNil)) (tCons (tTup (tCons (tVar 5) tNil)) (tCons (tTup (tCons (tVar 5) (tCons (tVar 6) (tCons (tC (.int 0)) tNil)))) (tCons (tTup tNil) (tCons (tVar 5) (tCons (tC (.int 7)) (tCons (tDNewK) tNil))))))))) (tCallS (sp_l_take K) (fun _ => E0) (tCons (tVar 0) (tCons (tC (.int 8)) tNil)))) (gName 7)) (tNext))
    (tSeq (tIfS (tTest (tOp (rEqA K) (tVar 4) (tC (.int 1)))) (tAsg (tTup (tCons (tOp (rIx K) (tLst (tCons (tC .non) (tCons (tC (.str "")) (tCons (tOp (rIx K) (tMethS (He.ga K "Map") "hosts" (sp_Map_hosts K) (fun _ => E0) (tVar 1) tNil) (tC (.int 0))) (tCons (tLst (tCons (tVar 5) tNil)) (tCons (tC (.int 7)) (tCons (tOp (rAddA K) (tVar 5) (tC (.str " "))) (tCons (tOp (rIx K) (tOp (rIx K) (tVar 2) (tC (.int 0))) (tC (.int 0))) tNil)))))))) (tCallS (sp_l_take K) (fun _ => E0) (tCons (tVar 0) (tCons (tC (.int 7)) tNil)))) (tCons (tVar 6) tNil))) (gName 7)) (tNext))
    (tSeq (tIfS (tTest (tOp (rEqA K) (tVar 4) (tC (.int 2)))) (tAsg (tTup (tCons (tVar 5) (tCons (tOp (rIx K) (tLst (tCons (tC .non) (tCons (tCB (rTupSq K) (tCons (tVar 6) tNil)) (tCons (tDNewK) (tCons (tC (.str "")) (tCons (tC (.int 7)) (tCons (tTup (tCons (tC (.str "walk")) (tCons (tOp (rIx K) (tMethS (He.ga K "Map") "hosts" (sp_Map_hosts K) (fun _ => E0) (tVar 1) tNil) (tC (.int 0))) tNil))) tNil))))))) (tCallS (sp_l_take K) (fun _ => E0) (tCons (tVar 0) (tCons (tC (.int 6)) tNil)))) tNil))) (gName 7)) (tNext))
    (tSeq (tIfS (tTest (tOp rGtI (tVar 4) (tC (.int 2)))) (tSeq (tAsg (tCallS (sp_l_take K) (fun _ => E0) (tCons (tVar 0) (tCons (tOp (rAddA K) (tCB (rLenA K) (tCons (tVar 6) tNil)) (tC (.int 1))) tNil))) (gName 8))
    (tAsg (tTup (tCons (tVar 5) (tCons (tOp (rAddA K) (tOp (rAddA K) (tSl (rSlA K) (tVar 6) tNoPart (tPart (tVar 8))) (tLst (tCons (tCallS (sp_l_bad_deed K) (fun _ => E0) (tCons (tVar 0) (tCons (tVar 1) tNil))) tNil))) (tSl (rSlA K) (tVar 6) (tPart (tVar 8)) tNoPart)) tNil))) (gName 7))) (tNext))
    (tRet (tOp (rAddA K) (tOp (rAddA K) (tSl (rSlA K) (tVar 2) tNoPart (tPart (tVar 3))) (tLst (tCons (tVar 7) tNil))) (tSl (rSlA K) (tVar 2) (tPart (tOp (rAddA K) (tVar 3) (tC (.int 1)))) tNoPart)))))))))
def t_l_is_row (K : Fr) : TS := tSeq (tIfS (tOr (tNot (tB (tCB (rIsi K) (tCons (tVar 0) (tCons (tC (.ty "tuple")) tNil))))) (tTest (tOp (rNeA K) (tCB (rLenA K) (tCons (tVar 0) tNil)) (tC (.int 2))))) (tRet (tC (.bl false))) (tNext))
    (tRet (tAndV (tCB (rIsi K) (tCons (tOp (rIx K) (tVar 0) (tC (.int 0))) (tCons (tC (.ty "str")) tNil))) (tCB (rIsi K) (tCons (tOp (rIx K) (tVar 0) (tC (.int 1))) (tCons (tC (.ty "list")) tNil)))))
def t_l_is_word (K : Fr) : TS := tSeq (tAsg (tC (.str "abcdefghijklmnopqrstuvwxyz0123456789")) (gName 1))
    (tSeq (tIfS (tOr (tNot (tB (tCB (rIsi K) (tCons (tVar 0) (tCons (tC (.ty "str")) tNil))))) (tNot (tTest (tChain rLeI rLeI (tC (.int 1)) (tCB (rLenA K) (tCons (tVar 0) tNil)) (tC (.int 12)))))) (tRet (tC (.bl false))) (tNext))
    (tRet (tOp (rEqNil K) (tLc (iStr (tVar 0)) (gName 2) (tTest (tOp rNiSgn (tVar 2) (tVar 1))) (tVar 2) [2]) (tLst tNil))))
def t_l_is_deed (K : Fr) : TS := tSeq (tIfS (tOr (tNot (tB (tCB (rIsi K) (tCons (tVar 0) (tCons (tC (.ty "tuple")) tNil))))) (tTest (tOp rLtI (tCB (rLenA K) (tCons (tVar 0) tNil)) (tC (.int 2))))) (tRet (tC (.bl false))) (tNext))
    (tSeq (tIfS (tTest (tOp (rEqA K) (tCB (rLenA K) (tCons (tVar 0) tNil)) (tC (.int 2)))) (tRet (tAndV (tOp (rEqQ K) (tOp (rIx K) (tVar 0) (tC (.int 0))) (tC (.str "walk"))) (tOp (rInQ K false) (tOp (rIx K) (tVar 0) (tC (.int 1))) (tMethS (He.ga K "Map") "hosts" (sp_Map_hosts K) (fun _ => E0) (tVar 1) tNil)))) (tNext))
    (tRet (tAndV (tOp (rEqA K) (tCB (rLenA K) (tCons (tVar 0) tNil)) (tC (.int 3))) (tAndV (tOp (rEqQ K) (tOp (rIx K) (tVar 0) (tC (.int 0))) (tC (.str "write"))) (tAndV (tOp (rInQ K false) (tOp (rIx K) (tVar 0) (tC (.int 1))) (tMethS (He.ga K "Map") "walkers" (sp_Map_walkers K) (fun _ => E0) (tVar 1) tNil)) (tCallS (sp_l_is_word K) (fun _ => E0) (tCons (tOp (rIx K) (tVar 0) (tC (.int 2))) tNil)))))))
def t_l_due (K : Fr) : TS := tSeq (tIfS (tNot (tB (tCB (rIsi K) (tCons (tVar 0) (tCons (tC (.ty "list")) tNil))))) (tRet (tC (.str "rows"))) (tNext))
    (tSeq (tAsg (tLst tNil) (gName 2))
    (tSeq (tFor (iEnum K (tCons (tVar 0) tNil)) (gTup K 2 (gCons (gName 3) (gCons (gName 4) gNil))) (tSeq (tIfS (tOr (tNot (tB (tCB (rIsi K) (tCons (tVar 4) (tCons (tC (.ty "tuple")) tNil))))) (tOr (tTest (tOp (rNeA K) (tCB (rLenA K) (tCons (tVar 4) tNil)) (tC (.int 2)))) (tOr (tTest (tOp (rInQ K true) (tOp (rIx K) (tVar 4) (tC (.int 0))) (tMethS (He.ga K "Map") "walkers" (sp_Map_walkers K) (fun _ => E0) (tVar 1) tNil))) (tTest (tOp (rInQ K false) (tOp (rIx K) (tVar 4) (tC (.int 0))) (tVar 2)))))) (tRet (tCB (rStrI) (tCons (tVar 3) tNil))) (tNext))
    (tSeq (tIfS (tOr (tNot (tB (tCB (rIsi K) (tCons (tOp (rIx K) (tVar 4) (tC (.int 1))) (tCons (tC (.ty "list")) tNil))))) (tTest (tOp (rNeNil K) (tLc (iList K (tOp (rIx K) (tVar 4) (tC (.int 1)))) (gName 5) (tNot (tB (tCallS (sp_l_is_deed K) (fun _ => E0) (tCons (tVar 5) (tCons (tVar 1) tNil))))) (tVar 5) [5]) (tLst tNil)))) (tRet (tOp (rIx K) (tVar 4) (tC (.int 0)))) (tNext))
    (tDrop (tBM K "list" (rAppend) (tVar 2) (tCons (tOp (rIx K) (tVar 4) (tC (.int 0))) tNil))))))
    (tRet (tC .non))))
def t_l_right (K : Fr) : TS := tSeq (tPar 2 3 (tCons (tCallS (sp_l_due K) (fun _ => E0) (tCons (tVar 1) (tCons (tVar 0) tNil))) (tCons (tCB (rReprQ K) (tCons (tVar 1) tNil)) tNil)))
    (tSeq (tAsg (tC (.str "odd")) (gName 4))
    (tSeq (fun D σ H => (fun W : WX => tSeq (tAsg (tMakeS (He.ga K "Plan") (sp_Plan_init K) (WE W) (tCons (tVar 0) (tCons (tVar 1) tNil))) (gName 5))
    (tAsg (tIf (tTest (tOp rNotNo (tVar 2) (tC .non))) (tC .non) (tVar 5)) (gName 4))) (wAs K (.ref (He.ga K "NoPlan")) 6 (fun a cls d => tAsg (tIf (tAnd (tB (tCB (rIsEd K (He.ga K "NoPlan") a cls d) (tCons (tVar 6) (tCons (tC (.ref (He.ga K "WalkError"))) tNil)))) (tNot (tB (tCB (rIsEd K (He.ga K "NoPlan") a cls d) (tCons (tVar 6) (tCons (tC (.ref (He.ga K "NoText"))) tNil)))))) (tXf a cls d (He.ga K "NoPlan") "who" (tVar 6)) (tC (.str "odd"))) (gName 4)) (fun _ _ _ _ => False) D) D σ H)
    (tSeq (tIfS (tTest (tOp (rNeA K) (tCB (rReprQ K) (tCons (tVar 1) tNil)) (tVar 3))) (tRet (tC (.bl false))) (tNext))
    (tSeq (tIfS (tTest (tOp rNotNo (tVar 2) (tC .non))) (tRet (tOp (rEqA K) (tVar 4) (tVar 2))) (tNext))
    (tSeq (tIfS (tOr (tB (tCB (rIsi K) (tCons (tVar 4) (tCons (tC (.ty "str")) tNil)))) (tOr (tTest (tOp (rNeA K) (tCB (rReprQ K) (tCons (tMethS (He.ga K "Plan") "rows" (sp_Plan_rows K) (fun _ => E0) (tVar 4) tNil) tNil)) (tVar 3))) (tNot (tTest (tOp (rEqG (DIns (He.ga K "Map") (R_Map K))) (tMethS (He.ga K "Plan") "grounds" (sp_Plan_grounds K) (fun _ => E0) (tVar 4) tNil) (tVar 0)))))) (tRet (tC (.bl false))) (tNext))
    (tRet (tOp (rEqA K) (tCB (rLenOwn (He.ga K "Plan") (sp_Plan_len K)) (tCons (tVar 4) tNil)) (tCB (rSum K) (tCons (tLc (iList K (tVar 1)) (gName 7) tYes (tCB (rLenA K) (tCons (tOp (rIx K) (tVar 7) (tC (.int 1))) tNil)) [7]) tNil)))))))))
def t_law (K : Fr) : TS := tSeq (tAsg (tCallS (sp_l_grounds K) (fun _ => E0) (tCons (tCallS (sp_l_pot K) (fun _ => E0) (tCons (tVar 0) (tCons (tC (.int 0)) tNil))) tNil)) (gName 1))
    (tSeq (tFor (iRng2 (tCons (tC (.int 1)) (tCons (tCB (rMax2I) (tCons (tC (.int 4)) (tCons (tCB (rMin2I) (tCons (tC (.int 13)) (tCons (tCB (rLenA K) (tCons (tVar 0) tNil)) tNil))) tNil))) tNil))) (gName 2) (tSeq (tAsg (tCallS (sp_l_pot K) (fun _ => E0) (tCons (tVar 0) (tCons (tVar 2) tNil))) (gName 3))
    (tSeq (tAsg (tCallS (sp_l_rows K) (fun _ => E0) (tCons (tVar 3) (tCons (tVar 1) (tCons (tC (.int 6)) tNil)))) (gName 4))
    (tSeq (tFor (iRng1 (tCons (tCallS (sp_l_take K) (fun _ => E0) (tCons (tVar 3) (tCons (tC (.int 3)) tNil))) tNil)) (gName 5) (tIfS (tAnd (tTest (tOp (rNeNil K) (tVar 4) (tLst tNil))) (tB (tCB (rAll K) (tCons (tLc (iList K (tVar 4)) (gName 7) tYes (tCallS (sp_l_is_row K) (fun _ => E0) (tCons (tVar 7) tNil)) [7]) tNil)))) (tAsg (tCallS (sp_l_spoilt K) (fun _ => E0) (tCons (tVar 3) (tCons (tVar 1) (tCons (tVar 4) tNil)))) (gName 4)) (tNext)))
    (tIfS (tNot (tB (tCallS (sp_l_right K) (fun _ => E0) (tCons (tVar 1) (tCons (tVar 4) tNil))))) (tRet (tC (.bl false))) (tNext))))))
    (tSeq (tFor (iList K (tLst (tCons (tC .non) (tCons (tTup tNil) (tCons (tDNewK) (tCons (tC (.str "rows")) (tCons (tC (.int 7)) (tCons (tC (.bl true)) (tCons (tCB (rTupSq K) (tCons (tCallS (sp_l_rows K) (fun _ => E0) (tCons (tCallS (sp_l_pot K) (fun _ => E0) (tCons (tVar 0) (tCons (tC (.int 1)) tNil))) (tCons (tVar 1) (tCons (tC (.int 3)) tNil)))) tNil)) tNil))))))))) (gName 6) (tIfS (tNot (tB (tCallS (sp_l_right K) (fun _ => E0) (tCons (tVar 1) (tCons (tVar 6) tNil))))) (tRet (tC (.bl false))) (tNext)))
    (tRet (tCallS (sp_l_right K) (fun _ => E0) (tCons (tVar 1) (tCons (tLst tNil) tNil))))))
end W81
namespace W81
open PySem PySem.Spec PyProof.Rows L2 LiI WB
open Evl hiding Ex
local macro_rules | `(tactic| walk_at "o") => `(tactic| dsimp only [tSeq, tIfS, tNext, tRet, tRetN, tDrop, tAsg, gName, tNever])
section
variable {K : Fr} {mg : Str → Option Value} {vs : List V} {H : Hp} {Q : VK} {E : XK}
theorem pure_NoMap_init (T : Tx K mg) (h : sp_NoMap_init K vs H Q E) : t_NoMap_init K { nx := fun _ H' => Q .non H', rt := Q } (start N_NoMap_init vs) H := by
  obtain ⟨e, a, b, rfl, he, k⟩ := h
  refine ⟨_, rfl, e, _, _, rfl, (by decide), T.x_NoMap.1, he, ?_⟩
  refine ⟨_, rfl, _, rfl, e, _, rfl, T.x_NoMap.1, T.n_NoMap_what, .inl ⟨he, fun dx hdx hne => ?_⟩⟩
  refine ⟨_, rfl, _, rfl, e, _, rfl, T.x_NoMap.1, T.n_NoMap_who, .inr ⟨dx, _, upd_same, (by rw [upd_ne hne]; exact upd_same), (by show 1 ≤ 900; decide), ?_⟩⟩
  refine k dx _ hdx hne ?_ upd_same fun c o hc e1 => ?_
  · rw [upd_ne (Ne.symm hne), upd_same]
  · rw [upd_ne (ne_of_none e1 hdx), upd_ne hc, upd_ne (ne_of_none e1 hdx)]
    exact e1
theorem pure_NoPlan_init (T : Tx K mg) (h : sp_NoPlan_init K vs H Q E) : t_NoPlan_init K { nx := fun _ H' => Q .non H', rt := Q } (start N_NoPlan_init vs) H := by
  obtain ⟨e, a, rfl, he, k⟩ := h
  refine ⟨_, rfl, e, _, _, rfl, (by decide), T.x_NoPlan.1, he, ?_⟩
  refine ⟨_, rfl, _, rfl, e, _, rfl, T.x_NoPlan.1, T.n_NoPlan_who, .inl ⟨he, fun dx hdx hne => ?_⟩⟩
  refine k dx _ hdx hne upd_same (by rw [upd_ne hne]; exact upd_same) fun c o hc e1 => ?_
  rw [upd_ne hc, upd_ne (ne_of_none e1 hdx)]
  exact e1
theorem all_signs {z : Str} {i : Nat} {te : TE} {tl : TE} {σ : L2.St} {vs : List Nat} (p : Nat → Bool) (hz : z.length ≤ 100000) (hl : ∀ Q' : VK, Q' (.str z) H → tl σ H Q')
    (hw : ∀ v, wipe ((wipe σ vs).set i (some v)) vs = wipe σ vs) (hb : ∀ c H1 (Q' : VK), Ex H H1 → Q' (.bl (p c)) H1 → te ((wipe σ vs).set i (some (.str (sgn c)))) H1 Q')
    (q : ∀ H', Ex H H' → Q (.bl (z.cps.toList.all p)) H') : tCB (rAll K) (tCons (tLc (iStr tl) (gName i) tYes te vs) tNil) σ H Q := by
  refine cb1 (lc_of (seq_str (z := z)) (fun R r => hl _ ⟨z, rfl, r⟩) (fun _ => true) (fun x y _ => ∀ c, x = .str (sgn c) → y = .bl (p c)) (fun _ _ => trivial) (by simp [signsV]; have : z.cps.size = z.length := rfl; omega) ?_ ?_)
  · intro D hD x hx H1 e1 _ k ky _ hy
    obtain ⟨c, _, rfl⟩ := List.mem_map.mp hx
    refine ⟨hw _, ?_⟩
    refine hb c H1 _ e1 (hy rfl _ _ ex_r fun H5 _ d hd => ?_)
    have e2 : c = d := by
      have h3 : sgn c = sgn d := V.str.inj hd
      simpa [sgn] using h3
    rw [e2]
  · intro D ys H' hD e hy r
    refine ⟨D, z.cps.toList.map p, rfl, SqL.of ?_, ?_⟩
    · rw [hy]
      have h2 : ∀ (l : List Nat) (ys : List V), Paired (fun x y => ∀ c, x = V.str (sgn c) → y = V.bl (p c)) (l.map fun c => V.str (sgn c)) ys → ys = (l.map p).map V.bl := by
        intro l
        induction l with
        | nil => intro ys h; cases h; rfl
        | cons c l ih =>
          intro ys h
          cases h with
          | cons h t => rw [h c rfl, ih _ t]; rfl
      have h3 : (signsV z).filter (fun _ => true) = signsV z := List.filter_eq_self.mpr fun _ _ => rfl
      rw [h3] at r
      rw [h2 _ _ r]
    · have h4 : (z.cps.toList.map p).all id = z.cps.toList.all p := by rw [List.all_map]; rfl
      rw [h4]
      exact q H' e
theorem isi_any {x c : V} {t u : Value} {b : Bool} {σ : L2.St} {ta tb : TE} {Q : VK} (ha : ∀ Q' : VK, Q' x H → ta σ H Q') (hb : ∀ Q' : VK, Q' c H → tb σ H Q') (k : ClsV c u) (ty : TyX K H x t) (e : PySem.W.kitOne K t u = some b) (q : Q (.bl b) H) :
    tCB (rIsi K) (tCons ta (tCons tb tNil)) σ H Q := ha _ (hb _ ⟨x, c, t, u, b, rfl, k, ty, e, q⟩)
theorem isi_str {z : Str} {σ : L2.St} {ta : TE} {Q : VK} (ha : ∀ Q' : VK, Q' (.str z) H → ta σ H Q') (q : Q (.bl true) H) : tCB (rIsi K) (tCons ta (tCons (tC (.ty "str")) tNil)) σ H Q :=
  isi_any ha v_c (.ty "str") (.base (.str z)) (kit_ty (by decide +kernel)) q
theorem chain_len {z : Str} {σ : L2.St} {lo hi : Int} {ta tb tc : TE} {Q : VK} (hz : z.length ≤ 100000) (ha : ∀ Q' : VK, Q' (.int lo) H → ta σ H Q') (hb : ∀ Q' : VK, Q' (.str z) H → tb σ H Q') (hc : ∀ Q' : VK, Q' (.int hi) H → tc σ H Q')
    (q : Q (.bl (decide (lo ≤ z.length) && decide ((z.length : Int) ≤ hi))) H) : tChain rLeI rLeI ta (tCB (rLenA K) (tCons tb tNil)) tc σ H Q := by
  refine ha _ (hb _ (.inr ⟨z, rfl, small_line (by omega), lo, _, rfl, rfl, _, rfl, ?_⟩))
  by_cases h : lo ≤ z.length
  · rw [decide_eq_true h] at q ⊢
    exact ite_t rfl (hc _ ⟨_, hi, rfl, rfl, q⟩)
  · rw [decide_eq_false h] at q ⊢
    exact ite_f rfl q
def tyN : PyData → String
  | .none => "NoneType"
  | .bool _ => "bool"
  | .int _ => "int"
  | .str _ => "str"
  | .list _ => "list"
  | .tuple _ => "tuple"
  | .dict _ => "dict"
theorem ty_q {v : V} {d : PyData} (h : Dq K H v d) : TyX K H v (.type (tyN d)) := by
  cases h with
  | non => exact .base .non
  | bl b => exact .base (.bl b)
  | int i => exact .base (.int i)
  | str z => exact .base (.str z)
  | lst h _ => exact .base (.lst h)
  | tup h _ => exact .base (.tup h)
  | dic h => exact .base (.dK h)
def isS : PyData → Bool
  | .str _ => true
  | _ => false
def isT : PyData → Bool
  | .tuple _ => true
  | _ => false
def isLs : PyData → Bool
  | .list _ => true
  | _ => false
theorem kS (d : PyData) : PySem.W.kitOne K (.type (tyN d)) (.type "str") = some (isS d) := by cases d <;> exact kit_ty (by dsimp only [tyN, isS, isT, isLs]; decide +kernel)
theorem kT (d : PyData) : PySem.W.kitOne K (.type (tyN d)) (.type "tuple") = some (isT d) := by cases d <;> exact kit_ty (by dsimp only [tyN, isS, isT, isLs]; decide +kernel)
theorem kL (d : PyData) : PySem.W.kitOne K (.type (tyN d)) (.type "list") = some (isLs d) := by cases d <;> exact kit_ty (by dsimp only [tyN, isS, isT, isLs]; decide +kernel)
theorem ev_isS {σ : L2.St} {te : TE} {v : V} {d : PyData} (h : Ev te σ H v) (q : Dq K H v d) : Ev (tCB (rIsi K) (tCons te (tCons (tC (.ty "str")) tNil))) σ H (.bl (isS d)) := ev_isi h ev_c (.ty "str") (fun _ e => ty_q (q.mono e)) (kS d)
theorem ev_isTu {σ : L2.St} {te : TE} {v : V} {d : PyData} (h : Ev te σ H v) (q : Dq K H v d) : Ev (tCB (rIsi K) (tCons te (tCons (tC (.ty "tuple")) tNil))) σ H (.bl (isT d)) := ev_isi h ev_c (.ty "tuple") (fun _ e => ty_q (q.mono e)) (kT d)
theorem ev_isLi {σ : L2.St} {te : TE} {v : V} {d : PyData} (h : Ev te σ H v) (q : Dq K H v d) : Ev (tCB (rIsi K) (tCons te (tCons (tC (.ty "list")) tNil))) σ H (.bl (isLs d)) := ev_isi h ev_c (.ty "list") (fun _ e => ty_q (q.mono e)) (kL d)
theorem pure_is_made_of (T : Tx K mg) (h : sp_is_made_of K vs H Q E) : t_is_made_of K { nx := fun _ H' => Q .non H', rt := Q } (start N_is_made_of vs) H := by
  obtain ⟨v, d, signs, n, rfl, hd, hz, k⟩ := h
  unfold t_is_made_of; walk_at "o"
  by_cases hS : isS d = true
  · cases hd with
    | str z =>
      have hz := hz z rfl
      refine isi_str (v_var rfl) ⟨_, rfl, iteF ?_⟩
      refine chain_len hz v_c (v_var rfl) (v_var rfl) ⟨_, rfl, ?_⟩
      cases hb : (decide ((1 : Int) ≤ z.length) && decide ((z.length : Int) ≤ n)) with
      | false =>
        refine ite_t rfl ?_
        have e : isMadeD (.str z) signs n = false := by show isMade z signs n = false; unfold isMade; rw [hb]; rfl
        have := k H ex_r
        rw [e] at this
        exact this
      | true =>
        refine ite_f rfl ?_
        have e : isMadeD (.str z) signs n = z.cps.toList.all fun c => decide (c ∈ signs.cps.toList) := by show isMade z signs n = _; unfold isMade; rw [hb]; rfl
        rw [e] at k
        exact all_signs _ hz (v_var rfl) (fun _ => rfl) (fun c H1 Q' e1 q => ⟨_, rfl, _, rfl, c, signs, rfl, rfl, q⟩) k
    | non => cases hS
    | bl => cases hS
    | int => cases hS
    | lst => cases hS
    | tup => cases hS
    | dic => cases hS
  · have hf : isS d = false := by simpa using hS
    refine ev_isS (Evl.ev_var rfl) hd H (Evl.Ex.refl _) _ fun H1 e1 => ⟨_, rfl, ?_⟩
    rw [hf]
    refine iteT ?_
    refine ite_t rfl ?_
    have := k H1 e1
    have e : isMadeD d signs n = false := by
      cases d <;> first | rfl | cases hf
    rw [e] at this
    exact this
theorem pure_is_name (T : Tx K mg) (h : sp_is_name K vs H Q E) : t_is_name K { nx := fun _ H' => Q .non H', rt := Q } (start N_is_name vs) H := by
  obtain ⟨z, rfl, hz, k⟩ := h
  exact ⟨_, rfl, .str z, .str z, _, _, rfl, .str z, fun y hy => by cases hy; omega, k⟩
theorem pure_is_word (T : Tx K mg) (h : sp_is_word K vs H Q E) : t_is_word K { nx := fun _ H' => Q .non H', rt := Q } (start N_is_word vs) H := by
  obtain ⟨v, d, rfl, hd, hz, k⟩ := h
  have e : ("abcdefghijklmnopqrstuvwxyz" : Str) ++ ("0123456789" : Str) = wordSigns := by decide +kernel
  refine ⟨_, rfl, .inr (.inl ⟨_, _, rfl, rfl, small_line (by decide +kernel), ?_⟩)⟩
  rw [e]
  exact ⟨v, d, wordSigns, 12, rfl, hd, hz, k⟩
theorem made_NoMap (T : Tx K mg) {x y : V} {Q : XK} (q : ∀ d H', Ex H H' → Q (.ref (cNoMap K)) (some d) H') (ta : TA) (σ : L2.St) (ht : ∀ Q' : List V → Hp → Prop, Q' [x, y] H → ta σ H Q') : tMkO (cNoMap K) (sp_NoMap_init K) [] ta σ H Q := by
  refine ht _ ⟨(by show 2 ≤ 1000; decide), fun a ha => ⟨a, x, y, rfl, upd_same, fun d H' hd hne h1 h2 e1 => ⟨rfl, d, _, h1, h2, ?_, ?_⟩⟩⟩
  · rw [upd_ne hne] at hd
    exact hd
  · refine q d _ fun c o hc => ?_
    have n1 : c ≠ a := ne_of_none hc ha
    have n2 : c ≠ d := by
      rw [upd_ne hne] at hd
      exact ne_of_none hc hd
    rw [upd_ne n2, del_ne n1]
    exact e1 c o n1 (by rw [upd_ne n1]; exact hc)
theorem made_NoPlan (T : Tx K mg) {x : V} {Q : XK} (q : ∀ d H', Ex H H' → H' d = some (.xd [("who", x)]) → Q (.ref (cNoPlan K)) (some d) H') (ta : TA) (σ : L2.St) (ht : ∀ Q' : List V → Hp → Prop, Q' [x] H → ta σ H Q') : tMkO (cNoPlan K) (sp_NoPlan_init K) [] ta σ H Q := by
  refine ht _ ⟨(by show 1 ≤ 1000; decide), fun a ha => ⟨a, x, rfl, upd_same, fun d H' hd hne h1 h2 e1 => ⟨rfl, d, _, h1, h2, ?_, ?_⟩⟩⟩
  · rw [upd_ne hne] at hd
    exact hd
  · refine q d _ (fun c o hc => ?_) upd_same
    have n1 : c ≠ a := ne_of_none hc ha
    have n2 : c ≠ d := by
      rw [upd_ne hne] at hd
      exact ne_of_none hc hd
    rw [upd_ne n2, del_ne n1]
    exact e1 c o n1 (by rw [upd_ne n1]; exact hc)
theorem pure_want (T : Tx K mg) (h : sp_want K vs H Q E) : t_want K E { nx := fun _ H' => Q .non H', rt := Q } (start N_want vs) H := by
  obtain ⟨b, x, y, rfl, k1, k2⟩ := h
  refine ⟨_, rfl, _, rfl, ?_⟩
  cases b with
  | true => exact iteF (k1 rfl)
  | false => exact iteT (made_NoMap T (fun d H' e => k2 rfl d H' e) _ _ fun Q' q => ⟨_, rfl, _, rfl, q⟩)
end
end W81
namespace W81
open PySem PySem.Spec PyProof.Rows L2 LiI WB
open Evl hiding Ex
local macro_rules | `(tactic| walk_at "o") => `(tactic| dsimp only [tSeq, tIfS, tNext, tRet, tRetN, tDrop, tAsg, gName, tNever])
section
variable {K : Fr} {mg : Str → Option Value} {vs : List V} {H : Hp} {Q : VK} {E : XK}
theorem want_ {tb tx ty : TE} {σ : L2.St} {b : Bool} {x y : V} (hb : Ev tb σ H (.bl b)) (hx : Ev tx σ H x) (hy : Ev ty σ H y) (q1 : b = true → ∀ H1, Ex H H1 → Q .non H1) (q2 : b = false → ∀ d H', Ex H H' → E (.ref (cNoMap K)) (some d) H') :
    tCallS (sp_want K) (fun _ => E) (tCons tb (tCons tx (tCons ty tNil))) σ H Q :=
  hb H (Evl.Ex.refl _) _ fun H1 e1 => hx H1 e1 _ fun H2 e2 => hy H2 (e1.trans e2) _ fun H3 e3 => ⟨b, x, y, rfl, fun h => q1 h H3 ((e1.trans e2).trans e3), fun h d H' e => q2 h d H' (((e1.trans e2).trans e3).trans e)⟩
theorem ev_isn {te : TE} {σ : L2.St} {z : Str} (h : Ev te σ H (.str z)) (hz : z.length ≤ 5000) {f : L2.St → XK} : Ev (tCallS (sp_is_name K) f (tCons te tNil)) σ H (.bl (isName z)) :=
  ev_cS (ea_cons h ea_nil) fun H1 e Q q => ⟨z, rfl, hz, q⟩
theorem ev_isL {te : TE} {σ : L2.St} {a : Addr} {xs : List V} (h : Ev te σ H (.ref a)) (ha : H a = some (.lst xs)) : Ev (tCB (rIsi K) (tCons te (tCons (tC (.ty "list")) tNil))) σ H (.bl true) :=
  ev_isi h ev_c (.ty "list") (fun H1 e => .base (.lst (e _ _ ha))) (kit_ty (by decide +kernel))
theorem ev_isT {te : TE} {σ : L2.St} {a : Addr} {xs : List V} (h : Ev te σ H (.ref a)) (ha : H a = some (.tup xs)) : Ev (tCB (rIsi K) (tCons te (tCons (tC (.ty "tuple")) tNil))) σ H (.bl true) :=
  ev_isi h ev_c (.ty "tuple") (fun H1 e => .base (.tup (e _ _ ha))) (kit_ty (by decide +kernel))
theorem sv_at {l : List Str} {i : Nat} {x : V} (h : (SV l)[i]? = some x) : ∃ z, l[i]? = some z ∧ x = .str z := by
  rw [List.getElem?_map] at h
  cases e : l[i]? with
  | none => rw [e] at h; cases h
  | some z => rw [e] at h; exact ⟨z, rfl, (Option.some.inj h).symm⟩
theorem pure_want_hosts (T : Tx K mg) (h : sp_want_hosts K vs H Q E) : t_want_hosts K E { nx := fun _ H' => Q .non H', rt := Q } (start N_want_hosts vs) H := by
  obtain ⟨a, hs, rfl, ha, ⟨hl, hz⟩, k1, k2⟩ := h
  have k2' : ∀ {b : Bool}, (b = true → okHosts hs = false) → b = true → ∀ d H', Ex H H' → E (.ref (cNoMap K)) (some d) H' := fun h1 h2 => k2 (h1 h2)
  unfold t_want_hosts; walk_at "o"
  refine want_ (ev_isL (ev_var rfl) ha) ev_c ev_c (fun _ H1 e1 => ?_) (fun h => by cases h)
  refine for_enum (a := a) (xs := SV hs) (v_var rfl) (fun i σ' H' => ∃ v1 v2, σ' = [some (.ref a), v1, v2] ∧ Ex H H' ∧ (hs.take i).all isName = true ∧ (hs.take i).Nodup) ⟨none, none, rfl, e1, rfl, List.nodup_nil⟩
    (fun i σ' H' _ ⟨_, _, _, e, _⟩ => sq_of (e _ _ ha)) ?_ ?_
  · rintro i x σ' H2 hx ⟨v1, v2, rfl, e2, hn, hd⟩ T0 hT
    obtain ⟨z, hzi, rfl⟩ := sv_at hx
    have hm : z ∈ hs := List.mem_of_getElem? hzi
    have hi : i < hs.length := (List.getElem?_eq_some_iff.mp hzi).1
    have e3 : Ex H (upd H2 T0 (.tup [.int (i : Int), .str z])) := e2.trans (Evl.Ex.new hT)
    refine want_ (ev_isn (ev_var rfl) (hz z hm)) ev_c (ev_strI (ev_var rfl) (by omega)) (fun hz1 H4 e4 => ?_) (fun hf d H' e => k2 ?_ d H' (e3.trans e))
    · refine want_ (ev_niLn (ev_var rfl) (by rw [show SV (hs.take i) = (SV hs).take i from List.map_take]; exact el_sliceTo (ev_var rfl) (ev_var rfl) (sq_of ((e3.trans e4) _ _ ha)))) ev_c (ev_var rfl) (fun h5 H5 e5 => ?_) (fun h5 d H' e => k2 ?_ d H' ((e3.trans e4).trans e))
      · have nm : z ∉ hs.take i := by simpa using h5
        refine ⟨_, _, rfl, (e3.trans e4).trans e5, ?_, ?_⟩
        · rw [take_succ_of hzi, List.all_append, hn]
          simp [hz1]
        · rw [take_succ_of hzi]
          exact List.nodup_append.mpr ⟨hd, by simp, fun u hu w hw => by
            rw [List.mem_singleton] at hw
            rintro rfl
            rw [hw] at hu
            exact nm hu⟩
      · have hm2 : z ∈ hs.take i := by simpa using h5
        have nd : ¬ hs.Nodup := fun nd => by
          rw [← List.take_append_drop i hs] at nd
          have h7 : z ∈ hs.drop i := by
            rw [List.drop_eq_getElem_cons hi]
            have h8 : hs[i] = z := (List.getElem?_eq_some_iff.mp hzi).2
            rw [h8]
            exact List.mem_cons_self
          exact (List.nodup_append.mp nd).2.2 z hm2 z h7 rfl
        unfold okHosts
        rw [decide_eq_false nd]
        simp
    · have h9 : hs.all isName = false := List.all_eq_false.mpr ⟨z, hm, by rw [hf]; exact Bool.false_ne_true⟩
      unfold okHosts
      rw [h9]
      rfl
  · rintro σ' H2 ⟨v1, v2, rfl, e2, hn, hd⟩
    have hlen : (SV hs).length = hs.length := List.length_map _
    rw [hlen, List.take_length] at hn hd
    refine want_ (ev_chain ev_c (ev_lenL (ev_var rfl) (sq_of (e2 _ _ ha))) ev_c) ev_c ev_c (fun h3 H3 e3 => k1 ?_ H3 (e2.trans e3)) (fun h3 d H3 e3 => k2 ?_ d H3 (e2.trans e3))
    · rw [hlen] at h3
      simp only [Bool.and_eq_true, decide_eq_true_eq] at h3
      unfold okHosts
      rw [hn, decide_eq_true hd, decide_eq_true (by omega), decide_eq_true (by omega)]
      rfl
    · rw [hlen] at h3
      unfold okHosts
      cases h4 : decide (2 ≤ hs.length) with
      | false => simp
      | true =>
        cases h5 : decide (hs.length ≤ 6) with
        | false => simp
        | true =>
          have h6 := of_decide_eq_true h4
          have h7 := of_decide_eq_true h5
          rw [decide_eq_true (by omega), decide_eq_true (by omega)] at h3
          cases h3
end
end W81
namespace W81
open PySem PySem.Spec PyProof.Rows L2 LiI WB
open Evl hiding Ex
local macro_rules | `(tactic| walk_at "o") => `(tactic| dsimp only [tSeq, tIfS, tNext, tRet, tRetN, tDrop, tAsg, gName, tNever])
theorem okRows_app (hs : List Str) : ∀ (l m : List (List Str)) (seen : List Str), okRows hs seen (l ++ m) = (okRows hs seen l && okRows hs (seen ++ l.map (·.headD "")) m)
  | [], m, seen => by simp [okRows]
  | r :: l, m, seen => by
    have ih := okRows_app hs l m (seen ++ [r.headD ""])
    show (okRow hs seen r && okRows hs (seen ++ [r.headD ""]) (l ++ m)) = _
    rw [ih]
    show _ = ((okRow hs seen r && okRows hs (seen ++ [r.headD ""]) l) && _)
    rw [Bool.and_assoc, List.append_assoc]
    rfl
theorem okRows_take {hs seen : List Str} {rows : List (List Str)} {i : Nat} {r : List Str} (h : rows[i]? = some r) : okRows hs seen (rows.take (i + 1)) = (okRows hs seen (rows.take i) && okRow hs (seen ++ (rows.take i).map (·.headD "")) r) := by
  rw [take_succ_of h, okRows_app]
  show (_ && (okRow hs _ r && true)) = _
  rw [Bool.and_true]
theorem okRow2 {hs seen : List Str} {n h : Str} : okRow hs seen [n, h] = (isName n && decide (n ∉ seen) && decide (h ∈ hs)) := rfl
theorem okRows_bad {hs seen : List Str} {rows : List (List Str)} {i : Nat} {r : List Str} (h : rows[i]? = some r) (b : okRow hs (seen ++ (rows.take i).map (·.headD "")) r = false) : okRows hs seen rows = false := by
  have e := okRows_app hs (rows.take (i + 1)) (rows.drop (i + 1)) seen
  rw [List.take_append_drop, okRows_take h, b, Bool.and_false, Bool.false_and] at e
  exact e
section
variable {K : Fr} {mg : Str → Option Value} {vs : List V} {H : Hp} {Q : VK} {E : XK}
theorem ev_andV2 {ta tb : TE} {σ : L2.St} {a b : Bool} (h1 : Ev ta σ H (.bl a)) (h2 : a = true → Ev tb σ H (.bl b)) : Ev (tAndV ta tb) σ H (.bl (a && b)) := ev_andV h1 h2
theorem pure_want_walkers (T : Tx K mg) (h : sp_want_walkers K vs H Q E) : t_want_walkers K E { nx := fun _ H' => Q .non H', rt := Q } (start N_want_walkers vs) H := by
  obtain ⟨a, hs, b, rows, rfl, ha, ⟨ps, hb, hp⟩, ⟨hl, hz⟩, ⟨hrl, hrs⟩, k1, k2⟩ := h
  have bad : okRows hs hs rows = false → okWalkers hs rows = false := fun e => by unfold okWalkers; rw [e]; rfl
  have plen : ps.length = rows.length := Paired.length hp
  unfold t_want_walkers; walk_at "o"
  refine want_ (ev_isL (ev_var rfl) hb) ev_c ev_c (fun _ H1 e1 => ?_) (fun h => by cases h)
  refine el_listSq (ev_var rfl) (sq_of (e1 _ _ ha)) H1 (Evl.Ex.refl _) _ fun nm H2 hn2 e2 hnm => ?_
  have nn : H nm = none := fresh_back e1 hn2
  refine for_enum (a := b) (xs := ps.map V.ref) (v_var rfl) (fun i σ' H' => ∃ v1 v2 v3 v4, σ' = [some (.ref a), some (.ref b), some (.ref nm), v1, v2, v3, v4] ∧ Ex H H' ∧ H' nm = some (.lst (SV (hs ++ (rows.take i).map (·.headD "")))) ∧ okRows hs hs (rows.take i) = true)
    ⟨none, none, none, none, rfl, e1.trans e2, by rw [hnm, List.take_zero]; simp, rfl⟩ (fun i σ' H' _ ⟨_, _, _, _, _, e, _⟩ => sq_of (e _ _ hb)) ?_ ?_
  · rintro i x σ' H3 hx ⟨v1, v2, v3, v4, rfl, e3, hnm3, hok⟩ T0 hT
    rw [List.getElem?_map] at hx
    obtain ⟨p, hpi, rfl⟩ : ∃ p, ps[i]? = some p ∧ x = .ref p := by
      cases e : ps[i]? with
      | none => rw [e] at hx; cases hx
      | some z => rw [e] at hx; exact ⟨z, rfl, (Option.some.inj hx).symm⟩
    obtain ⟨r, hri, hr⟩ := L2.paired_get hp hpi
    have hi : i < rows.length := (List.getElem?_eq_some_iff.mp hri).1
    have hrm : r ∈ rows := List.mem_of_getElem? hri
    obtain ⟨hr1, hr2⟩ := hrs r hrm
    have e4 : Ex H (upd H3 T0 (.tup [.int (i : Int), .ref p])) := e3.trans (Evl.Ex.new hT)
    have hnm4 : (upd H3 T0 (.tup [.int (i : Int), .ref p])) nm = some (.lst (SV (hs ++ (rows.take i).map (·.headD "")))) := by rw [upd_ne (ne_of_none hnm3 hT)]; exact hnm3
    generalize upd H3 T0 (.tup [.int (i : Int), .ref p]) = H4 at e4 hnm4
    have blen : ((SV r).length : Int) = (r.length : Int) := by rw [List.length_map]
    refine want_ (ev_andV2 (ev_isT (ev_var rfl) (e4 _ _ hr)) fun _ => ev_eqI (ev_lenT (ev_var rfl) (st_of (e4 _ _ hr))) ev_c) ev_c (ev_strI (ev_var rfl) (by omega)) (fun h2 H5 e5 => ?_) (fun h2 d H' e => k2 (bad (okRows_bad hri ?_)) d H' (e4.trans e))
    · have h2' : r.length = 2 := by
        rw [Bool.true_and, blen] at h2
        have := of_decide_eq_true h2
        omega
      obtain ⟨n, hm, rfl⟩ : ∃ n h, r = [n, h] := by
        match r, h2' with
        | [n, h], _ => exact ⟨n, h, rfl⟩
      have e45 := e4.trans e5
      refine ⟨_, rfl, p, SV [n, hm], rfl, st_of (e45 _ _ hr), rfl, _, _, rfl, _, _, rfl, rfl, ?_⟩
      walk_at "o"
      refine want_ (ev_isn (ev_var rfl) (hr2 n (by simp))) ev_c (ev_strI (ev_var rfl) (by omega)) (fun hn1 H6 e6 => ?_) (fun hf d H' e => k2 (bad (okRows_bad hri (by rw [okRow2, hf]; rfl))) d H' (e45.trans e))
      have e46 := e45.trans e6
      have hnm6 := e6 _ _ (e5 _ _ hnm4)
      refine want_ (ev_niL (ev_var rfl) (ev_var rfl) (sq_of hnm6)) ev_c (ev_var rfl) (fun hn2 H7 e7 => ?_) (fun hf d H' e => k2 (bad (okRows_bad hri ?_)) d H' (e46.trans e))
      · have hn2' : n ∉ hs ++ (rows.take i).map (·.headD "") := by
          intro hm
          rw [decide_eq_true hm] at hn2
          cases hn2
        have e47 := e46.trans e7
        refine want_ (ev_inL (ev_var rfl) (ev_var rfl) (sq_of (e47 _ _ ha))) ev_c (ev_var rfl) (fun hh H8 e8 => ?_) (fun hf d H' e => k2 (bad (okRows_bad hri ?_)) d H' (e47.trans e))
        · have hh' : hm ∈ hs := of_decide_eq_true hh
          have hnm8 := e8 _ _ (e7 _ _ hnm6)
          refine ⟨_, rfl, .inl ⟨rfl, _, sq_of hnm8⟩, _, rfl, nm, _, _, rfl, rfl, hnm8, small_lt (by simp; omega), ?_⟩
          refine ⟨_, _, _, _, rfl, Evl.Ex.mut (e47.trans e8) nn, ?_, ?_⟩
          · rw [upd_same, take_succ_of hri, List.map_append]
            simp
          · rw [okRows_take hri, hok]
            rw [okRow2, hn1, decide_eq_true hn2', decide_eq_true hh']
            rfl
        · rw [okRow2, hf]
          simp
      · have hm2 : n ∈ hs ++ (rows.take i).map (·.headD "") := by
          cases h : decide (n ∈ hs ++ (rows.take i).map (·.headD "")) with
          | true => exact of_decide_eq_true h
          | false => rw [h] at hf; cases hf
        rw [okRow2, decide_eq_false (fun z => z hm2)]
        simp
    · rw [Bool.true_and, blen] at h2
      have h3 := of_decide_eq_false h2
      match r, h3 with
      | [], _ => rfl
      | [_], _ => rfl
      | [_, _], h3 => exact absurd rfl h3
      | _ :: _ :: _ :: _, _ => rfl
  · rintro σ' H3 ⟨v1, v2, v3, v4, rfl, e3, hnm3, hok⟩
    have hlen : (ps.map V.ref).length = rows.length := by rw [List.length_map]; exact plen
    rw [hlen, List.take_length] at hok
    refine want_ (ev_chain ev_c (ev_lenL (ev_var rfl) (sq_of (e3 _ _ hb))) ev_c) ev_c ev_c (fun h3 H4 e4 => k1 ?_ H4 (e3.trans e4)) (fun h3 d H4 e4 => k2 ?_ d H4 (e3.trans e4))
    · rw [hlen] at h3
      simp only [Bool.and_eq_true, decide_eq_true_eq] at h3
      unfold okWalkers
      rw [hok, decide_eq_true (by omega), decide_eq_true (by omega)]
      rfl
    · rw [hlen] at h3
      unfold okWalkers
      cases h4 : decide (1 ≤ rows.length) with
      | false => simp
      | true =>
        cases h5 : decide (rows.length ≤ 5) with
        | false => simp
        | true =>
          have h6 := of_decide_eq_true h4
          have h7 := of_decide_eq_true h5
          rw [decide_eq_true (by omega), decide_eq_true (by omega)] at h3
          cases h3
end
end W81
namespace W81
open PySem PySem.Spec PyProof.Rows L2 LiI WB
open Evl hiding Ex
local macro_rules | `(tactic| walk_at "o") => `(tactic| dsimp only [tSeq, tIfS, tNext, tRet, tRetN, tDrop, tAsg, gName, tNever])
theorem okRows_all {hs : List Str} : ∀ {rows : List (List Str)} {seen : List Str}, okRows hs seen rows = true → (∀ r ∈ rows, ∃ n h, r = [n, h] ∧ isName n = true ∧ h ∈ hs) ∧ (seen.Nodup → (seen ++ rows.map (·.headD "")).Nodup)
  | [], seen, _ => by
    refine ⟨fun r hr => ?_, fun h => ?_⟩
    · cases hr
    · rw [List.map_nil, List.append_nil]; exact h
  | r :: rows, seen, h => by
    obtain ⟨h1, h2⟩ := Bool.and_eq_true_iff.mp (show (okRow hs seen r && okRows hs (seen ++ [r.headD ""]) rows) = true from h)
    obtain ⟨i1, i2⟩ := okRows_all h2
    obtain ⟨n, hm, rfl⟩ : ∃ n hm, r = [n, hm] := by
      match r, h1 with
      | [n, hm], _ => exact ⟨n, hm, rfl⟩
    rw [okRow2] at h1
    simp only [Bool.and_eq_true, decide_eq_true_eq] at h1
    obtain ⟨⟨a1, a2⟩, a3⟩ := h1
    refine ⟨fun r' hr => ?_, fun nd => ?_⟩
    · rcases List.mem_cons.mp hr with e | hr
      · exact ⟨n, hm, e, a1, a3⟩
      · exact i1 r' hr
    · have z := i2 (List.nodup_append.mpr ⟨nd, by simp, fun u hu w hw => by
        have hw2 : w = n := by simpa using hw
        rintro rfl
        rw [hw2] at hu
        exact a2 hu⟩)
      rw [List.append_assoc] at z
      exact z
theorem okMap_of {hs : List Str} {rows : List (List Str)} (h : okMap hs rows = true) : (∀ z ∈ hs, isName z = true) ∧ hs.Nodup ∧ 2 ≤ hs.length ∧ hs.length ≤ 6 ∧ (∀ r ∈ rows, ∃ n h, r = [n, h] ∧ isName n = true ∧ h ∈ hs) ∧ (hs ++ rows.map (·.headD "")).Nodup ∧ 1 ≤ rows.length ∧ rows.length ≤ 5 := by
  unfold okMap okHosts okWalkers at h
  simp only [Bool.and_eq_true, decide_eq_true_eq, List.all_eq_true] at h
  obtain ⟨⟨⟨⟨h1, h2⟩, h3⟩, h4⟩, ⟨h5, h6⟩, h7⟩ := h
  obtain ⟨i1, i2⟩ := okRows_all h5
  exact ⟨h1, h2, h3, h4, i1, i2 h2, h6, h7⟩
theorem pairs_fst (rows : List (List Str)) : (pairs rows).map (·.1) = rows.map (·.headD "") := by unfold pairs; rw [List.map_map]; rfl
theorem okMap_keys {hs : List Str} {rows : List (List Str)} (h : okMap hs rows = true) : ((pairs rows).map (·.1)).Nodup := by
  rw [pairs_fst]
  exact (List.nodup_append.mp (okMap_of h).2.2.2.2.2.1).2.1
theorem dkv_keys {ws : List (Str × Str)} (h : (ws.map (·.1)).Nodup) : ((dkv ws).map (·.1)).Nodup := by
  unfold dkv
  rw [List.map_map]
  have e : (ws.map ((·.1) ∘ fun w => ((Sum.inr w.1 : Key), V.str w.2))) = (ws.map (·.1)).map (fun z => (Sum.inr z : Key)) := by rw [List.map_map]; rfl
  rw [e]
  exact List.Pairwise.map _ (fun a b hab h => hab (Sum.inr.inj h)) h
section
variable {K : Fr} {mg : Str → Option Value} {vs : List V} {H : Hp} {Q : VK} {E : XK}
theorem mapF_hosts {l d : Addr} : (mapF l d).lookup ("all_hosts" : Str) = some (.ref l) := by
  unfold mapF
  rw [lookup_putF, if_neg (by decide +kernel), lookup_putF, if_pos rfl]
theorem mapF_homes {l d : Addr} : (mapF l d).lookup ("homes" : Str) = some (.ref d) := by
  unfold mapF
  rw [lookup_putF, if_pos rfl]
theorem mapF_no {l d : Addr} {m : Str} (h1 : ¬ m = "homes") (h2 : ¬ m = "all_hosts") : (mapF l d).lookup m = none := by
  unfold mapF
  rw [lookup_putF, if_neg h1, lookup_putF, if_neg h2]
  rfl
theorem MapAt.mono {H H' : Hp} {x : Addr} {hs : List Str} {ws : List (Str × Str)} (e : Ex H H') (h : MapAt K H x hs ws) : MapAt K H' x hs ws := by
  obtain ⟨dx, l, d, h1, h2, h3⟩ := h
  exact ⟨dx, l, d, e _ _ h1, e _ _ h2, e _ _ h3⟩
theorem RowsAt.mono {H H' : Hp} {b : Addr} {rows : List (List Str)} (e : Ex H H') (h : RowsAt H b rows) : RowsAt H' b rows := by
  obtain ⟨ps, h1, h2⟩ := h
  exact ⟨ps, e _ _ h1, L2.Paired.mapP h2 fun p r z => e _ _ z⟩
theorem pure_Map_init (T : Tx K mg) (h : sp_Map_init K vs H Q E) : t_Map_init K E { nx := fun _ H' => Q .non H', rt := Q } (start N_Map_init vs) H := by
  obtain ⟨x, dx, a, hs, b, rows, rfl, hx, ha, hb, hsm, hrm, k1, k2⟩ := h
  unfold t_Map_init; walk_at "o"
  refine ⟨_, rfl, a, hs, rfl, ha, hsm, fun ok1 H1 e1 => ?_, fun bad d H' e => k2 (by unfold okMap; rw [bad]; rfl) d H' (.of e)⟩
  refine ⟨_, rfl, _, rfl, a, hs, b, rows, rfl, e1 _ _ ha, hb.mono e1, hsm, hrm, fun ok2 H2 e2 => ?_, fun bad d H' e => k2 (by unfold okMap; rw [bad, Bool.and_false]) d H' (.of (e1.trans e))⟩
  have ok : okMap hs rows = true := by unfold okMap; rw [ok1, ok2]; rfl
  have e12 := e1.trans e2
  refine ⟨_, rfl, a, SV hs, rfl, .inl (sq_of (e12 _ _ ha)), fun l hl => ?_⟩
  have xl : x ≠ l := ex_ne hx e12 hl
  refine ⟨_, rfl, x, _, dx, [], rfl, by rw [upd_ne xl]; exact e12 _ _ hx, T.c_Map, T.n_Map_all_hosts, (by show 0 < 1000; decide), ?_⟩
  have e3 : ExP x H (upd (upd H2 l (.lst (SV hs))) x (.ins (cMap K) dx (putF "all_hosts" (.ref l) []))) := (ExP.of (e12.trans (Evl.Ex.new hl))).tu
  obtain ⟨ps, hps, hp⟩ := hb
  have bx : b ≠ x := ne_of hps hx (by intro z; cases z)
  have h3 : ∀ r ∈ rows, ∃ n h, r = [n, h] := fun r hr => by
    obtain ⟨n, h, e, _⟩ := (okMap_of ok).2.2.2.2.1 r hr
    exact ⟨n, h, e⟩
  have px : Paired (fun p kv => SqT K (upd (upd H2 l (.lst (SV hs))) x (.ins (cMap K) dx (putF "all_hosts" (.ref l) []))) p [kV kv.1, kv.2]) ps (dkv (pairs rows)) := by
    clear hps ok k1 k2 ok1 ok2 hrm
    induction hp with
    | nil => exact .nil
    | @cons p r ps rows h t ih =>
      obtain ⟨n, hm, rfl⟩ := h3 r (by simp)
      exact .cons (st_of (e3 _ _ (ne_of h hx (by intro z; cases z)) h)) (ih fun r hr => h3 r (by simp [hr]))
  refine ⟨_, rfl, b, ps, _, rfl, sq_of (e3 _ _ bx hps), px, fun d hd => ?_⟩
  rw [mergeK_nil (dkv_keys (okMap_keys ok))]
  have xd : x ≠ d := ne_of_none upd_same hd
  refine ⟨_, rfl, x, _, dx, _, rfl, by rw [upd_ne xd, upd_same], T.c_Map, T.n_Map_homes, (by show 1 < 1000; decide), ?_⟩
  have hl3 : (upd (upd H2 l (.lst (SV hs))) x (.ins (cMap K) dx (putF "all_hosts" (.ref l) []))) l = some (.lst (SV hs)) := by rw [upd_ne (Ne.symm xl), upd_same]
  refine k1 ok _ ⟨dx, l, d, upd_same, ?_, ?_⟩ (ExP.tu (e3.tx (Evl.Ex.new hd)))
  · rw [upd_ne (Ne.symm xl), upd_ne (ne_of_none hl3 hd)]
    exact hl3
  · rw [upd_ne (Ne.symm xd), upd_same]
theorem pure_Map_hosts (T : Tx K mg) (h : sp_Map_hosts K vs H Q E) : t_Map_hosts K { nx := fun _ H' => Q .non H', rt := Q } (start N_Map_hosts vs) H := by
  obtain ⟨x, hs, ws, rfl, ⟨dx, l, d, hx, hl, hd⟩, k⟩ := h
  exact el_listSq (ev_fld (ev_var rfl) hx T.c_Map T.n_Map_all_hosts mapF_hosts) (sq_of hl) H (Evl.Ex.refl _) _ fun p H2 hp e h => k p H2 hp e h
theorem pure_Map_walkers (T : Tx K mg) (h : sp_Map_walkers K vs H Q E) : t_Map_walkers K { nx := fun _ H' => Q .non H', rt := Q } (start N_Map_walkers vs) H := by
  obtain ⟨x, hs, ws, rfl, ⟨dx, l, d, hx, hl, hd⟩, k⟩ := h
  refine ⟨_, rfl, x, _, dx, _, _, rfl, hx, T.c_Map, T.n_Map_homes, mapF_homes, d, _, rfl, hd, fun p hp => k p _ hp (Evl.Ex.new hp) ?_⟩
  rw [upd_same]
  unfold dkv SV
  rw [List.map_map, List.map_map]
  rfl
theorem el_hosts (T : Tx K mg) {σ : L2.St} {to : TE} {f : L2.St → XK} {x : Addr} {hs : List Str} {ws : List (Str × Str)} (ho : Ev to σ H (.ref x)) (m : MapAt K H x hs ws) : EvL (tMethS (cMap K) "hosts" (sp_Map_hosts K) f to tNil) σ H (SV hs) := by
  obtain ⟨dx, l, d, hx, hl, hd⟩ := m
  exact el_mS ho hx (mapF_no (by decide +kernel) (by decide +kernel)) ea_nil fun H1 e Q q => ⟨x, hs, ws, rfl, ⟨dx, l, d, e _ _ hx, e _ _ hl, e _ _ hd⟩, q⟩
theorem el_walkers (T : Tx K mg) {σ : L2.St} {to : TE} {f : L2.St → XK} {x : Addr} {hs : List Str} {ws : List (Str × Str)} (ho : Ev to σ H (.ref x)) (m : MapAt K H x hs ws) : EvL (tMethS (cMap K) "walkers" (sp_Map_walkers K) f to tNil) σ H (SV (ws.map (·.1))) := by
  obtain ⟨dx, l, d, hx, hl, hd⟩ := m
  exact el_mS ho hx (mapF_no (by decide +kernel) (by decide +kernel)) ea_nil fun H1 e Q q => ⟨x, hs, ws, rfl, ⟨dx, l, d, e _ _ hx, e _ _ hl, e _ _ hd⟩, q⟩
theorem ev_inQ {σ : L2.St} {ta tb : TE} {v : V} {d : PyData} {p : Addr} {l : List Str} (ha : Ev ta σ H v) (q : Dq K H v d) (hb : Ev tb σ H (.ref p)) (hp : SqL K H p (SV l)) : Ev (tOp (rInQ K false) ta tb) σ H (.bl (inD l d)) :=
  ev_op ha hb fun H1 e Q k => ⟨p, l, d, rfl, ex_l e hp, q.mono e, k H1 (Evl.Ex.refl _)⟩
theorem ev_inQL {σ : L2.St} {ta tb : TE} {v : V} {d : PyData} {l : List Str} (ha : Ev ta σ H v) (q : Dq K H v d) (hb : EvL tb σ H (SV l)) : Ev (tOp (rInQ K false) ta tb) σ H (.bl (inD l d)) :=
  ev_opL ha hb fun p H0 hp e0 H1 e Q k => ⟨p, l, d, rfl, ex_l e (sq_of hp), q.mono (e0.trans e), k H1 (Evl.Ex.refl _)⟩
theorem ev_niQL {σ : L2.St} {ta tb : TE} {v : V} {d : PyData} {l : List Str} (ha : Ev ta σ H v) (q : Dq K H v d) (hb : EvL tb σ H (SV l)) : Ev (tOp (rInQ K true) ta tb) σ H (.bl (!inD l d)) :=
  ev_opL ha hb fun p H0 hp e0 H1 e Q k => ⟨p, l, d, rfl, ex_l e (sq_of hp), q.mono (e0.trans e), k H1 (Evl.Ex.refl _)⟩
theorem ev_eqQ {σ : L2.St} {ta tb : TE} {v : V} {d : PyData} {z : Str} (ha : Ev ta σ H v) (q : Dq K H v d) (hb : Ev tb σ H (.str z)) : Ev (tOp (rEqQ K) ta tb) σ H (.bl (eqZ z d)) :=
  ev_op ha hb fun H1 e Q k => ⟨z, d, rfl, q.mono e, k H1 (Evl.Ex.refl _)⟩
theorem pure_Map_has_walker (T : Tx K mg) (h : sp_Map_has_walker K vs H Q E) : t_Map_has_walker K { nx := fun _ H' => Q .non H', rt := Q } (start N_Map_has_walker vs) H := by
  obtain ⟨x, hs, ws, v, d, rfl, m, hd, k⟩ := h
  exact ev_inQL (ev_var rfl) hd (el_walkers T (ev_var rfl) m) H (Evl.Ex.refl _) _ k
theorem pure_Map_has_host (T : Tx K mg) (h : sp_Map_has_host K vs H Q E) : t_Map_has_host K { nx := fun _ H' => Q .non H', rt := Q } (start N_Map_has_host vs) H := by
  obtain ⟨x, hs, ws, v, d, rfl, ⟨dx, l, b, hx, hl, hb⟩, hd, k⟩ := h
  exact ev_inQ (ev_var rfl) hd (ev_fld (ev_var rfl) hx T.c_Map T.n_Map_all_hosts mapF_hosts) (sq_of hl) H (Evl.Ex.refl _) _ k
theorem ev_hasW (T : Tx K mg) {σ : L2.St} {to tn : TE} {f : L2.St → XK} {x : Addr} {hs : List Str} {ws : List (Str × Str)} {v : V} {d : PyData} (ho : Ev to σ H (.ref x)) (hn : Ev tn σ H v) (m : MapAt K H x hs ws) (q : Dq K H v d) :
    Ev (tMethS (cMap K) "has_walker" (sp_Map_has_walker K) f to (tCons tn tNil)) σ H (.bl (inD (ws.map (·.1)) d)) := by
  obtain ⟨dx, l, b, hx, hl, hb⟩ := m
  exact ev_mS ho hx (mapF_no (by decide +kernel) (by decide +kernel)) (ea_cons hn ea_nil) fun H1 e Q k => ⟨x, hs, ws, v, d, rfl, ⟨dx, l, b, e _ _ hx, e _ _ hl, e _ _ hb⟩, q.mono e, k⟩
theorem ev_hasH (T : Tx K mg) {σ : L2.St} {to tn : TE} {f : L2.St → XK} {x : Addr} {hs : List Str} {ws : List (Str × Str)} {v : V} {d : PyData} (ho : Ev to σ H (.ref x)) (hn : Ev tn σ H v) (m : MapAt K H x hs ws) (q : Dq K H v d) :
    Ev (tMethS (cMap K) "has_host" (sp_Map_has_host K) f to (tCons tn tNil)) σ H (.bl (inD hs d)) := by
  obtain ⟨dx, l, b, hx, hl, hb⟩ := m
  exact ev_mS ho hx (mapF_no (by decide +kernel) (by decide +kernel)) (ea_cons hn ea_nil) fun H1 e Q k => ⟨x, hs, ws, v, d, rfl, ⟨dx, l, b, e _ _ hx, e _ _ hl, e _ _ hb⟩, q.mono e, k⟩
end
end W81
namespace W81
open PySem PySem.Spec PyProof.Rows L2 LiI WB
open Evl hiding Ex
local macro_rules | `(tactic| walk_at "o") => `(tactic| dsimp only [tSeq, tIfS, tNext, tRet, tRetN, tDrop, tAsg, gName, tNever])
def dS (l : List Str) : List PyData := l.map PyData.str
def dW (ws : List (Str × Str)) : List PyData := ws.map fun w => .tuple [.str w.1, .str w.2]
theorem lay_dS : ∀ l : List Str, (∀ z ∈ l, PyData.strOk z = true) → PyData.canLayAll0 (dS l) = true
  | [], _ => rfl
  | z :: l, h => by
    show PyData.canLayAll0 (PyData.str z :: dS l) = true
    rw [PyData.canLayAll0, lay_dS l fun y hy => h y (by simp [hy])]; simp [PyData.canLay0, h z]
theorem dep_dS : ∀ l : List Str, PyData.depthAll (dS l) ≤ 1
  | [] => by simp [dS, PyData.depthAll]
  | z :: l => by
    have := dep_dS l
    show PyData.depthAll (PyData.str z :: dS l) ≤ 1
    simp only [PyData.depthAll, PyData.depth]
    omega
theorem lay_dW : ∀ l : List (Str × Str), (∀ w ∈ l, PyData.strOk w.1 = true ∧ PyData.strOk w.2 = true) → PyData.canLayAll0 (dW l) = true
  | [], _ => rfl
  | z :: l, h => by
    have h0 := h z (by simp)
    show PyData.canLayAll0 (PyData.tuple [.str z.1, .str z.2] :: dW l) = true
    rw [PyData.canLayAll0, lay_dW l fun y hy => h y (by simp [hy])]; simp [PyData.canLay0, PyData.canLayAll0, h0]
theorem dep_dW : ∀ l : List (Str × Str), PyData.depthAll (dW l) ≤ 3
  | [] => by simp [dW, PyData.depthAll]
  | z :: l => by
    have := dep_dW l
    show PyData.depthAll (PyData.tuple [.str z.1, .str z.2] :: dW l) ≤ 3
    simp only [PyData.depthAll, PyData.depth]
    omega
theorem sh_dS {l : List Str} (h : ∀ z ∈ l, PyData.strOk z = true) : SeqAt.shaped (.list (dS l)) = true := by
  have := dep_dS l
  unfold SeqAt.shaped
  rw [Bool.and_eq_true]
  exact ⟨lay_dS l h, decide_eq_true (by simp only [PyData.depth]; omega)⟩
theorem sh_dW {l : List (Str × Str)} (h : ∀ w ∈ l, PyData.strOk w.1 = true ∧ PyData.strOk w.2 = true) : SeqAt.shaped (.list (dW l)) = true := by
  have := dep_dW l
  unfold SeqAt.shaped
  rw [Bool.and_eq_true]
  exact ⟨lay_dW l h, decide_eq_true (by simp only [PyData.depth]; omega)⟩
section
variable {K : Fr} {mg : Str → Option Value} {vs : List V} {H : Hp} {Q : VK} {E : XK}
theorem dp_SV : ∀ l : List Str, DpAll K H (SV l) (dS l)
  | [] => .nil
  | z :: l => .cons (.str z) (dp_SV l)
theorem dp_W : ∀ {ts : List Addr} {ws : List (Str × Str)}, Paired (fun (t : Addr) (q : Key × V) => H t = some (.tup [kV q.1, q.2])) ts (dkv ws) → DpAll K H (ts.map V.ref) (dW ws)
  | [], [], _ => .nil
  | t :: ts, w :: ws, .cons h r => .cons (.tup (st_of h) (.cons (.str _) (.cons (.str _) .nil))) (dp_W r)
theorem pure_Map_eq (T : Tx K mg) (h : sp_Map_eq K vs H Q E) : t_Map_eq K { nx := fun _ H' => Q .non H', rt := Q } (start N_Map_eq vs) H := by
  obtain ⟨a, b, rfl, ⟨hs, ws, ma, mb, l1, l2⟩, k⟩ := h
  obtain ⟨dx, la, da, ha, hla, hda⟩ := ma
  obtain ⟨dy, lb, db, hb, hlb, hdb⟩ := mb
  unfold t_Map_eq; walk_at "o"
  refine isi_any (v_var rfl) v_c (.own (cMap K)) (.base (.ins hb T.c_Map T.w_Map.ha T.w_Map.hn T.w_Map.ht T.w_Map.hm)) T.q_map_map ⟨_, rfl, ?_⟩
  refine iteF ?_
  refine ⟨_, rfl, a, _, dx, _, _, rfl, ha, T.c_Map, T.n_Map_all_hosts, mapF_hosts, _, rfl, b, _, dy, _, _, rfl, hb, T.c_Map, T.n_Map_all_hosts, mapF_hosts, ?_⟩
  refine .inr ⟨_, _, .lst (sq_of hla) (dp_SV hs), .lst (sq_of hlb) (dp_SV hs), sh_dS l1, sh_dS l1, _, rfl, ?_⟩
  rw [SeqAt.eqv_refl _ (SeqAt.canLay_of_shaped (sh_dS l1))]
  refine iteT ?_
  refine ⟨_, rfl, a, _, dx, _, _, rfl, ha, T.c_Map, T.n_Map_homes, mapF_homes, da, _, rfl, hda, fun H1 p ts e1 hp hts hpt hp1 h1 => ?_⟩
  refine ⟨_, rfl, b, _, dy, _, _, rfl, e1 _ _ hb, T.c_Map, T.n_Map_homes, mapF_homes, db, _, rfl, e1 _ _ hdb, fun H2 p2 ts2 e2 hp2 hts2 hpt2 hp3 h2 => ?_⟩
  refine .inr ⟨_, _, .lst (sq_of (e2 _ _ hp1)) (dp_W (L2.Paired.mapP h1 fun _ _ z => e2 _ _ z)), .lst (sq_of hp3) (dp_W h2), sh_dW l2, sh_dW l2, ?_⟩
  rw [SeqAt.eqv_refl _ (SeqAt.canLay_of_shaped (sh_dW l2))]
  exact k H2 fun x o z => e2 _ _ (e1 _ _ z)
theorem sum_le {l : List Str} {n : Nat} (h : ∀ z ∈ l, z.length ≤ n) : (l.map (·.length)).sum ≤ l.length * n := by
  induction l with
  | nil => simp
  | cons z l ih =>
    have h1 := h z (by simp)
    have h2 := ih fun y hy => h y (by simp [hy])
    simp only [List.map_cons, List.sum_cons, List.length_cons, Nat.add_mul, Nat.one_mul]
    omega
end
end W81
namespace W81
open PySem PySem.Spec PyProof.Rows L2 LiI WB
open Evl hiding Ex
local macro_rules | `(tactic| walk_at "o") => `(tactic| dsimp only [tSeq, tIfS, tNext, tRet, tRetN, tDrop, tAsg, gName, tNever])
theorem join_len (y : Str) : ∀ {l : List Str}, l ≠ [] → (Str.join y l).length + y.length = (l.map (·.length)).sum + l.length * y.length
  | [], h => absurd rfl h
  | [a], _ => by simp [PyProof.Rows.join_one]
  | a :: b :: r, _ => by
    have ih := join_len y (l := b :: r) (by simp)
    rw [PyProof.Rows.join_cons_cons, Str.length_append, Str.length_append]
    simp only [List.map_cons, List.sum_cons, List.length_cons, Nat.add_mul, Nat.one_mul] at ih ⊢
    omega
theorem isName_len {z : Str} (h : isName z = true) : z.length ≤ 8 := by
  unfold isName isMade at h
  simp only [Bool.and_eq_true, decide_eq_true_eq] at h
  omega
theorem isName_ok {z : Str} (h : isName z = true) : PyData.strOk z = true := by
  unfold isName isMade at h
  simp only [Bool.and_eq_true, List.all_eq_true, decide_eq_true_eq] at h
  have h2 := h.2
  unfold PyData.strOk
  rw [← Array.all_toList, List.all_eq_true]
  intro c hc
  have h3 := h2 c hc
  have h4 : letters.cps.toList.all (fun c => decide (c < 0x110000)) = true := by decide +kernel
  exact List.all_eq_true.mp h4 c h3
theorem okMap_sound {hs : List Str} {rows : List (List Str)} (h : okMap hs rows = true) : SoundM hs (pairs rows) := by
  obtain ⟨h1, h2, h3, h4, h5, h6, h7, h8⟩ := okMap_of h
  refine ⟨fun z hz => isName_ok (h1 z hz), fun w hw => ?_⟩
  unfold pairs at hw
  obtain ⟨r, hr, rfl⟩ := List.mem_map.mp hw
  obtain ⟨n, m, rfl, a1, a2⟩ := h5 r hr
  exact ⟨isName_ok a1, isName_ok (h1 m a2)⟩
def isL (z : Str) : Bool := z.cps.toList.all fun c => decide (c ∈ letters.cps.toList)
theorem isL_app {a b : Str} (h1 : isL a = true) (h2 : isL b = true) : isL (a ++ b) = true := by
  unfold isL at *
  rw [show (a ++ b).cps.toList = a.cps.toList ++ b.cps.toList from by rw [Str.cps_append, Array.toList_append], List.all_append, h1, h2]
  rfl
theorem isL_join : ∀ {l : List Str}, (∀ z ∈ l, isL z = true) → isL (Str.join "" l) = true
  | [], _ => rfl
  | [a], h => h a (by simp)
  | a :: b :: r, h => by
    rw [PyProof.Rows.join_cons_cons]
    exact isL_app (isL_app (h a (by simp)) rfl) (isL_join fun z hz => h z (by simp [hz]))
theorem isName_iff {z : Str} (h1 : isL z = true) (h2 : 1 ≤ z.length) (h3 : z.length ≤ 8) : isName z = true := by
  unfold isName isMade
  unfold isL at h1
  rw [h1, decide_eq_true (by omega), decide_eq_true (by omega)]
  rfl
theorem isName_L {z : Str} (h : isName z = true) : isL z = true := by
  unfold isName isMade at h
  rw [Bool.and_eq_true] at h
  exact h.2
theorem isName_pos {z : Str} (h : isName z = true) : 1 ≤ z.length := by
  unfold isName isMade at h
  simp only [Bool.and_eq_true, decide_eq_true_eq] at h
  omega
def singles : List Str := letters.cps.toList.map sgn
theorem single_name : ∀ z ∈ singles, isName z = true := by decide +kernel
theorem okRows_mk {hs : List Str} : ∀ {rows : List (List Str)} {seen : List Str}, (∀ r ∈ rows, ∃ n h, r = [n, h] ∧ isName n = true ∧ h ∈ hs) → (seen ++ rows.map (·.headD "")).Nodup → okRows hs seen rows = true
  | [], _, _, _ => rfl
  | r :: rows, seen, h, nd => by
    obtain ⟨n, m, rfl, a1, a2⟩ := h r (by simp)
    have nd2 : ((seen ++ [n]) ++ rows.map (·.headD "")).Nodup := by
      rw [List.append_assoc]; exact nd
    have ih := okRows_mk (seen := seen ++ [n]) (fun r hr => h r (by simp [hr])) nd2
    have hn : n ∉ seen := fun hm => by
      have := (List.nodup_append.mp nd).2.2 n hm n (by simp)
      exact this rfl
    show (okRow hs seen [n, m] && okRows hs (seen ++ [n]) rows) = true
    rw [ih, okRow2, a1, decide_eq_true hn, decide_eq_true a2]
    rfl
theorem okMap_mk {hs : List Str} {rows : List (List Str)} (h1 : ∀ z ∈ hs, isName z = true) (h2 : 2 ≤ hs.length) (h3 : hs.length ≤ 6) (h5 : ∀ r ∈ rows, ∃ n h, r = [n, h] ∧ isName n = true ∧ h ∈ hs) (h6 : (hs ++ rows.map (·.headD "")).Nodup) (h7 : 1 ≤ rows.length) (h8 : rows.length ≤ 5) : okMap hs rows = true := by
  unfold okMap okHosts okWalkers
  rw [List.all_eq_true.mpr h1, decide_eq_true (List.nodup_append.mp h6).1, decide_eq_true h2, decide_eq_true h3, okRows_mk h5 h6, decide_eq_true h7, decide_eq_true h8]
  rfl
section
variable {K : Fr} {mg : Str → Option Value} {vs : List V} {H : Hp} {Q : VK} {E : XK} {σ : L2.St} {tl te : TE}
theorem SV_app {l m : List Str} : SV (l ++ m) = SV l ++ SV m := List.map_append
theorem cons_ {te : TE} {ta : TA} {Q : List V → Hp → Prop} (h : te σ H fun v H1 => ta σ H1 fun vs H2 => Q (v :: vs) H2) : tCons te ta σ H Q := h
theorem op_ {r : R2} {ta tb : TE} {Q : VK} (h : ta σ H fun x H1 => tb σ H1 fun y H2 => r x y H2 Q) : tOp r ta tb σ H Q := h
theorem test_ {te : TE} {Q : Bool → Hp → Prop} (h : te σ H fun x H' => ∃ k, x = .bl k ∧ Q k H') : tTest te σ H Q := h
theorem ev_rI {C : Int → Int → Prop} {g : Int → Int → V} {ta tb : TE} {i j : Int} (ha : Ev ta σ H (.int i)) (hb : Ev tb σ H (.int j)) (c : C i j) : Ev (tOp (rI C g) ta tb) σ H (g i j) := ev_op ha hb fun H1 e Q q => ⟨i, j, rfl, rfl, c, q H1 (Evl.Ex.refl _)⟩
theorem ev_rI0 {g : Int → Int → V} {ta tb : TE} {i j : Int} (ha : Ev ta σ H (.int i)) (hb : Ev tb σ H (.int j)) : Ev (tOp (rI0 g) ta tb) σ H (g i j) := ev_op ha hb fun H1 e Q q => ⟨i, j, rfl, rfl, q H1 (Evl.Ex.refl _)⟩
theorem ev_ixL {ta tb : TE} {p : Addr} {xs : List V} {i : Int} {v : V} (ha : Ev ta σ H (.ref p)) (hb : Ev tb σ H (.int i)) (hx : SqL K H p xs) (h : atI xs i = some v) : Ev (tOp (rIx K) ta tb) σ H v := ev_op ha hb fun H1 e Q q => .inl ⟨p, xs, i, v, rfl, rfl, ex_l e hx, h, q H1 (Evl.Ex.refl _)⟩
theorem ev_ixT {ta tb : TE} {p : Addr} {xs : List V} {i : Int} {v : V} (ha : Ev ta σ H (.ref p)) (hb : Ev tb σ H (.int i)) (hx : SqT K H p xs) (h : atI xs i = some v) : Ev (tOp (rIx K) ta tb) σ H v := ev_op ha hb fun H1 e Q q => .inr (.inl ⟨p, xs, i, v, rfl, rfl, Evl.ex_t e hx, h, q H1 (Evl.Ex.refl _)⟩)
theorem et_test {te : TE} {b : Bool} (h : Ev te σ H (.bl b)) : EvT (tTest te) σ H b := fun H1 e Q q => h H1 e _ fun H2 e2 => ⟨b, rfl, q H2 e2⟩
theorem ev_cb1 {r : List V → Hp → VK → Prop} {ta : TE} {v z : V} (h : Ev ta σ H v) (hr : ∀ H1, Ex H H1 → ∀ Q : VK, (∀ H2, Ex H1 H2 → Q z H2) → r [v] H1 Q) : Ev (tCB r (tCons ta tNil)) σ H z := ev_cb (ea_cons h ea_nil) hr
theorem ev_cb2 {r : List V → Hp → VK → Prop} {ta tb : TE} {v w z : V} (h : Ev ta σ H v) (h2 : Ev tb σ H w) (hr : ∀ H1, Ex H H1 → ∀ Q : VK, (∀ H2, Ex H1 H2 → Q z H2) → r [v, w] H1 Q) : Ev (tCB r (tCons ta (tCons tb tNil))) σ H z := ev_cb (ea_cons h (ea_cons h2 ea_nil)) hr
theorem ev_abs {ta : TE} {i : Int} (h : Ev ta σ H (.int i)) : Ev (tCB rAbsI (tCons ta tNil)) σ H (.int (i.natAbs : Int)) := ev_cb1 h fun H1 e Q q => ⟨i, rfl, by
  have e2 : (if i < 0 then -i else i) = (i.natAbs : Int) := by split <;> omega
  rw [e2]; exact q H1 (Evl.Ex.refl _)⟩
theorem ev_max {ta tb : TE} {i j : Int} (h : Ev ta σ H (.int i)) (h2 : Ev tb σ H (.int j)) : Ev (tCB rMax2I (tCons ta (tCons tb tNil))) σ H (.int (max i j)) := ev_cb2 h h2 fun H1 e Q q => ⟨i, j, rfl, by
  have e2 : (if j > i then j else i) = max i j := by split <;> omega
  rw [e2]; exact q H1 (Evl.Ex.refl _)⟩
theorem ev_min {ta tb : TE} {i j : Int} (h : Ev ta σ H (.int i)) (h2 : Ev tb σ H (.int j)) : Ev (tCB rMin2I (tCons ta (tCons tb tNil))) σ H (.int (min i j)) := ev_cb2 h h2 fun H1 e Q q => ⟨i, j, rfl, by
  have e2 : (if j < i then j else i) = min i j := by split <;> omega
  rw [e2]; exact q H1 (Evl.Ex.refl _)⟩
theorem pot_mono {H H' : Hp} {p : Addr} (e : Ex H H') (h : Pot H p) : Pot H' p := by
  obtain ⟨a, b, h1, h2⟩ := h
  exact ⟨a, b, e _ _ h1, h2⟩
theorem opc_ {r : R2} {v : V} {tb : TE} {Q : VK} (h : tb σ H fun y H2 => r v y H2 Q) : tOp r (tC v) tb σ H Q := h
theorem Pot.ne {p q : Addr} (h : Pot H p) (hq : H q = none) : q ≠ p := by
  obtain ⟨_, _, hp, _⟩ := h
  exact (ne_of_none hp hq).symm
theorem Pot.neS {p q : Addr} {us : List Str} (h : Pot H p) (hq : H q = some (.lst (SV us))) : q ≠ p := by
  obtain ⟨x, y, hp, _⟩ := h
  rintro rfl
  rw [hp] at hq
  match us, hq with
  | [], ha => cases ha
  | u :: us, ha => cases ha
theorem Pot.upd {p q : Addr} {o : HO} (h : Pot H p) (n : q ≠ p) : Pot (L2.upd H q o) p := by
  obtain ⟨x, y, hp, r⟩ := h
  exact ⟨x, y, by rw [upd_ne (Ne.symm n)]; exact hp, r⟩
theorem ExP.udn {p q : Addr} {H H' : Hp} {o : HO} (e : ExP p H H') (hq : H q = none) : ExP p H (L2.upd H' q o) := fun b u nb hb => by
  rw [upd_ne (ne_of_none hb hq)]
  exact e _ _ nb hb
theorem consc_ {v : V} {ta : TA} {Q : List V → Hp → Prop} (h : ta σ H fun vs H2 => Q (v :: vs) H2) : tCons (tC v) ta σ H Q := h
theorem c_ {v : V} {Q : VK} (h : Q v H) : tC v σ H Q := h
theorem made_Map (T : Tx K mg) {ta : TA} {f : L2.St → XK} {l m : Addr} {hs : List Str} {rows : List (List Str)} (hv : EvA ta σ H [.ref l, .ref m]) (hl : H l = some (.lst (SV hs))) (hm : RowsAt H m rows) (ok : okMap hs rows = true) (sh : Small hs) (sr : SmallR rows)
    (q : ∀ x H', H x = none → Ex H H' → MapAt K H' x hs (pairs rows) → Q (.ref x) H') : tMakeS (He.ga K "Map") (sp_Map_init K) f ta σ H Q := by
  refine hv H (Evl.Ex.refl _) _ fun H1 e1 x dx hx hdx nx => ?_
  have e2 : Ex H1 (upd (upd H1 dx (.own x)) x (.ins (He.ga K "Map") dx [])) := (Evl.Ex.new hdx).trans (Evl.Ex.new (by rw [upd_ne (Ne.symm nx)]; exact hx))
  have e12 := e1.trans e2
  refine ⟨x, dx, l, hs, m, rows, rfl, upd_same, e12 _ _ hl, hm.mono e12, sh, sr, fun _ H' mm e => ⟨rfl, q x H' (fresh_back e1 hx) (e1.trans ((ExP.trans (ExP.of e2) e).ex hx)) mm⟩, fun bad => by rw [ok] at bad; cases bad⟩
theorem small_ok {hs : List Str} {rows : List (List Str)} (ok : okMap hs rows = true) : Small hs ∧ SmallR rows := by
  obtain ⟨h1, h2, h3, h4, h5, h6, h7, h8⟩ := okMap_of ok
  refine ⟨⟨by omega, fun z hz => by have := isName_len (h1 z hz); omega⟩, by omega, fun r hr => ?_⟩
  obtain ⟨n, m, rfl, a1, a2⟩ := h5 r hr
  refine ⟨by simp, fun z hz => ?_⟩
  rcases List.mem_cons.mp hz with e | hz
  · rw [e]; have := isName_len a1; omega
  · rw [List.mem_singleton.mp hz]; have := isName_len (h1 m a2); omega
theorem for_rng1 {ta : TA} {g : TG} {tb : TS} {D : Ends} (h : ta σ H fun vs H1 => ∃ j : Int, vs = [.int j] ∧ -(2 ^ 62) ≤ j ∧ j < 2 ^ 62 ∧ ∃ W : Nat → Nat → L2.St → Hp → Prop, (∃ m, W 0 m σ H1) ∧ ∀ i m σ H, W i m σ H →
    ((Itr 0 j.toNat).stop i H ∧ D.nx σ H) ∨ ((Itr 0 j.toNat).go i H ∧ ∃ N : L2.St → Hp → Prop, (∀ σ' H', N σ' H' → ∃ m', m' < m ∧ W (i + 1) m' σ' H') ∧ ∀ x H', (Itr 0 j.toNat).yld i H x H' → g x σ H' fun σ2 H2 => tb { D with nx := N, ct := N, bk := D.nx } σ2 H2)) : tFor (iRng1 ta) g tb D σ H := h
theorem not_ {t : TT} {Q : Bool → Hp → Prop} (h : t σ H fun c H1 => Q (!c) H1) : tNot t σ H Q := h
end
end W81
namespace W81
open PySem PySem.Spec PyProof.Rows L2 LiI WB
open Evl hiding Ex
local macro_rules | `(tactic| walk_at "o") => `(tactic| dsimp only [tSeq, tIfS, tNext, tRet, tRetN, tDrop, tAsg, gName, tNever])
theorem wt_mem : ∀ {ds : List PyData} {d : PyData}, d ∈ ds → d.weight + 1 ≤ PyData.weightAll ds
  | x :: ds, d, h => by
    rw [PyData.weightAll]
    rcases List.mem_cons.mp h with e | h
    · subst e; omega
    · have := wt_mem h; omega
theorem wt_len : ∀ ds : List PyData, ds.length ≤ PyData.weightAll ds
  | [] => by simp
  | x :: ds => by
    have := wt_len ds
    rw [PyData.weightAll, List.length_cons]
    omega
theorem wt_list {ds : List PyData} : (PyData.list ds).weight = PyData.weightAll ds := by rw [PyData.weight]
theorem wt_tup {ds : List PyData} : (PyData.tuple ds).weight = PyData.weightAll ds := by rw [PyData.weight]
theorem wt_str {z : Str} : (PyData.str z).weight = z.length := by rw [PyData.weight]; rfl
section
variable {K : Fr} {mg : Str → Option Value} {vs : List V} {H : Hp} {Q : VK} {E : XK} {σ : L2.St} {tl te : TE}
theorem qa_len : ∀ {xs : List V} {ds : List PyData}, DqAll K H xs ds → xs.length = ds.length
  | _, _, .nil => rfl
  | _, _, .cons _ t => by rw [List.length_cons, List.length_cons, qa_len t]
theorem qa_at : ∀ {xs : List V} {ds : List PyData} {i : Nat} {v : V}, DqAll K H xs ds → xs[i]? = some v → ∃ d, ds[i]? = some d ∧ Dq K H v d
  | [], _, i, v, _, h => by cases h
  | _ :: _, _ :: _, 0, v, .cons h t, e => ⟨_, rfl, by rw [← Option.some.inj e]; exact h⟩
  | _ :: xs, _ :: ds, i + 1, v, .cons h t, e => @qa_at xs ds i v t e
theorem qa_mem {xs : List V} {ds : List PyData} {v : V} (h : DqAll K H xs ds) (hv : v ∈ xs) : ∃ d ∈ ds, Dq K H v d := by
  obtain ⟨i, hi, e⟩ := List.mem_iff_getElem.mp hv
  obtain ⟨d, hd, q⟩ := qa_at h (i := i) (by rw [List.getElem?_eq_getElem hi, e])
  exact ⟨d, List.mem_of_getElem? hd, q⟩
theorem ev_ni23 {te : TE} {n : Int} (h : Ev te σ H (.int n)) : Ev (tOp (rNiA K) te (tTup (tCons (tC (.int 2)) (tCons (tC (.int 3)) tNil)))) σ H (.bl (!(inV (.int n) [.int 2, .int 3]))) :=
  ev_opU h (eu_tup (vs := [.int 2, .int 3]) (ea_cons ev_c (ea_cons ev_c ea_nil)) (by decide)) fun p H1 hp e H2 e2 Q q => .inl ⟨p, _, rfl, .inr (Evl.ex_t e2 (st_of hp)), rfl, rfl, q H2 (Evl.Ex.refl _)⟩
theorem in23 (n : Nat) : inV (.int (n : Int)) [.int 2, .int 3] = (decide (n = 2) || decide (n = 3)) := by
  unfold inV
  simp only [List.any_cons, List.any_nil, Bool.or_false]
  have h : ∀ k : Nat, eqV (.int (k : Int)) (.int (n : Int)) = decide (n = k) := fun k => by
    unfold eqV
    by_cases e : n = k
    · subst e; simp
    · rw [decide_eq_false e]; simp; omega
  rw [show (V.int 2) = V.int ((2 : Nat) : Int) from rfl, show (V.int 3) = V.int ((3 : Nat) : Int) from rfl, h 2, h 3]
theorem isWord_ev (T : Tx K mg) {f : L2.St → XK} {te : TE} {v : V} {d : PyData} (h : Ev te σ H v) (q : Dq K H v d) (hw : d.weight ≤ 100000) : Ev (tCallS (sp_is_word K) f (tCons te tNil)) σ H (.bl (isWordD d)) :=
  ev_cS (ea_cons h ea_nil) fun H1 e Q k => ⟨v, d, rfl, q.mono e, fun z hz => by subst hz; rw [wt_str] at hw; exact hw, k⟩
theorem len_q {a : Addr} {xs : List V} {ds : List PyData} (ha : H a = some (.tup xs)) (hds : DqAll K H xs ds) {H1 : Hp} (e : Ex H H1) (hσ : σ[0]? = some (some (.ref a))) : Ev (tCB (rLenA K) (tCons (tVar 0) tNil)) σ H1 (.int (ds.length : Nat)) := by
  have := ev_lenT (K := K) (H := H1) (ev_var hσ) (st_of (e _ _ ha))
  rw [qa_len hds] at this
  exact this
theorem deed_first (T : Tx K mg) {a : Addr} {xs : List V} {ds : List PyData} (ha : H a = some (.tup xs)) (hds : DqAll K H xs ds) (hσ : σ[0]? = some (some (.ref a))) :
    EvT (tOr (tNot (tB (tCB (rIsi K) (tCons (tVar 0) (tCons (tC (.ty "tuple")) tNil))))) (tTest (tOp (rNiA K) (tCB (rLenA K) (tCons (tVar 0) tNil)) (tTup (tCons (tC (.int 2)) (tCons (tC (.int 3)) tNil)))))) σ H (!(decide (ds.length = 2) || decide (ds.length = 3))) := by
  have := et_or (et_not (et_B (ev_isTu (ev_var hσ) (.tup ha hds)))) (fun _ => et_test (ev_ni23 (K := K) (len_q ha hds (Evl.Ex.refl _) hσ)))
  rw [in23] at this
  exact this
theorem pure_is_deed (T : Tx K mg) (h : sp_is_deed K vs H Q E) : t_is_deed K { nx := fun _ H' => Q .non H', rt := Q } (start N_is_deed vs) H := by
  obtain ⟨v, d, x, hs, ws, rfl, hd, hw, m, k⟩ := h
  unfold t_is_deed; walk_at "o"
  by_cases hT : isT d = true
  · cases hd with
    | tup ha hds =>
      refine deed_first T ha hds rfl H (Evl.Ex.refl _) _ fun H1 e1 => ?_
      have m1 := m.mono e1
      cases hds with
      | nil => exact iteT (k H1 e1)
      | cons q0 t0 =>
        cases t0 with
        | nil => exact iteT (k H1 e1)
        | cons q1 t1 =>
          rename_i v0 d0 v1 xs1 d1 ds1
          cases t1 with
          | nil =>
            have hds : DqAll K H [v0, v1] [d0, d1] := .cons q0 (.cons q1 .nil)
            have a1 := e1 _ _ ha
            refine iteF ?_
            refine et_test (ev_eqQ (ev_ixT (ev_var rfl) ev_c (st_of a1) (atI_nat (j := 0) rfl)) (q0.mono e1) ev_c) H1 (Evl.Ex.refl _) _ fun H2 e2 => iteB (fun hz => ?_) (fun hz => ?_)
            · have a2 := e2 _ _ a1
              refine ev_andV (ev_eqI (len_q ha hds (e1.trans e2) rfl) ev_c) (fun _ => ev_hasH T (ev_var rfl) (ev_ixT (ev_var rfl) ev_c (st_of a2) (atI_nat (j := 1) rfl)) (m1.mono e2) (q1.mono (e1.trans e2))) H2 (Evl.Ex.refl _) _ fun H3 e3 => ?_
              have := k H3 ((e1.trans e2).trans e3)
              have e : isDeedD hs (ws.map (·.1)) (.tuple [d0, d1]) = inD hs d1 := by show (eqZ "walk" d0 && inD hs d1) = _; rw [hz]; rfl
              rw [e] at this
              exact this
            · have a2 := e2 _ _ a1
              refine ev_andV (b := false) (ev_eqQ (ev_ixT (ev_var rfl) ev_c (st_of a2) (atI_nat (j := 0) rfl)) (q0.mono (e1.trans e2)) ev_c) (fun _ => ev_bl (ev_andV (b := false) (ev_eqI (len_q ha hds (e1.trans e2) rfl) ev_c) (fun h => absurd h (by show ¬ (decide ((2 : Int) = 3) = true); decide))) (by simp)) H2 (Evl.Ex.refl _) _ fun H3 e3 => ?_
              have := k H3 ((e1.trans e2).trans e3)
              have e : isDeedD hs (ws.map (·.1)) (.tuple [d0, d1]) = false := by show (eqZ "walk" d0 && inD hs d1) = _; rw [hz]; rfl
              rw [e] at this
              rw [Bool.and_false]
              exact this
          | cons q2 t2 =>
            rename_i v2 xs2 d2 ds2
            cases t2 with
            | cons => exact iteT (k H1 e1)
            | nil =>
              have hds : DqAll K H [v0, v1, v2] [d0, d1, d2] := .cons q0 (.cons q1 (.cons q2 .nil))
              have a1 := e1 _ _ ha
              have hw2 : d2.weight ≤ 100000 := by
                rw [wt_tup] at hw
                have := wt_mem (ds := [d0, d1, d2]) (d := d2) (by simp)
                omega
              refine iteF ?_
              refine et_test (ev_eqQ (ev_ixT (ev_var rfl) ev_c (st_of a1) (atI_nat (j := 0) rfl)) (q0.mono e1) ev_c) H1 (Evl.Ex.refl _) _ fun H2 e2 => iteB (fun hz => ?_) (fun hz => ?_)
              · have a2 := e2 _ _ a1
                refine ev_andV (b := false) (ev_eqI (len_q ha hds (e1.trans e2) rfl) ev_c) (fun h => absurd h (by show ¬ (decide ((3 : Int) = 2) = true); decide)) H2 (Evl.Ex.refl _) _ fun H3 e3 => ?_
                have := k H3 ((e1.trans e2).trans e3)
                have hn : eqZ "write" d0 = false := by
                  cases d0 with
                  | str y =>
                    have : y = "walk" := of_decide_eq_true hz
                    subst this
                    have nw : ¬ ("walk" : Str) = "write" := by decide +kernel
                    exact decide_eq_false nw
                  | _ => rfl
                have e : isDeedD hs (ws.map (·.1)) (.tuple [d0, d1, d2]) = false := by show (eqZ "write" d0 && inD (ws.map (·.1)) d1 && isWordD d2) = _; rw [hn]; rfl
                rw [e] at this
                rw [Bool.and_false]
                exact this
              · have a2 := e2 _ _ a1
                have e12 := e1.trans e2
                refine ev_andV (ev_eqQ (ev_ixT (ev_var rfl) ev_c (st_of a2) (atI_nat (j := 0) rfl)) (q0.mono e12) ev_c) (fun _ => ev_andV (ev_eqI (len_q ha hds e12 rfl) ev_c) (fun _ => ev_andV (ev_hasW T (ev_var rfl) (ev_ixT (ev_var rfl) ev_c (st_of a2) (atI_nat (j := 1) rfl)) (m1.mono e2) (q1.mono e12)) (fun _ => isWord_ev T (ev_ixT (ev_var rfl) ev_c (st_of a2) (atI_nat (j := 2) rfl)) (q2.mono e12) hw2))) H2 (Evl.Ex.refl _) _ fun H3 e3 => ?_
                have := k H3 (e12.trans e3)
                have e : isDeedD hs (ws.map (·.1)) (.tuple [d0, d1, d2]) = (eqZ "write" d0 && (decide (((3 : Nat) : Int) = 3) && (inD (ws.map (·.1)) d1 && isWordD d2))) := by
                  show (eqZ "write" d0 && inD (ws.map (·.1)) d1 && isWordD d2) = (eqZ "write" d0 && (true && (inD (ws.map (·.1)) d1 && isWordD d2)))
                  rw [Bool.true_and, Bool.and_assoc]
                rw [e] at this
                exact this
    | non => cases hT
    | bl => cases hT
    | int => cases hT
    | lst => cases hT
    | str => cases hT
    | dic => cases hT
  · have hf : isT d = false := by simpa using hT
    refine et_or (b := false) (et_not (et_B (ev_isTu (ev_var rfl) hd))) (fun h => by rw [hf] at h; cases h) H (Evl.Ex.refl _) _ fun H1 e1 => ?_
    rw [hf]
    refine iteT ?_
    have := k H1 e1
    have e : isDeedD hs (ws.map (·.1)) d = false := by
      cases d <;> first | rfl | cases hf
    rw [e] at this
    exact this
end
end W81
namespace W81
open PySem PySem.Spec PyProof.Rows L2 LiI WB
open Evl hiding Ex
local macro_rules | `(tactic| walk_at "o") => `(tactic| dsimp only [tSeq, tIfS, tNext, tRet, tRetN, tDrop, tAsg, gName, tNever])
section
variable {K : Fr} {mg : Str → Option Value} {vs : List V} {H : Hp} {Q : VK} {E : XK} {σ : L2.St} {tl te : TE}
mutual
theorem q_uniq : ∀ {v : V} {d d' : PyData}, Dq K H v d → Dq K H v d' → d = d'
  | _, _, _, .non, .non => rfl
  | _, _, _, .bl _, .bl _ => rfl
  | _, _, _, .int _, .int _ => rfl
  | _, _, _, .str _, .str _ => rfl
  | _, _, _, .lst h t, .lst h' t' => by
    rw [h] at h'
    cases h'
    rw [qa_uniq t t']
  | _, _, _, .lst h _, .tup h' _ => by rw [h] at h'; cases h'
  | _, _, _, .lst h _, .dic h' => by rw [h] at h'; cases h'
  | _, _, _, .tup h _, .lst h' _ => by rw [h] at h'; cases h'
  | _, _, _, .tup h t, .tup h' t' => by
    rw [h] at h'
    cases h'
    rw [qa_uniq t t']
  | _, _, _, .tup h _, .dic h' => by rw [h] at h'; cases h'
  | _, _, _, .dic h, .lst h' _ => by rw [h] at h'; cases h'
  | _, _, _, .dic h, .tup h' _ => by rw [h] at h'; cases h'
  | _, _, _, .dic _, .dic _ => rfl
theorem qa_uniq : ∀ {vs : List V} {ds ds' : List PyData}, DqAll K H vs ds → DqAll K H vs ds' → ds = ds'
  | _, _, _, .nil, .nil => rfl
  | _, _, _, .cons h t, .cons h' t' => by rw [q_uniq h h', qa_uniq t t']
end
theorem q_ys {xs : List V} {ds : List PyData} {f : PyData → V} : ∀ {ys : List V}, DqAll K H xs ds → Paired (fun x y => ∀ d, Dq K H x d → y = f d) xs ys → ys = ds.map f := by
  induction xs generalizing ds with
  | nil => intro ys h hp; cases h; cases hp; rfl
  | cons x xs ih =>
    intro ys h hp
    cases h with
    | cons h t =>
      cases hp with
      | cons h2 t2 => rw [h2 _ h, ih t t2]; rfl
theorem el_q {a : Addr} {xs : List V} {ds : List PyData} {i : Nat} {vs : List Nat} (f : PyData → V) (hl : Ev tl σ H (.ref a)) (hx : H a = some (.lst xs)) (hq : DqAll K H xs ds) (hlen : ds.length ≤ 1000000) (hw : ∀ x, wipe ((wipe σ vs).set i (some x)) vs = wipe σ vs)
    (he : ∀ v d, d ∈ ds → Dq K H v d → ∀ H1, Ex H H1 → Ev te ((wipe σ vs).set i (some v)) H1 (f d)) : EvL (tLc (iList K tl) (gName i) tYes te vs) σ H (ds.map f) := by
  intro H0 e0 Q q
  refine lc_listV (hl.mono e0) (sq_of (e0 _ _ hx)) (fun _ => true) (fun x y _ => ∀ d, Dq K H x d → y = f d) (by rw [qa_len hq]; exact hlen) hw (fun D H1 hD e1 hacc x hx => ?_) fun D ys H' hD e h r => q D H' hD e (by
    have fs : xs.filter (fun _ => true) = xs := List.filter_eq_self.mpr fun _ _ => rfl
    rw [fs] at r
    rw [h, q_ys hq r])
  obtain ⟨d, hd, qd⟩ := qa_mem hq hx
  intro k ky h1 h2
  refine et_yes H1 (Evl.Ex.refl _) _ fun H2 e2 => iteB (fun _ => ?_) fun h => by cases h
  refine he x d hd qd H2 ((e0.trans e1).trans e2) H2 (Evl.Ex.refl _) _ fun H3 e3 => h2 rfl _ H3 (e2.trans e3) fun H5 _ d' q' => ?_
  rw [q_uniq q' qd]
theorem el_qB {a : Addr} {xs : List V} {ds : List PyData} {i : Nat} {vs : List Nat} (g : PyData → Bool) (hl : Ev tl σ H (.ref a)) (hx : H a = some (.lst xs)) (hq : DqAll K H xs ds) (hlen : ds.length ≤ 1000000) (hw : ∀ x, wipe ((wipe σ vs).set i (some x)) vs = wipe σ vs)
    (he : ∀ v d, d ∈ ds → Dq K H v d → ∀ H1, Ex H H1 → Ev te ((wipe σ vs).set i (some v)) H1 (.bl (g d))) : EvL (tLc (iList K tl) (gName i) tYes te vs) σ H ((ds.map g).map V.bl) := by
  rw [List.map_map]
  exact el_q (fun d => .bl (g d)) hl hx hq hlen hw he
theorem ev_all' {tx : TE} {bs : List Bool} {b : Bool} (h : EvL tx σ H (bs.map V.bl)) (e : bs.all id = b) : Ev (tCB (rAll K) (tCons tx tNil)) σ H (.bl b) := e ▸ ev_all h
theorem all_map_id {α : Type} {l : List α} {g : α → Bool} : (l.map g).all id = l.all g := by rw [List.all_map]; rfl
theorem ev_neI {ta tb : TE} {i j : Int} (ha : Ev ta σ H (.int i)) (hb : Ev tb σ H (.int j)) : Ev (tOp (rNeA K) ta tb) σ H (.bl (!decide (i = j))) :=
  ev_is' (ev_op (z := .bl (!decide (V.int i = V.int j))) ha hb fun H1 e Q q => .inl ⟨rfl, q H1 (Evl.Ex.refl _)⟩) (by
    congr 2
    by_cases h : i = j
    · rw [h]; simp
    · rw [decide_eq_false h]; exact decide_eq_false fun z => h (V.int.inj z))
theorem log_ok {k : Nat} (h : k < 100000) : (k : Int).natAbs.log2 < 1920 := by
  rw [Int.natAbs_natCast]
  by_cases h0 : k = 0
  · rw [h0]; decide
  · have h5 : k.log2 < 20 := (Nat.log2_lt h0).mpr (by omega)
    omega
theorem ev_deed (T : Tx K mg) {f : L2.St → XK} {ta tb : TE} {v : V} {d : PyData} {x : Addr} {hs : List Str} {ws : List (Str × Str)} (h : Ev ta σ H v) (q : Dq K H v d) (hw : d.weight ≤ 100000) (hx : Ev tb σ H (.ref x)) (m : MapAt K H x hs ws) :
    Ev (tCallS (sp_is_deed K) f (tCons ta (tCons tb tNil))) σ H (.bl (isDeedD hs (ws.map (·.1)) d)) := ev_cS (ea_cons h (ea_cons hx ea_nil)) fun H1 e Q k => ⟨v, d, x, hs, ws, rfl, q.mono e, hw, m.mono e, k⟩
theorem inD_str {l : List Str} {d : PyData} (h : inD l d = true) : ∃ n, d = .str n ∧ n ∈ l := by
  unfold inD at h
  obtain ⟨z, hz, e⟩ := List.any_eq_true.mp h
  cases d with
  | str y =>
    have : y = z := of_decide_eq_true e
    exact ⟨y, rfl, this ▸ hz⟩
  | _ => cases e
theorem rowBad_not {hs wn : List Str} {k : Nat} {taken : List Str} {d : PyData} (h : ∀ a b, d ≠ .tuple [a, b]) : rowBad hs wn k taken d = some (toString (k : Int)) := by
  unfold rowBad
  split
  · rename_i a b
    exact absurd rfl (h a b)
  · rfl
def notTwo : PyData → Bool
  | .tuple [_, _] => false
  | _ => true
theorem rowBad_out {hs wn : List Str} {k : Nat} {taken : List Str} {a b : PyData} (h : (inD wn a && !inD taken a) = false) : rowBad hs wn k taken (.tuple [a, b]) = some (toString (k : Int)) := by
  show ite ((inD wn a && !inD taken a) = true) _ _ = _
  rw [h]
  rfl
theorem rowBad_list {hs wn : List Str} {k : Nat} {taken : List Str} {n : Str} {ds : List PyData} (h : (inD wn (.str n) && !inD taken (.str n)) = true) : rowBad hs wn k taken (.tuple [.str n, .list ds]) = if ds.all (isDeedD hs wn) = true then none else some n := by
  show ite ((inD wn (.str n) && !inD taken (.str n)) = true) _ _ = _
  rw [h]
  rfl
theorem rowBad_nol {hs wn : List Str} {k : Nat} {taken : List Str} {n : Str} {b : PyData} (h : (inD wn (.str n) && !inD taken (.str n)) = true) (hb : isLs b = false) : rowBad hs wn k taken (.tuple [.str n, b]) = some n := by
  show ite ((inD wn (.str n) && !inD taken (.str n)) = true) _ _ = _
  rw [h]
  cases b with
  | list => cases hb
  | _ => rfl
theorem row_first (T : Tx K mg) {i : Nat} {v : V} {d : PyData} (h : Dq K H v d) (hσ : σ[i]? = some (some v)) : EvT (tOr (tNot (tB (tCB (rIsi K) (tCons (tVar i) (tCons (tC (.ty "tuple")) tNil))))) (tTest (tOp (rNeA K) (tCB (rLenA K) (tCons (tVar i) tNil)) (tC (.int 2))))) σ H (notTwo d) := by
  by_cases hT : isT d = true
  · cases h with
    | tup ha hds =>
      rename_i a xs ds
      have hl : Ev (tCB (rLenA K) (tCons (tVar i) tNil)) σ H (.int (ds.length : Nat)) := by
        have := ev_lenT (K := K) (H := H) (ev_var hσ) (st_of ha)
        rw [qa_len hds] at this
        exact this
      refine et_is (et_or (et_not (et_B (ev_isTu (ev_var hσ) (.tup ha hds)))) (fun _ => et_test (ev_neI hl ev_c))) ?_
      match ds with
      | [] => rfl
      | [_] => rfl
      | [_, _] => rfl
      | _ :: _ :: _ :: r =>
        show (false || !decide (((r.length + 3 : Nat) : Int) = 2)) = true
        rw [decide_eq_false (by omega)]
        rfl
    | non => cases hT
    | bl => cases hT
    | int => cases hT
    | lst => cases hT
    | str => cases hT
    | dic => cases hT
  · have hf : isT d = false := by simpa using hT
    refine et_is (et_or (b := false) (et_not (et_B (ev_isTu (ev_var hσ) h))) (fun h => by rw [hf] at h; cases h)) ?_
    rw [hf]
    cases d with
    | tuple => cases hf
    | _ => rfl
theorem pure_want_row (T : Tx K mg) (h : sp_want_row K vs H Q E) : t_want_row K E { nx := fun _ H' => Q .non H', rt := Q } (start N_want_row vs) H := by
  obtain ⟨x, k, v, t, d, hs, ws, taken, rfl, hk, hd, hw, m, ht, k1, k2⟩ := h
  unfold t_want_row; walk_at "o"
  refine row_first T hd rfl H (Evl.Ex.refl _) _ fun H1 e1 => ?_
  by_cases h2 : ∃ a b, d = .tuple [a, b]
  · obtain ⟨da, db, rfl⟩ := h2
    refine iteF ?_
    cases hd with
    | tup ha hds =>
      cases hds with
      | cons q0 t0 =>
        cases t0 with
        | cons q1 t1 =>
          cases t1
          rename_i a v0 v1
          have a1 := e1 _ _ ha
          refine ⟨_, rfl, a, _, rfl, st_of a1, rfl, _, _, rfl, _, _, rfl, rfl, ?_⟩
          walk_at "o"
          refine et_or (et_not (et_B (ev_hasW T (ev_var rfl) (ev_var rfl) (m.mono e1) (q0.mono e1)))) (fun _ => et_test (ev_inQ (ev_var rfl) (q0.mono e1) (ev_var rfl) (sq_of (e1 _ _ ht)))) H1 (Evl.Ex.refl _) _ fun H2 e2 => iteB (fun h => ?_) (fun h => ?_)
          · refine made_NoPlan T (x := .str (toString (k : Int))) (fun dd H' e hh => k2 _ ?_ dd H' ((e1.trans e2).trans e) hh) _ _ fun Q' q => ⟨_, rfl, _, rfl, log_ok hk, q⟩
            refine rowBad_out ?_
            cases c1 : inD (ws.map (·.1)) da with
            | false => rfl
            | true =>
              rw [c1] at h
              have : inD taken da = true := by simpa using h
              rw [this]
              rfl
          · simp only [Bool.or_eq_false_iff, Bool.not_eq_false'] at h
            obtain ⟨n, rfl, hn⟩ := inD_str h.1
            cases q0
            have e12 := e1.trans e2
            have hin : (inD (ws.map (·.1)) (.str n) && !inD taken (.str n)) = true := by rw [h.1, h.2]; rfl
            by_cases hL : isLs db = true
            · cases q1 with
              | lst hb1 hds1 =>
                rename_i b xs1 ds1
                have hwd : ∀ d ∈ ds1, d.weight ≤ 100000 := fun d hd => by
                  have h1 := wt_mem hd
                  have h2 := wt_mem (ds := [PyData.str n, .list ds1]) (d := .list ds1) (by simp)
                  rw [wt_list] at h2
                  rw [wt_tup] at hw
                  omega
                have hlen : ds1.length ≤ 100000 := by
                  have h1 := wt_len ds1
                  have h2 := wt_mem (ds := [PyData.str n, .list ds1]) (d := .list ds1) (by simp)
                  rw [wt_list] at h2
                  rw [wt_tup] at hw
                  omega
                refine et_or (et_not (et_B (ev_isLi (ev_var rfl) ((Dq.lst hb1 hds1).mono e12)))) (fun _ => et_not (et_B (ev_all' (el_qB (isDeedD hs (ws.map (·.1))) (ev_var rfl) (e12 _ _ hb1) (hds1.mono e12) (by omega) (fun _ => rfl) (fun v d hd qd H3 e3 => ev_deed T (ev_var rfl) (qd.mono e3) (hwd d hd) (ev_var rfl) (m.mono (e12.trans e3)))) all_map_id))) H2 (Evl.Ex.refl _) _ fun H3 e3 => iteB (fun hx => ?_) (fun hx => ?_)
                · refine made_NoPlan T (x := .str n) (fun dd H' e hh => k2 _ ?_ dd H' ((e12.trans e3).trans e) hh) _ _ fun Q' q => ⟨_, rfl, q⟩
                  rw [rowBad_list hin]
                  have : ds1.all (isDeedD hs (ws.map (·.1))) = false := by
                    cases c : ds1.all (isDeedD hs (ws.map (·.1))) with
                    | false => rfl
                    | true => rw [c] at hx; cases hx
                  rw [this]
                  rfl
                · refine k1 ?_ H3 (e12.trans e3)
                  rw [rowBad_list hin]
                  have : ds1.all (isDeedD hs (ws.map (·.1))) = true := by
                    cases c : ds1.all (isDeedD hs (ws.map (·.1))) with
                    | true => rfl
                    | false => rw [c] at hx; cases hx
                  rw [this]
                  rfl
              | non => cases hL
              | bl => cases hL
              | int => cases hL
              | tup => cases hL
              | str => cases hL
              | dic => cases hL
            · have hf : isLs db = false := by simpa using hL
              refine et_or (b := false) (et_not (et_B (ev_isLi (ev_var rfl) (q1.mono e12)))) (fun h => by rw [hf] at h; cases h) H2 (Evl.Ex.refl _) _ fun H3 e3 => ?_
              rw [hf]
              refine iteT ?_
              refine made_NoPlan T (x := .str n) (fun dd H' e hh => k2 _ ?_ dd H' ((e12.trans e3).trans e) hh) _ _ fun Q' q => ⟨_, rfl, q⟩
              exact rowBad_nol hin hf
  · have hn : ∀ a b, d ≠ .tuple [a, b] := fun a b e => h2 ⟨a, b, e⟩
    have nt : notTwo d = true := by
      unfold notTwo
      split
      · rename_i a b
        exact absurd rfl (hn _ _)
      · rfl
    rw [nt]
    refine iteT ?_
    exact made_NoPlan T (x := .str (toString (k : Int))) (fun dd H' e hh => k2 _ (rowBad_not hn) dd H' (e1.trans e) hh) _ _ fun Q' q => ⟨_, rfl, _, rfl, log_ok hk, q⟩
end
end W81
namespace W81
open PySem PySem.Spec PyProof.Rows L2 LiI WB
open Evl hiding Ex
local macro_rules | `(tactic| walk_at "o") => `(tactic| dsimp only [tSeq, tIfS, tNext, tRet, tRetN, tDrop, tAsg, gName, tNever])
section
variable {K : Fr} {mg : Str → Option Value} {vs : List V} {H : Hp} {Q : VK} {E : XK} {σ : L2.St} {tl te : TE}
theorem rowD_inv {v : V} {r : Str × List PyData} (h : Dq K H v (rowD r)) : ∃ a b xs, v = .ref a ∧ H a = some (.tup [.str r.1, .ref b]) ∧ H b = some (.lst xs) ∧ DqAll K H xs r.2 := by
  cases h with
  | tup ha hds =>
    cases hds with
    | cons q0 t0 =>
      cases t0 with
      | cons q1 t1 =>
        cases t1
        cases q0
        cases q1 with
        | lst hb hq => exact ⟨_, _, _, rfl, ha, hb, hq⟩
theorem q_rows {rs : List (Str × List PyData)} : ∀ {xs ys : List V} {H' : Hp}, DqAll K H xs (rs.map rowD) → Paired (fun x y => ∀ r, r ∈ rs → Dq K H x (rowD r) → Dq K H' y (rowD r)) xs ys → DqAll K H' ys (rs.map rowD) := by
  induction rs with
  | nil =>
    intro xs ys H' h hp
    cases h
    cases hp
    exact .nil
  | cons r rs ih =>
    intro xs ys H' h hp
    cases h with
    | cons h t =>
      cases hp with
      | cons h2 t2 => exact .cons (h2 r (by simp) h) (ih t (L2.Paired.mapP t2 fun x y hh r hr => hh r (by simp [hr])))
theorem rows_copy {l : Addr} {rs : List (Str × List PyData)} {i j : Nat} {vs : List Nat} (hl : Ev tl σ H (.ref l)) (hq : Dq K H (.ref l) (rowsD rs)) (hlen : rs.length ≤ 100000) (hw : ∀ x y, wipe (((wipe σ vs).set i (some x)).set j (some y)) vs = wipe σ vs)
    (hi : ∀ x y, (((wipe σ vs).set i (some x)).set j (some y))[i]? = some (some x)) (hj : ∀ x y, (((wipe σ vs).set i (some x)).set j (some y))[j]? = some (some y)) (q : ∀ p H', H p = none → Ex H H' → Dq K H' (.ref p) (rowsD rs) → Q (.ref p) H') :
    tLc (iList K tl) (gTup K 2 (gCons (gName i) (gCons (gName j) gNil))) tYes (tTup (tCons (tVar i) (tCons (tCB (rListSq K) (tCons (tVar j) tNil)) tNil))) vs σ H Q := by
  cases hq with
  | lst hx hds =>
    rename_i xs
    refine hl H (Evl.Ex.refl _) _ fun H1 e1 => ⟨l, rfl, ⟨_, sq_of (e1 _ _ hx)⟩, ?_⟩
    refine lc_rel (seq_list (K := K) (a := l) (xs := xs)) (fun _ => true) (fun x y H' => ∀ r, r ∈ rs → Dq K H x (rowD r) → Dq K H' y (rowD r)) (fun H2 e2 => sq_of ((e1.trans e2) _ _ hx)) (by rw [qa_len hds, List.length_map]; omega) (fun D hD x hx H2 e2 hacc k ky q1 q2 => ?_) fun D ys H' hD e h r => q D H' (fresh_back e1 hD) (e1.trans e) (.lst h (by
      have fs : xs.filter (fun _ => true) = xs := List.filter_eq_self.mpr fun _ _ => rfl
      rw [fs] at r
      exact q_rows hds r))
    obtain ⟨d, hd, qd⟩ := qa_mem hds hx
    obtain ⟨r, hr, rfl⟩ := List.mem_map.mp hd
    obtain ⟨a, b, ds, rfl, ha, hb, hqa⟩ := rowD_inv qd
    have e12 := e1.trans e2
    refine ⟨a, _, rfl, st_of (e12 _ _ ha), rfl, _, _, rfl, _, _, rfl, rfl, hw _ _, ?_⟩
    refine et_yes H2 (Evl.Ex.refl _) _ fun H3 e3 => iteB (fun _ => ?_) fun h => by cases h
    have hD' : H D = none := fresh_back e1 hD
    obtain ⟨acc, hac⟩ := hacc
    refine ⟨_, hi _ _, ?_⟩
    refine cons_ ?_
    refine el_listSq (ev_var (hj _ _)) (sq_of ((e12.trans e3) _ _ hb)) H3 (Evl.Ex.refl _) _ fun p H4 hp e4 h4 => ?_
    refine ⟨by show 2 ≤ _; rw [sizeLine_eq]; decide, fun t ht => ?_⟩
    have e34 : Ex H2 (upd H4 t (.tup [.str r.1, .ref p])) := (e3.trans e4).trans (Evl.Ex.new ht)
    refine q2 rfl _ _ e34 fun H5 e5 r' hr' qd' => ?_
    have er : rowD r = rowD r' := q_uniq qd qd'
    have pD : p ≠ D := Ne.symm (ex_ne hac e3 hp)
    have tD : t ≠ D := Ne.symm (ex_ne hac (e3.trans e4) ht)
    have eH5 : Ex H H5 := fun c o hc => e5 _ _ (ne_of_none hc hD') (e34 _ _ (e12 _ _ hc))
    have hp5 : H5 p = some (.lst ds) := e5 _ _ pD (by rw [upd_ne (ne_of_none h4 ht)]; exact h4)
    rw [← er]
    exact .tup (e5 _ _ tD upd_same) (.cons (.str _) (.cons (.lst hp5 (hqa.mono eH5)) .nil))
theorem planF_lists {g l : Addr} : (planF g l).lookup ("lists" : Str) = some (V.ref l) := by
  unfold planF
  rw [lookup_putF, if_pos rfl]
theorem planF_map {g l : Addr} : (planF g l).lookup ("own_map" : Str) = some (V.ref g) := by
  unfold planF
  rw [lookup_putF, if_neg (by decide +kernel), lookup_putF, if_pos rfl]
theorem planF_no {g l : Addr} {m : Str} (h1 : ¬ m = "lists") (h2 : ¬ m = "own_map") : (planF g l).lookup m = none := by
  unfold planF
  rw [lookup_putF, if_neg h1, lookup_putF, if_neg h2]
  rfl
theorem PlanAt.mono {H H' : Hp} {x g : Addr} {d : PyData} (e : Ex H H') (h : PlanAt K H x g d) : PlanAt K H' x g d := by
  obtain ⟨dx, l, h1, h2⟩ := h
  exact ⟨dx, l, e _ _ h1, h2.mono e⟩
theorem pure_Plan_grounds (T : Tx K mg) (h : sp_Plan_grounds K vs H Q E) : t_Plan_grounds K { nx := fun _ H' => Q .non H', rt := Q } (start N_Plan_grounds vs) H := by
  obtain ⟨x, g, d, rfl, ⟨dx, l, hx, hq⟩, k⟩ := h
  exact ev_fld (ev_var rfl) hx T.c_Plan T.n_Plan_own_map planF_map H (Evl.Ex.refl _) _ k
theorem rs_len {rs : List (Str × List PyData)} {w : Nat} (h : (rowsD rs).weight ≤ w) : rs.length ≤ w := by
  have := wt_len (rs.map rowD)
  rw [List.length_map] at this
  unfold rowsD at h
  rw [wt_list] at h
  omega
theorem pure_Plan_rows (T : Tx K mg) (h : sp_Plan_rows K vs H Q E) : t_Plan_rows K { nx := fun _ H' => Q .non H', rt := Q } (start N_Plan_rows vs) H := by
  obtain ⟨x, g, rs, rfl, ⟨dx, l, hx, hq⟩, hw, k⟩ := h
  have := rs_len hw
  exact rows_copy (ev_fld (ev_var rfl) hx T.c_Plan T.n_Plan_lists planF_lists) hq (by omega) (fun _ _ => rfl) (fun _ _ => rfl) (fun _ _ => rfl) fun p H' _ e h => k p H' e h
mutual
theorem q_exp {x : Addr} {C dx : Addr} {fs : List (Str × V)} {H' : Hp} (hx : H x = some (.ins C dx fs)) (e : ExP x H H') : ∀ {v : V} {d : PyData}, Dq K H v d → Dq K H' v d
  | _, _, .non => .non
  | _, _, .bl b => .bl b
  | _, _, .int i => .int i
  | _, _, .str z => .str z
  | _, _, .lst h t => .lst (e _ _ (ne_of h hx (by intro z; cases z)) h) (qa_exp hx e t)
  | _, _, .tup h t => .tup (e _ _ (ne_of h hx (by intro z; cases z)) h) (qa_exp hx e t)
  | _, _, .dic h => .dic (e _ _ (ne_of h hx (by intro z; cases z)) h)
theorem qa_exp {x : Addr} {C dx : Addr} {fs : List (Str × V)} {H' : Hp} (hx : H x = some (.ins C dx fs)) (e : ExP x H H') : ∀ {vs : List V} {ds : List PyData}, DqAll K H vs ds → DqAll K H' vs ds
  | _, _, .nil => .nil
  | _, _, .cons h t => .cons (q_exp hx e h) (qa_exp hx e t)
end
theorem rowBad_none {hs wn : List Str} {k : Nat} {taken : List Str} {d : PyData} (h : rowBad hs wn k taken d = none) : ∃ n ds, d = rowD (n, ds) ∧ inD wn (.str n) = true ∧ inD taken (.str n) = false ∧ ds.all (isDeedD hs wn) = true := by
  by_cases h2 : ∃ a b, d = .tuple [a, b]
  · obtain ⟨a, b, rfl⟩ := h2
    cases hc : inD wn a && !inD taken a with
    | false => rw [rowBad_out hc] at h; cases h
    | true =>
      have hc1 := (Bool.and_eq_true_iff.mp hc).1
      have hc2 := (Bool.and_eq_true_iff.mp hc).2
      obtain ⟨n, rfl, _⟩ := inD_str hc1
      by_cases hb : isLs b = true
      · cases b with
        | list ds =>
          rw [rowBad_list hc] at h
          refine ⟨n, ds, rfl, hc1, by simpa using hc2, ?_⟩
          cases c : ds.all (isDeedD hs wn) with
          | true => rfl
          | false => rw [c] at h; cases h
        | _ => cases hb
      · rw [rowBad_nol hc (by simpa using hb)] at h
        cases h
  · rw [rowBad_not fun a b e => h2 ⟨a, b, e⟩] at h
    cases h
theorem rowsBad_step {hs wn : List Str} {k : Nat} {taken : List Str} {r : PyData} {rs : List PyData} (h : rowBad hs wn k taken r = none) : rowsBad hs wn k taken (r :: rs) = rowsBad hs wn (k + 1) (taken ++ [nameOf r]) rs := by
  show (match rowBad hs wn k taken r with | some w => some w | none => rowsBad hs wn (k + 1) (taken ++ [nameOf r]) rs) = _
  rw [h]
theorem rowsBad_stop {hs wn : List Str} {k : Nat} {taken : List Str} {r : PyData} {rs : List PyData} {w : Str} (h : rowBad hs wn k taken r = some w) : rowsBad hs wn k taken (r :: rs) = some w := by
  show (match rowBad hs wn k taken r with | some w => some w | none => rowsBad hs wn (k + 1) (taken ++ [nameOf r]) rs) = _
  rw [h]
theorem pure_Plan_init (T : Tx K mg) (h : sp_Plan_init K vs H Q E) : t_Plan_init K E { nx := fun _ H' => Q .non H', rt := Q } (start N_Plan_init vs) H := by
  obtain ⟨x, dx, g, v, d, hs, ws, rfl, hx, m, hd, hw, k1, k2⟩ := h
  unfold t_Plan_init; walk_at "o"
  by_cases hL : isLs d = true
  · cases hd with
    | lst hl hds =>
      rename_i l xs ds
      refine ev_isLi (ev_var rfl) (Dq.lst hl hds) H (Evl.Ex.refl _) _ fun H1 e1 => ⟨_, rfl, iteF ?_⟩
      refine el_lst ea_nil (by decide) H1 (Evl.Ex.refl _) _ fun t H2 ht e2 h2 => ?_
      have e12 := e1.trans e2
      have lw : ds.length ≤ 50000 := by
        have := wt_len ds
        rw [wt_list] at hw
        omega
      have xt : t ≠ x := (ex_ne hx e1 ht).symm
      have lt : t ≠ l := (ex_ne hl e1 ht).symm
      have tn : H t = none := fresh_back e1 ht
      refine for_enum (a := l) (xs := xs) (v_var rfl) (fun i σ' H' => ∃ v4 v5 v6 v7, σ' = [some (.ref x), some (.ref g), some (.ref l), some (.ref t), v4, v5, v6, v7] ∧ Ex H H' ∧ ∃ (taken : List Str) (rs : List (Str × List PyData)), H' t = some (.lst (SV taken)) ∧ taken.length = i ∧ ds.take i = rs.map rowD ∧
        rowsBad hs (ws.map (·.1)) i taken (ds.drop i) = rowsBad hs (ws.map (·.1)) 0 [] ds) ⟨none, none, none, none, rfl, e12, [], [], h2, rfl, rfl, rfl⟩ (fun i σ' H' _ ⟨_, _, _, _, _, e, _⟩ => sq_of (e _ _ hl)) ?_ ?_
      · rintro i y σ' H3 hy ⟨v4, v5, v6, v7, rfl, e3, taken, rs, htk, ltk, htake, hbad⟩ T0 hT
        obtain ⟨dy, hdy, qy⟩ := qa_at hds hy
        have hi : i < ds.length := (List.getElem?_eq_some_iff.mp hdy).1
        have e30 : Ex H (upd H3 T0 (.tup [.int (i : Int), y])) := e3.trans (Evl.Ex.new hT)
        have ht0 : (upd H3 T0 (.tup [.int (i : Int), y])) t = some (.lst (SV taken)) := by rw [upd_ne (ne_of_none htk hT)]; exact htk
        have hwy : dy.weight ≤ 100000 := by
          have := wt_mem (List.mem_of_getElem? hdy)
          rw [wt_list] at hw
          omega
        have hdrop : ds.drop i = dy :: ds.drop (i + 1) := by
          rw [List.drop_eq_getElem_cons hi]
          congr 1
          exact (List.getElem?_eq_some_iff.mp hdy).2
        walk_at "o"
        refine ⟨_, rfl, _, rfl, _, rfl, _, rfl, g, i, y, t, dy, hs, ws, taken, rfl, by omega, qy.mono e30, hwy, m.mono e30, ht0, fun hnone H4 e4 => ?_, fun w hw' dd H4 e4 hh => k2 w ?_ dd H4 (.of (e30.trans e4)) hh⟩
        · obtain ⟨n, dsr, rfl, hn1, hn2, hn3⟩ := rowBad_none hnone
          obtain ⟨a, b, xs1, rfl, ha, hb, hqa⟩ := rowD_inv qy
          have ht1 := e4 _ _ ht0
          refine ⟨_, rfl, .inl ⟨rfl, _, sq_of ht1⟩, ?_⟩
          refine cons_ ?_
          refine ev_ixT (v := .str n) (ev_var rfl) ev_c (st_of ((e30.trans e4) _ _ ha)) (atI_nat (j := 0) rfl) H4 (Evl.Ex.refl _) _ fun H5 e5 => ⟨t, SV taken, .str n, rfl, rfl, e5 _ _ ht1, small_lt (by rw [List.length_map]; omega), ?_⟩
          refine ⟨_, _, _, _, rfl, Evl.Ex.mut ((e30.trans e4).trans e5) tn, taken ++ [n], rs ++ [(n, dsr)], by rw [upd_same, SV_app]; rfl, by simp [ltk], ?_, ?_⟩
          · rw [take_succ_of hdy, htake, List.map_append]
            rfl
          · rw [← hbad, hdrop, rowsBad_step hnone]
            rfl
        · show rowsBad hs (ws.map (·.1)) 0 [] ds = some w
          rw [← hbad, hdrop]
          exact rowsBad_stop hw'
      · rintro σ' H3 ⟨v4, v5, v6, v7, rfl, e3, taken, rs, htk, ltk, htake, hbad⟩
        have hn : xs.length = ds.length := qa_len hds
        rw [hn, List.take_length] at htake
        rw [hn, List.drop_length] at hbad
        subst htake
        have hnone : planBad hs (ws.map (·.1)) (.list (rs.map rowD)) = none := hbad.symm
        walk_at "o"
        have hx3 := e3 _ _ hx
        refine ⟨_, rfl, _, rfl, x, _, dx, [], rfl, hx3, T.c_Plan, T.n_Plan_own_map, (by show 0 < 1000; decide), ?_⟩
        walk_at "o"
        have ex4 : ExP x H (upd H3 x (.ins (cPlan K) dx (putF "own_map" (.ref g) []))) := (ExP.of e3).tu
        have hq4 : Dq K (upd H3 x (.ins (cPlan K) dx (putF "own_map" (.ref g) []))) (.ref l) (rowsD rs) := q_exp hx ex4 (.lst hl hds)
        refine rows_copy (ev_var rfl) hq4 (by rw [List.length_map] at lw; omega) (fun _ _ => rfl) (fun _ _ => rfl) (fun _ _ => rfl) fun p H5 hp e5 hq5 => ?_
        have hx5 : H5 x = some (.ins (cPlan K) dx (putF "own_map" (.ref g) [])) := e5 _ _ upd_same
        refine ⟨_, rfl, x, _, dx, _, rfl, hx5, T.c_Plan, T.n_Plan_lists, (by show 1 < 1000; decide), ?_⟩
        exact k1 hnone _ ⟨dx, p, upd_same, q_exp hx5 ExP.upd hq5⟩ (ExP.tu (ex4.tx e5))
    | non => cases hL
    | bl => cases hL
    | int => cases hL
    | tup => cases hL
    | str => cases hL
    | dic => cases hL
  · have hf : isLs d = false := by simpa using hL
    refine ev_isLi (ev_var rfl) hd H (Evl.Ex.refl _) _ fun H1 e1 => ⟨_, rfl, ?_⟩
    rw [hf]
    refine iteT ?_
    refine made_NoPlan T (x := .str "rows") (fun dd H' e hh => k2 _ ?_ dd H' (.of (e1.trans e)) hh) _ _ fun Q' q => q
    cases d with
    | list => cases hf
    | _ => rfl
end
end W81
namespace W81
open PySem PySem.Spec PyProof.Rows L2 LiI WB
open Evl hiding Ex
local macro_rules | `(tactic| walk_at "o") => `(tactic| dsimp only [tSeq, tIfS, tNext, tRet, tRetN, tDrop, tAsg, gName, tNever])
theorem lenD_le : ∀ (rs : List (Str × List PyData)), lenD rs ≤ PyData.weightAll (rs.map rowD)
  | [] => by simp [lenD]
  | r :: rs => by
    have ih := lenD_le rs
    have h1 := wt_len r.2
    have e : (rowD r).weight = PyData.weightAll [PyData.str r.1, .list r.2] := wt_tup
    have h2 := wt_mem (ds := [PyData.str r.1, .list r.2]) (d := .list r.2) (by simp)
    rw [wt_list] at h2
    rw [List.map_cons, PyData.weightAll, e]
    unfold lenD at ih ⊢
    rw [List.map_cons, List.sum_cons]
    omega
theorem lenD_take {rs : List (Str × List PyData)} {i : Nat} {r : Str × List PyData} (h : rs[i]? = some r) : lenD (rs.take (i + 1)) = lenD (rs.take i) + r.2.length := by
  unfold lenD
  rw [take_succ_of h, List.map_append, List.sum_append]
  simp
theorem lenD_take_le (rs : List (Str × List PyData)) (i : Nat) : lenD (rs.take i) ≤ lenD rs := by
  unfold lenD
  conv => rhs; rw [← List.take_append_drop i rs]
  rw [List.map_append, List.sum_append]
  omega
section
variable {K : Fr} {mg : Str → Option Value} {vs : List V} {H : Hp} {Q : VK} {E : XK} {σ : L2.St} {tl te : TE}
theorem lc2_list {g : TG} {tt : TT} {wi1 : TI} {g1 : TG} {tt1 : TT} {ws ws1 : List Nat} (h : tl σ H fun v H1 => ∃ a, v = .ref a ∧ (∃ xs, SqL K H1 a xs) ∧ ∀ D, H1 D = none → ∃ W : Nat → Nat → Hp → Prop, (∃ m, W 0 m (upd H1 D (.lst []))) ∧ ∀ i m H, W i m H →
    ((Itl K a).stop i H ∧ Q (.ref D) H) ∨ ((Itl K a).go i H ∧ ∃ Nx : Hp → Prop, (∀ H', Nx H' → ∃ m', m' < m ∧ W (i + 1) m' H') ∧ ∀ x H', (Itl K a).yld i H x H' → g x (wipe σ ws) H' fun σ2 H2 => wipe σ2 ws = wipe σ ws ∧ tt σ2 H2 fun b H3 =>
      if b = true then wi1 σ2 H3 fun J1 H4 => ∃ W1 : Nat → Nat → Hp → Prop, (∃ m, W1 0 m H4) ∧ ∀ j k H, W1 j k H →
        (J1.stop j H ∧ Nx H) ∨ (J1.go j H ∧ ∃ Nx1 : Hp → Prop, (∀ H', Nx1 H' → ∃ k', k' < k ∧ W1 (j + 1) k' H') ∧ ∀ x H', J1.yld j H x H' → g1 x (wipe σ2 ws1) H' fun σ3 H5 => wipe σ3 ws1 = wipe σ2 ws1 ∧ tt1 σ3 H5 fun b H6 =>
          if b = true then te σ3 H6 fun y H7 => ∃ acc, H7 D = some (.lst acc) ∧ acc.length < sizeLine ∧ Nx1 (upd H7 D (.lst (acc ++ [y]))) else Nx1 H6)
      else Nx H3)) : tLc2 (iList K tl) g tt wi1 g1 tt1 te ws ws1 σ H Q := h
theorem pure_Plan_len (T : Tx K mg) (h : sp_Plan_len K vs H Q E) : t_Plan_len K { nx := fun _ H' => Q .non H', rt := Q } (start N_Plan_len vs) H := by
  obtain ⟨x, g, rs, rfl, ⟨dx, l, hx, hq⟩, hw, k⟩ := h
  unfold t_Plan_len; walk_at "o"
  refine cb1 ?_
  cases hq with
  | lst hl hds =>
    rename_i xs
    have hle := lenD_le rs
    have hw' : PyData.weightAll (rs.map rowD) ≤ 50000 := by
      unfold rowsD at hw
      rw [wt_list] at hw
      exact hw
    have hn : xs.length = rs.length := by rw [qa_len hds, List.length_map]
    refine lc2_list ?_
    refine ev_fld (ev_var rfl) hx T.c_Plan T.n_Plan_lists planF_lists H (Evl.Ex.refl _) _ fun H1 e1 => ⟨l, rfl, ⟨_, sq_of (e1 _ _ hl)⟩, fun D hD => ?_⟩
    have S := seq_list (K := K) (a := l) (xs := xs)
    refine ⟨fun i m H' => m = xs.length - i ∧ i ≤ xs.length ∧ Ex H1 H' ∧ ∃ acc, H' D = some (.lst acc) ∧ acc.length = lenD (rs.take i), ⟨xs.length, by simp, Nat.zero_le _, Evl.Ex.new hD, [], upd_same, by simp [lenD]⟩, ?_⟩
    rintro i m H2 ⟨rfl, hi, e2, acc, hacc, lacc⟩
    have hl2 : SqL K H2 l xs := sq_of ((e1.trans e2) _ _ hl)
    by_cases hlt : i < xs.length
    · refine .inr ⟨S.go i H2 hl2 hlt, fun H' => i + 1 ≤ xs.length ∧ Ex H1 H' ∧ ∃ acc, H' D = some (.lst acc) ∧ acc.length = lenD (rs.take (i + 1)), fun H' hN => ⟨xs.length - (i + 1), by omega, rfl, hN⟩, fun y H3 hy => ?_⟩
      obtain ⟨rfl, hy2⟩ := S.yld i H2 y H3 hl2 hy
      obtain ⟨d, hdi, qd⟩ := qa_at hds (hy2 hlt)
      rw [List.getElem?_map] at hdi
      obtain ⟨r, hr, rfl⟩ := Option.map_eq_some_iff.mp hdi
      obtain ⟨a, b, ys, rfl, ha, hb, hqa⟩ := rowD_inv qd
      refine ⟨a, _, rfl, st_of ((e1.trans e2) _ _ ha), rfl, _, _, rfl, _, _, rfl, rfl, rfl, ?_⟩
      refine et_yes H3 (Evl.Ex.refl _) _ fun H4 e4 => iteB (fun _ => ?_) fun h => by cases h
      have e14 := e2.trans e4
      refine ⟨_, rfl, b, rfl, ⟨_, sq_of ((e1.trans e14) _ _ hb)⟩, ?_⟩
      have S1 := seq_list (K := K) (a := b) (xs := ys)
      have ly := qa_len hqa
      refine ⟨fun j k' H' => k' = ys.length - j ∧ j ≤ ys.length ∧ Ex H1 H' ∧ ∃ acc, H' D = some (.lst acc) ∧ acc.length = lenD (rs.take i) + j, ⟨ys.length, by simp, Nat.zero_le _, e14, acc, e4 _ _ hacc, by omega⟩, ?_⟩
      rintro j k' H5 ⟨rfl, hj, e5, acc5, hacc5, lacc5⟩
      have hb5 : SqL K H5 b ys := sq_of ((e1.trans e5) _ _ hb)
      by_cases hjt : j < ys.length
      · refine .inr ⟨S1.go j H5 hb5 hjt, fun H' => j + 1 ≤ ys.length ∧ Ex H1 H' ∧ ∃ acc, H' D = some (.lst acc) ∧ acc.length = lenD (rs.take i) + (j + 1), fun H' hN => ⟨ys.length - (j + 1), by omega, rfl, hN⟩, fun z H6 hz => ?_⟩
        obtain ⟨rfl, hz2⟩ := S1.yld j H5 z H6 hb5 hz
        refine ⟨rfl, ?_⟩
        refine et_yes H6 (Evl.Ex.refl _) _ fun H7 e7 => iteB (fun _ => ?_) fun h => by cases h
        have hti := lenD_take hr
        have htl := lenD_take_le rs (i + 1)
        refine ⟨_, rfl, acc5, e7 _ _ hacc5, small_lt (by omega), hjt, ?_, acc5 ++ [z], upd_same, by simp; omega⟩
        intro c o hc
        rw [upd_ne (ne_of_none hc hD)]
        exact e7 _ _ (e5 _ _ hc)
      · have ej : j = ys.length := by omega
        subst ej
        refine .inl ⟨S1.stop _ H5 hb5 (Nat.le_refl _), hlt, e5, acc5, hacc5, ?_⟩
        rw [lacc5, lenD_take hr, ly]
    · have ei : i = xs.length := by omega
      subst ei
      refine .inl ⟨S.stop _ H2 hl2 (Nat.le_refl _), .inl ⟨D, acc, rfl, .inl (sq_of hacc), ?_⟩⟩
      have := k H2 (e1.trans e2)
      rw [lacc, hn, List.take_length]
      exact this
theorem pure_l_is_row (T : Tx K mg) (h : sp_l_is_row K vs H Q E) : t_l_is_row K { nx := fun _ H' => Q .non H', rt := Q } (start N_l_is_row vs) H := by
  obtain ⟨v, d, rfl, hd, k⟩ := h
  unfold t_l_is_row; walk_at "o"
  refine row_first T hd rfl H (Evl.Ex.refl _) _ fun H1 e1 => ?_
  by_cases h2 : ∃ a b, d = .tuple [a, b]
  · obtain ⟨da, db, rfl⟩ := h2
    refine iteF ?_
    cases hd with
    | tup ha hds =>
      cases hds with
      | cons q0 t0 =>
        cases t0 with
        | cons q1 t1 =>
          cases t1
          have a1 := st_of (K := K) (e1 _ _ ha)
          refine ev_andV (ev_isS (ev_ixT (ev_var rfl) ev_c a1 (atI_nat (j := 0) rfl)) (q0.mono e1)) (fun _ => ev_isLi (ev_ixT (ev_var rfl) ev_c a1 (atI_nat (j := 1) rfl)) (q1.mono e1)) H1 (Evl.Ex.refl _) _ fun H2 e2 => ?_
          have := k H2 (e1.trans e2)
          have e : isRowD (.tuple [da, db]) = (isS da && isLs db) := by
            cases da <;> cases db <;> rfl
          rw [e] at this
          exact this
  · have hn : ∀ a b, d ≠ .tuple [a, b] := fun a b e => h2 ⟨a, b, e⟩
    have nt : notTwo d = true := by
      unfold notTwo
      split
      · exact absurd rfl (hn _ _)
      · rfl
    rw [nt]
    refine iteT ?_
    have := k H1 e1
    have e : isRowD d = false := by
      unfold isRowD
      split
      · exact absurd rfl (hn _ _)
      · rfl
    rw [e] at this
    exact this
theorem ev_eqNil {ta : TE} {xs : List V} (ha : EvL ta σ H xs) : Ev (tOp (rEqNil K) ta (tLst tNil)) σ H (.bl (decide (xs = []))) :=
  ev_opLL ha (el_lst ea_nil (by decide)) fun p q H1 hp hq e H2 e2 Q k => ⟨p, q, xs, rfl, rfl, ex_l e2 (sq_of hp), ex_l e2 (sq_of hq), k H2 (Evl.Ex.refl _)⟩
theorem ev_neNil {ta : TE} {xs : List V} (ha : EvL ta σ H xs) : Ev (tOp (rNeNil K) ta (tLst tNil)) σ H (.bl (decide (xs ≠ []))) :=
  ev_opLL ha (el_lst ea_nil (by decide)) fun p q H1 hp hq e H2 e2 Q k => ⟨p, q, xs, rfl, rfl, ex_l e2 (sq_of hp), ex_l e2 (sq_of hq), k H2 (Evl.Ex.refl _)⟩
theorem ev_neNilV {ta : TE} {a : Addr} {xs : List V} (ha : Ev ta σ H (.ref a)) (hx : SqL K H a xs) : Ev (tOp (rNeNil K) ta (tLst tNil)) σ H (.bl (decide (xs ≠ []))) :=
  ev_opL ha (el_lst ea_nil (by decide)) fun q H1 hq e H2 e2 Q k => ⟨a, q, xs, rfl, rfl, ex_l (e.trans e2) hx, ex_l e2 (sq_of hq), k H2 (Evl.Ex.refl _)⟩
end
end W81
namespace W81
open PySem PySem.Spec PyProof.Rows L2 LiI WB
open Evl hiding Ex
local macro_rules | `(tactic| walk_at "o") => `(tactic| dsimp only [tSeq, tIfS, tNext, tRet, tRetN, tDrop, tAsg, gName, tNever])
def chV (v : V) : Nat := (stV v).cps.toList.headD 0
section
variable {K : Fr} {mg : Str → Option Value} {vs : List V} {H : Hp} {Q : VK} {E : XK} {σ : L2.St} {tl te : TE}
theorem el_badSigns {i j : Nat} {ws : List Nat} {z signs : Str} (hl : ∀ Q' : VK, ∀ H1, Q' (.str z) H1 → tl σ H1 Q') (hz : z.length ≤ 100000) (hw : ∀ x, wipe ((wipe σ ws).set i (some x)) ws = wipe σ ws) (hi : ∀ x, ((wipe σ ws).set i (some x))[i]? = some (some x)) (hj : ∀ x, ((wipe σ ws).set i (some x))[j]? = some (some (.str signs))) :
    EvL (tLc (iStr tl) (gName i) (tTest (tOp rNiSgn (tVar i) (tVar j))) (tVar i) ws) σ H ((signsV z).filter fun v => !decide (chV v ∈ signs.cps.toList)) := by
  intro H0 e0 Q q
  refine lc_of (seq_str (z := z)) (fun R r => hl _ _ ⟨z, rfl, r⟩) (fun v => !decide (chV v ∈ signs.cps.toList)) (fun x y _ => y = x) (fun _ _ => trivial) (by simp [signsV]; have : z.cps.size = z.length := rfl; omega) (fun D hD x hx H2 e2 hacc k ky q1 q2 => ?_) fun D ys H2 hD e2 hys hp => q D H2 hD e2 (by
    have := paired_map (f := fun x => x) hp
    rw [List.map_id'] at this
    rw [hys, this])
  obtain ⟨c, hc, rfl⟩ := List.mem_map.mp hx
  refine ⟨hw _, ?_⟩
  refine test_ (op_ ?_)
  refine ⟨_, hi _, _, hj _, c, signs, rfl, rfl, _, rfl, iteB (fun hb => ⟨_, hi _, q2 hb _ H2 (Evl.Ex.refl _) fun _ _ => rfl⟩) fun hb => q1 hb H2 (Evl.Ex.refl _)⟩
theorem bad_nil {z signs : Str} : decide (((signsV z).filter fun v => !decide (chV v ∈ signs.cps.toList)) = []) = z.cps.toList.all fun c => decide (c ∈ signs.cps.toList) := by
  have h : ∀ l : List Nat, decide (((l.map fun c => V.str (sgn c)).filter fun v => !decide (chV v ∈ signs.cps.toList)) = []) = l.all fun c => decide (c ∈ signs.cps.toList) := by
    intro l
    induction l with
    | nil => rfl
    | cons c l ih =>
      rw [List.map_cons, List.filter_cons, List.all_cons, ← ih]
      have e : chV (V.str (sgn c)) = c := rfl
      rw [e]
      by_cases hc : c ∈ signs.cps.toList
      · rw [decide_eq_true hc]; rfl
      · rw [decide_eq_false hc]; rfl
  exact h _
theorem pure_l_is_word (T : Tx K mg) (h : sp_l_is_word K vs H Q E) : t_l_is_word K { nx := fun _ H' => Q .non H', rt := Q } (start N_l_is_word vs) H := by
  obtain ⟨v, d, rfl, hd, hz, k⟩ := h
  unfold t_l_is_word; walk_at "o"
  refine c_ ?_
  by_cases hS : isS d = true
  · cases hd with
    | str z =>
      have hz := hz z rfl
      refine et_or (et_not (et_B (ev_isS (ev_var rfl) (.str z)))) (fun _ => et_not (et_test (ev_chain ev_c (ev_lenS (ev_var rfl) hz) ev_c))) H (Evl.Ex.refl _) _ fun H1 e1 => iteB (fun h => ?_) (fun h => ?_)
      · have := k H1 e1
        have e : isWordD (.str z) = false := by
          show isMade z wordSigns 12 = false
          unfold isMade
          have h' : (decide ((1 : Int) ≤ z.length) && decide ((z.length : Int) ≤ 12)) = false := by
            cases c : (decide ((1 : Int) ≤ z.length) && decide ((z.length : Int) ≤ 12)) with
            | false => rfl
            | true => rw [c] at h; cases h
          rw [h']
          rfl
        rw [e] at this
        exact this
      · refine ev_eqNil (el_badSigns (signs := wordSigns) (fun Q' H1 q => ⟨_, rfl, q⟩) hz (fun _ => rfl) (fun _ => rfl) (fun _ => rfl)) H1 (Evl.Ex.refl _) _ fun H2 e2 => ?_
        have := k H2 (e1.trans e2)
        have e : isWordD (.str z) = z.cps.toList.all fun c => decide (c ∈ wordSigns.cps.toList) := by
          show isMade z wordSigns 12 = _
          unfold isMade
          have h' : (decide ((1 : Int) ≤ z.length) && decide ((z.length : Int) ≤ 12)) = true := by
            cases c : (decide ((1 : Int) ≤ z.length) && decide ((z.length : Int) ≤ 12)) with
            | true => rfl
            | false => rw [c] at h; cases h
          rw [h']
          rfl
        rw [e] at this
        rw [bad_nil]
        exact this
    | non => cases hS
    | bl => cases hS
    | int => cases hS
    | lst => cases hS
    | tup => cases hS
    | dic => cases hS
  · have hf : isS d = false := by simpa using hS
    refine et_or (b := false) (et_not (et_B (ev_isS (ev_var rfl) hd))) (fun h => by rw [hf] at h; cases h) H (Evl.Ex.refl _) _ fun H1 e1 => ?_
    rw [hf]
    refine iteT ?_
    have := k H1 e1
    have e : isWordD d = false := by
      cases d <;> first | rfl | cases hf
    rw [e] at this
    exact this
theorem lisWord_ev (T : Tx K mg) {f : L2.St → XK} {te : TE} {v : V} {d : PyData} (h : Ev te σ H v) (q : Dq K H v d) (hw : d.weight ≤ 100000) : Ev (tCallS (sp_l_is_word K) f (tCons te tNil)) σ H (.bl (isWordD d)) :=
  ev_cS (ea_cons h ea_nil) fun H1 e Q k => ⟨v, d, rfl, q.mono e, fun z hz => by subst hz; rw [wt_str] at hw; exact hw, k⟩
theorem pure_l_is_deed (T : Tx K mg) (h : sp_l_is_deed K vs H Q E) : t_l_is_deed K { nx := fun _ H' => Q .non H', rt := Q } (start N_l_is_deed vs) H := by
  obtain ⟨v, d, x, hs, ws, rfl, hd, hw, m, k⟩ := h
  unfold t_l_is_deed; walk_at "o"
  by_cases hT : isT d = true
  · cases hd with
    | tup ha hds =>
      rename_i a xs ds
      refine et_or (et_not (et_B (ev_isTu (ev_var rfl) (.tup ha hds)))) (fun _ => et_test (ev_rI0 (len_q ha hds (Evl.Ex.refl _) rfl) ev_c)) H (Evl.Ex.refl _) _ fun H1 e1 => ?_
      have m1 := m.mono e1
      cases hds with
      | nil => exact iteT (k H1 e1)
      | cons q0 t0 =>
        cases t0 with
        | nil => exact iteT (k H1 e1)
        | cons q1 t1 =>
          rename_i v0 d0 v1 xs1 d1 ds1
          have hds : DqAll K H (v0 :: v1 :: xs1) (d0 :: d1 :: ds1) := .cons q0 (.cons q1 t1)
          have a1 := e1 _ _ ha
          have nl : (!isT (PyData.tuple (d0 :: d1 :: ds1)) || decide (((d0 :: d1 :: ds1).length : Int) < 2)) = false := by
            show (false || decide (((d0 :: d1 :: ds1).length : Int) < 2)) = false
            rw [decide_eq_false (by simp only [List.length_cons]; omega)]
            rfl
          rw [nl]
          refine iteF ?_
          refine et_test (ev_eqI (len_q ha hds e1 rfl) ev_c) H1 (Evl.Ex.refl _) _ fun H2 e2 => ?_
          have e12 := e1.trans e2
          have a2 := e2 _ _ a1
          cases t1 with
          | nil =>
            refine iteT ?_
            refine ev_andV (ev_eqQ (ev_ixT (ev_var rfl) ev_c (st_of a2) (atI_nat (j := 0) rfl)) (q0.mono e12) ev_c) (fun _ => ev_inQL (ev_ixT (ev_var rfl) ev_c (st_of a2) (atI_nat (j := 1) rfl)) (q1.mono e12) (el_hosts T (ev_var rfl) (m1.mono e2))) H2 (Evl.Ex.refl _) _ fun H3 e3 => k H3 (e12.trans e3)
          | cons q2 t2 =>
            rename_i v2 xs2 d2 ds2
            have hne : decide (((d0 :: d1 :: d2 :: ds2).length : Int) = 2) = false := decide_eq_false (by simp only [List.length_cons]; omega)
            rw [hne]
            refine iteF ?_
            have hw2 : d2.weight ≤ 100000 := by
              rw [wt_tup] at hw
              have := wt_mem (ds := d0 :: d1 :: d2 :: ds2) (d := d2) (by simp)
              omega
            cases t2 with
            | nil =>
              refine ev_andV (ev_eqI (len_q ha hds e12 rfl) ev_c) (fun _ => ev_andV (ev_eqQ (ev_ixT (ev_var rfl) ev_c (st_of a2) (atI_nat (j := 0) rfl)) (q0.mono e12) ev_c) (fun _ => ev_andV (ev_inQL (ev_ixT (ev_var rfl) ev_c (st_of a2) (atI_nat (j := 1) rfl)) (q1.mono e12) (el_walkers T (ev_var rfl) (m1.mono e2))) (fun _ => lisWord_ev T (ev_ixT (ev_var rfl) ev_c (st_of a2) (atI_nat (j := 2) rfl)) (q2.mono e12) hw2))) H2 (Evl.Ex.refl _) _ fun H3 e3 => ?_
              have := k H3 (e12.trans e3)
              have e : isDeedD hs (ws.map (·.1)) (.tuple [d0, d1, d2]) = (true && (eqZ "write" d0 && (inD (ws.map (·.1)) d1 && isWordD d2))) := by
                show (eqZ "write" d0 && inD (ws.map (·.1)) d1 && isWordD d2) = _
                rw [Bool.true_and, Bool.and_assoc]
              rw [e] at this
              exact this
            | cons q3 t3 =>
              rename_i v3 xs3 d3 ds3
              have h3 : decide (((d0 :: d1 :: d2 :: d3 :: ds3).length : Int) = 3) = false := decide_eq_false (by simp only [List.length_cons]; omega)
              refine ev_andV (b := false) (ev_bl (ev_eqI (len_q ha hds e12 rfl) ev_c) h3) (fun h => by cases h) H2 (Evl.Ex.refl _) _ fun H3 e3 => k H3 (e12.trans e3)
    | non => cases hT
    | bl => cases hT
    | int => cases hT
    | lst => cases hT
    | str => cases hT
    | dic => cases hT
  · have hf : isT d = false := by simpa using hT
    refine et_or (b := false) (et_not (et_B (ev_isTu (ev_var rfl) hd))) (fun h => by rw [hf] at h; cases h) H (Evl.Ex.refl _) _ fun H1 e1 => ?_
    rw [hf]
    refine iteT ?_
    have := k H1 e1
    have e : isDeedD hs (ws.map (·.1)) d = false := by
      cases d <;> first | rfl | cases hf
    rw [e] at this
    exact this
end
end W81
namespace W81
open PySem PySem.Spec PyProof.Rows L2 LiI WB
open Evl hiding Ex
local macro_rules | `(tactic| walk_at "o") => `(tactic| dsimp only [tSeq, tIfS, tNext, tRet, tRetN, tDrop, tAsg, gName, tNever])
section
variable {K : Fr} {mg : Str → Option Value} {vs : List V} {H : Hp} {Q : VK} {E : XK} {σ : L2.St} {tl te : TE}
open Classical in
theorem ex_keep (g : PyData → Bool) : ∃ keep : V → Bool, ∀ v d, Dq K H v d → keep v = g d :=
  ⟨fun v => if h : ∃ d, Dq K H v d then g h.choose else true, fun v d h => by
    have h0 : ∃ d, Dq K H v d := ⟨d, h⟩
    show (if h : ∃ d, Dq K H v d then g h.choose else true) = g d
    rw [dif_pos h0, q_uniq h0.choose_spec h]⟩
theorem ne_filter {a : Addr} {xs : List V} {ds : List PyData} {i : Nat} {ws : List Nat} {tt : TT} (g : PyData → Bool) (hl : Ev tl σ H (.ref a)) (hx : H a = some (.lst xs)) (hq : DqAll K H xs ds) (hlen : ds.length ≤ 1000000) (hw : ∀ x, wipe ((wipe σ ws).set i (some x)) ws = wipe σ ws) (hi : ∀ x, ((wipe σ ws).set i (some x))[i]? = some (some x))
    (ht : ∀ v d, d ∈ ds → Dq K H v d → ∀ H1, Ex H H1 → EvT tt ((wipe σ ws).set i (some v)) H1 (!g d)) : Ev (tOp (rNeNil K) (tLc (iList K tl) (gName i) tt (tVar i) ws) (tLst tNil)) σ H (.bl (!ds.all g)) := by
  obtain ⟨keep, hk⟩ := ex_keep (K := K) (H := H) (fun d => !g d)
  have hE : EvL (tLc (iList K tl) (gName i) tt (tVar i) ws) σ H (xs.filter keep) := fun H0 e0 Q q =>
    lc_listV (hl.mono e0) (sq_of (e0 _ _ hx)) keep (fun x y _ => y = x) (by rw [qa_len hq]; exact hlen) hw (fun D H1 hD e1 hacc x hx k ky h1 h2 => by
      obtain ⟨d, hd, qd⟩ := qa_mem hq hx
      rw [hk x d qd] at h1 h2
      refine ht x d hd qd H1 (e0.trans e1) H1 (Evl.Ex.refl _) _ fun H2 e2 => iteB (fun h => ⟨_, hi _, h2 h _ H2 e2 fun _ _ => rfl⟩) fun h => h1 h H2 e2) fun D ys H' hD e h r => q D H' hD e (by
        have := paired_map (f := fun x => x) r
        rw [List.map_id'] at this
        rw [h, this])
  have key : decide (xs.filter keep ≠ []) = !ds.all g := by
    clear hE ht hlen hx
    induction xs generalizing ds with
    | nil => cases hq; rfl
    | cons x xs ih =>
      cases hq with
      | cons h t =>
        rename_i d ds
        have := ih t
        rw [List.filter_cons, hk x d h, List.all_cons]
        cases hg : g d with
        | true => simpa using this
        | false => simp
  have := ev_neNil (K := K) hE
  rw [key] at this
  exact this
def outBad (wn taken : List Str) : PyData → Bool
  | .tuple [a, _] => !inD wn a || inD taken a
  | _ => true
theorem row_look (T : Tx K mg) {i j t : Nat} {v : V} {d : PyData} {x tk : Addr} {hs taken : List Str} {ws : List (Str × Str)} {f : L2.St → XK} (h : Dq K H v d) (hσ : σ[i]? = some (some v)) (hj : σ[j]? = some (some (.ref x))) (m : MapAt K H x hs ws) (ht : σ[t]? = some (some (.ref tk))) (htk : H tk = some (.lst (SV taken))) :
    EvT (tOr (tNot (tB (tCB (rIsi K) (tCons (tVar i) (tCons (tC (.ty "tuple")) tNil))))) (tOr (tTest (tOp (rNeA K) (tCB (rLenA K) (tCons (tVar i) tNil)) (tC (.int 2)))) (tOr (tTest (tOp (rInQ K true) (tOp (rIx K) (tVar i) (tC (.int 0))) (tMethS (He.ga K "Map") "walkers" (sp_Map_walkers K) f (tVar j) tNil))) (tTest (tOp (rInQ K false) (tOp (rIx K) (tVar i) (tC (.int 0))) (tVar t)))))) σ H (outBad (ws.map (·.1)) taken d) := by
  by_cases hT : isT d = true
  · cases h with
    | tup ha hds =>
      rename_i a xs ds
      have hl : Ev (tCB (rLenA K) (tCons (tVar i) tNil)) σ H (.int (ds.length : Nat)) := by
        have := ev_lenT (K := K) (H := H) (ev_var hσ) (st_of ha)
        rw [qa_len hds] at this
        exact this
      have hfirst := et_not (et_B (ev_isTu (K := K) (ev_var hσ) (.tup ha hds)))
      by_cases h2 : ds.length = 2
      · match ds, h2 with
        | [da, db], _ =>
          have hds' := hds
          cases hds with
          | cons q0 t0 =>
            cases t0 with
            | cons q1 t1 =>
              cases t1
              have ix := ev_ixT (K := K) (ev_var (σ := σ) hσ) (ev_c (v := .int 0)) (st_of ha) (atI_nat (j := 0) rfl)
              refine et_is (et_or hfirst (fun _ => et_or (et_test (ev_neI hl ev_c)) (fun _ => et_or (et_test (ev_niQL ix q0 (el_walkers T (ev_var hj) m))) (fun _ => et_test (ev_inQ ix q0 (ev_var ht) (sq_of htk)))))) ?_
              rfl
      · have hd2 : decide (((ds.length : Nat) : Int) = 2) = false := decide_eq_false (by omega)
        refine et_is (et_or hfirst (fun _ => et_or (b := false) (et_test (ev_neI hl ev_c)) (fun h => by rw [hd2] at h; cases h))) ?_
        rw [hd2]
        unfold outBad
        split
        · rename_i h
          cases h
          exact absurd rfl h2
        · rfl
    | non => cases hT
    | bl => cases hT
    | int => cases hT
    | lst => cases hT
    | str => cases hT
    | dic => cases hT
  · have hf : isT d = false := by simpa using hT
    refine et_is (et_or (b := false) (et_not (et_B (ev_isTu (ev_var hσ) h))) (fun h => by rw [hf] at h; cases h)) ?_
    rw [hf]
    cases d with
    | tuple => cases hf
    | _ => rfl
theorem outBad_some {hs wn taken : List Str} {k : Nat} {d : PyData} (h : outBad wn taken d = true) : rowBad hs wn k taken d = some (toString (k : Int)) := by
  by_cases h2 : ∃ a b, d = .tuple [a, b]
  · obtain ⟨a, b, rfl⟩ := h2
    refine rowBad_out ?_
    have h' : (!inD wn a || inD taken a) = true := h
    cases c1 : inD wn a with
    | false => rfl
    | true =>
      rw [c1] at h'
      have : inD taken a = true := h'
      rw [this]
      rfl
  · exact rowBad_not fun a b e => h2 ⟨a, b, e⟩
theorem outBad_no {wn taken : List Str} {d : PyData} (h : outBad wn taken d = false) : ∃ n b, d = .tuple [.str n, b] ∧ (inD wn (.str n) && !inD taken (.str n)) = true := by
  unfold outBad at h
  split at h
  · rename_i a b
    rw [Bool.or_eq_false_iff, Bool.not_eq_false'] at h
    obtain ⟨n, rfl, _⟩ := inD_str h.1
    exact ⟨n, b, rfl, by rw [h.1, h.2]; rfl⟩
  · cases h
theorem ldeed_ev (T : Tx K mg) {f : L2.St → XK} {ta tb : TE} {v : V} {d : PyData} {x : Addr} {hs : List Str} {ws : List (Str × Str)} (h : Ev ta σ H v) (q : Dq K H v d) (hw : d.weight ≤ 100000) (hx : Ev tb σ H (.ref x)) (m : MapAt K H x hs ws) :
    Ev (tCallS (sp_l_is_deed K) f (tCons ta (tCons tb tNil))) σ H (.bl (isDeedD hs (ws.map (·.1)) d)) := ev_cS (ea_cons h (ea_cons hx ea_nil)) fun H1 e Q k => ⟨v, d, x, hs, ws, rfl, q.mono e, hw, m.mono e, k⟩
theorem pure_l_due (T : Tx K mg) (h : sp_l_due K vs H Q E) : t_l_due K { nx := fun _ H' => Q .non H', rt := Q } (start N_l_due vs) H := by
  obtain ⟨v, d, x, hs, ws, rfl, hd, hw, m, k⟩ := h
  unfold t_l_due; walk_at "o"
  by_cases hL : isLs d = true
  · cases hd with
    | lst hl hds =>
      rename_i l xs ds
      refine ev_isLi (ev_var rfl) (Dq.lst hl hds) H (Evl.Ex.refl _) _ fun H1 e1 => ⟨_, rfl, iteF ?_⟩
      refine el_lst ea_nil (by decide) H1 (Evl.Ex.refl _) _ fun t H2 ht e2 h2 => ?_
      have e12 := e1.trans e2
      have lw : ds.length ≤ 50000 := by
        have := wt_len ds
        rw [wt_list] at hw
        omega
      have tn : H t = none := fresh_back e1 ht
      refine for_enum (a := l) (xs := xs) (v_var rfl) (fun i σ' H' => ∃ v3 v4 v5, σ' = [some (.ref l), some (.ref x), some (.ref t), v3, v4, v5] ∧ Ex H H' ∧ ∃ taken : List Str, H' t = some (.lst (SV taken)) ∧ taken.length = i ∧
        rowsBad hs (ws.map (·.1)) i taken (ds.drop i) = planBad hs (ws.map (·.1)) (.list ds)) ⟨none, none, none, rfl, e12, [], h2, rfl, rfl⟩ (fun i σ' H' _ ⟨_, _, _, _, e, _⟩ => sq_of (e _ _ hl)) ?_ ?_
      · rintro i y σ' H3 hy ⟨v3, v4, v5, rfl, e3, taken, htk, ltk, hbad⟩ T0 hT
        obtain ⟨dy, hdy, qy⟩ := qa_at hds hy
        have hi : i < ds.length := (List.getElem?_eq_some_iff.mp hdy).1
        have e30 : Ex H (upd H3 T0 (.tup [.int (i : Int), y])) := e3.trans (Evl.Ex.new hT)
        have ht0 : (upd H3 T0 (.tup [.int (i : Int), y])) t = some (.lst (SV taken)) := by rw [upd_ne (ne_of_none htk hT)]; exact htk
        have hwy : dy.weight + 1 ≤ 50000 := by
          have := wt_mem (List.mem_of_getElem? hdy)
          rw [wt_list] at hw
          omega
        have hdrop : ds.drop i = dy :: ds.drop (i + 1) := by
          rw [List.drop_eq_getElem_cons hi]
          congr 1
          exact (List.getElem?_eq_some_iff.mp hdy).2
        walk_at "o"
        refine row_look T (hs := hs) (qy.mono e30) rfl rfl (m.mono e30) rfl ht0 _ (Evl.Ex.refl _) _ fun H4 e4 => iteB (fun hb => ?_) (fun hb => ?_)
        · have e34 := e30.trans e4
          refine ⟨_, rfl, i, rfl, log_ok (by omega), ?_⟩
          have := k H4 e34
          rw [← hbad, hdrop, rowsBad_stop (outBad_some hb)] at this
          exact this
        · obtain ⟨n, db, rfl, hin⟩ := outBad_no hb
          cases qy with
          | tup ha hqs =>
            cases hqs with
            | cons q0 t0 =>
              cases t0 with
              | cons q1 t1 =>
                cases t1
                cases q0
                rename_i a v1
                have e34 := e30.trans e4
                have a4 := st_of (K := K) (e34 _ _ ha)
                have hwb : db.weight ≤ 50000 := by
                  rw [wt_tup] at hwy
                  have := wt_mem (ds := [PyData.str n, db]) (d := db) (by simp)
                  omega
                by_cases hL2 : isLs db = true
                · cases q1 with
                  | lst hb1 hds1 =>
                    rename_i b xs1 ds1
                    have hlen : ds1.length ≤ 100000 := by
                      have := wt_len ds1
                      rw [wt_list] at hwb
                      omega
                    refine et_or (et_not (et_B (ev_isLi (ev_ixT (ev_var rfl) ev_c a4 (atI_nat (j := 1) rfl)) ((Dq.lst hb1 hds1).mono e34)))) (fun _ => et_test (ne_filter (isDeedD hs (ws.map (·.1))) (ev_ixT (ev_var rfl) ev_c a4 (atI_nat (j := 1) rfl)) (e34 _ _ hb1) (hds1.mono e34) (by omega) (fun _ => rfl) (fun _ => rfl) (fun v d hd qd H5 e5 => et_not (et_B (ldeed_ev T (ev_var rfl) (qd.mono e5) (by
                      have := wt_mem hd
                      rw [wt_list] at hwb
                      omega) (ev_var rfl) (m.mono (e34.trans e5))))))) H4 (Evl.Ex.refl _) _ fun H5 e5 => iteB (fun hc => ?_) (fun hc => ?_)
                    · refine ev_ixT (v := .str n) (ev_var rfl) ev_c (st_of ((e34.trans e5) _ _ ha)) (atI_nat (j := 0) rfl) H5 (Evl.Ex.refl _) _ fun H6 e6 => ?_
                      have := k H6 ((e34.trans e5).trans e6)
                      have hall : ds1.all (isDeedD hs (ws.map (·.1))) = false := by
                        cases c : ds1.all (isDeedD hs (ws.map (·.1))) with
                        | false => rfl
                        | true => rw [c] at hc; cases hc
                      rw [← hbad, hdrop, rowsBad_stop (by rw [rowBad_list hin, hall]; rfl)] at this
                      exact this
                    · have hall : ds1.all (isDeedD hs (ws.map (·.1))) = true := by
                        cases c : ds1.all (isDeedD hs (ws.map (·.1))) with
                        | true => rfl
                        | false => rw [c] at hc; cases hc
                      have e35 := e34.trans e5
                      have ht5 := e5 _ _ (e4 _ _ ht0)
                      refine ⟨_, rfl, .inl ⟨rfl, _, sq_of ht5⟩, ?_⟩
                      refine cons_ ?_
                      refine ev_ixT (v := .str n) (ev_var rfl) ev_c (st_of (e35 _ _ ha)) (atI_nat (j := 0) rfl) H5 (Evl.Ex.refl _) _ fun H6 e6 => ⟨t, SV taken, .str n, rfl, rfl, e6 _ _ ht5, small_lt (by rw [List.length_map]; omega), ?_⟩
                      refine ⟨_, _, _, rfl, Evl.Ex.mut (e35.trans e6) tn, taken ++ [n], by rw [upd_same, SV_app]; rfl, by simp [ltk], ?_⟩
                      rw [← hbad, hdrop, rowsBad_step (by rw [rowBad_list hin, hall]; rfl)]
                      rfl
                  | non => cases hL2
                  | bl => cases hL2
                  | int => cases hL2
                  | tup => cases hL2
                  | str => cases hL2
                  | dic => cases hL2
                · have hf : isLs db = false := by simpa using hL2
                  refine et_or (b := false) (et_not (et_B (ev_isLi (ev_ixT (ev_var rfl) ev_c a4 (atI_nat (j := 1) rfl)) (q1.mono e34)))) (fun h => by rw [hf] at h; cases h) H4 (Evl.Ex.refl _) _ fun H5 e5 => ?_
                  rw [hf]
                  refine iteT ?_
                  refine ev_ixT (v := .str n) (ev_var rfl) ev_c (st_of ((e34.trans e5) _ _ ha)) (atI_nat (j := 0) rfl) H5 (Evl.Ex.refl _) _ fun H6 e6 => ?_
                  have := k H6 ((e34.trans e5).trans e6)
                  rw [← hbad, hdrop, rowsBad_stop (rowBad_nol hin hf)] at this
                  exact this
      · rintro σ' H3 ⟨v3, v4, v5, rfl, e3, taken, htk, ltk, hbad⟩
        have hn : xs.length = ds.length := qa_len hds
        rw [hn, List.drop_length] at hbad
        have := k H3 e3
        rw [← hbad] at this
        exact this
    | non => cases hL
    | bl => cases hL
    | int => cases hL
    | tup => cases hL
    | str => cases hL
    | dic => cases hL
  · have hf : isLs d = false := by simpa using hL
    refine ev_isLi (ev_var rfl) hd H (Evl.Ex.refl _) _ fun H1 e1 => ⟨_, rfl, ?_⟩
    rw [hf]
    refine iteT ?_
    have := k H1 e1
    have e : planBad hs (ws.map (·.1)) d = some "rows" := by
      cases d with
      | list => cases hf
      | _ => rfl
    rw [e] at this
    exact this
end
end W81
namespace W81
open PySem PySem.Spec PyProof.Rows L2 LiI WB
open Evl hiding Ex
local macro_rules | `(tactic| walk_at "o") => `(tactic| dsimp only [tSeq, tIfS, tNext, tRet, tRetN, tDrop, tAsg, gName, tNever])
section
variable {K : Fr} {mg : Str → Option Value} {vs : List V} {H : Hp} {Q : VK} {E : XK} {σ : L2.St} {tl te : TE}
theorem pure_l_pot (T : Tx K mg) (h : sp_l_pot K vs H Q E) : t_l_pot K { nx := fun _ H' => Q .non H', rt := Q } (start N_l_pot vs) H := by
  obtain ⟨a, ns, k, rfl, hs, hl, k0, k4, q⟩ := h
  unfold t_l_pot; walk_at "o"
  obtain ⟨n, rfl⟩ := Int.eq_ofNat_of_zero_le k0
  have hc : ∃ c, Ev (tIf (tTest (tOp rLtI (tVar 1) (tCB (rLenA K) (tCons (tVar 0) tNil)))) (tOp (rIx K) (tVar 0) (tVar 1)) (tC (.int 0))) (start N_l_pot [.ref a, .int (n : Int)]) H (.int c) := by
    by_cases hn : n < ns.length
    · refine ⟨ns[n], ev_if (et_test (ev_rI0 (ev_var rfl) (ev_lenL (ev_var rfl) hs))) (fun _ => ev_ixL (ev_var rfl) (ev_var rfl) hs (atI_nat (by rw [List.getElem?_map, List.getElem?_eq_getElem hn]; rfl))) fun hf => ?_⟩
      rw [List.length_map] at hf
      exact absurd hf (by simp [hn])
    · refine ⟨0, ev_if (et_test (ev_rI0 (ev_var rfl) (ev_lenL (ev_var rfl) hs))) (fun ht => ?_) fun hf => ev_c⟩
      rw [List.length_map] at ht
      have := of_decide_eq_true ht
      omega
  obtain ⟨c, hc⟩ := hc
  refine hc H (Evl.Ex.refl _) _ fun H1 e1 => ?_
  have hm0 := Int.emod_nonneg c (b := 2147483629) (by decide)
  have hm1 := Int.emod_lt_of_pos c (b := 2147483629) (by decide)
  have hm2 := fun z : Int => Int.emod_nonneg z (b := 2147483629) (by decide)
  have hm3 := fun z : Int => Int.emod_lt_of_pos z (b := 2147483629) (by decide)
  refine el_lst (ea_cons (ev_max ev_c (ev_rI0 (ev_var rfl) (ev_rI (g := fun i j => .int (i ^ j.toNat)) ev_c ev_c ⟨by decide, by decide, by decide⟩))) (ea_cons (ev_rI (g := fun i j => .int (i % j)) (ev_addI (ev_addI (ev_addI (ev_rI (C := CMul) (g := fun i j => .int (i * j)) (ev_rI (g := fun i j => .int (i % j)) (ev_var rfl) ev_c (by decide)) ev_c (.inr ⟨by decide, by decide⟩)) (ev_rI (C := CMul) (g := fun i j => .int (i * j)) (ev_rI (C := CMul) (g := fun i j => .int (i * j)) ev_c (ev_var rfl) (.inl ⟨by decide, by decide⟩)) (ev_var rfl) (.inr ⟨by omega, by omega⟩))) (ev_rI (C := CMul) (g := fun i j => .int (i * j)) ev_c (ev_var rfl) (.inl ⟨by decide, by decide⟩))) ev_c) ev_c (by decide)) ea_nil)) (by show 2 ≤ _; decide) H1 (Evl.Ex.refl _) _ fun p H2 hp e2 h2 => ?_
  refine q p H2 (fresh_back e1 hp) (e1.trans e2) ⟨_, _, h2, by omega, hm2 _, ?_⟩
  have := hm3 (c % 2147483629 * 48271 + 6007 * ↑n * ↑n + 41 * ↑n + 23)
  omega
theorem pure_l_take (T : Tx K mg) (h : sp_l_take K vs H Q E) : t_l_take K { nx := fun _ H' => Q .non H', rt := Q } (start N_l_take vs) H := by
  obtain ⟨p, n, rfl, ⟨a, b, hp, ha, hb0, hb1⟩, n1, n2, k⟩ := h
  unfold t_l_take; walk_at "o"
  refine et_test (ev_rI0 (ev_ixL (ev_var rfl) ev_c (sq_of hp) rfl) ev_c) H (Evl.Ex.refl _) _ fun H1 e1 => iteB (fun h => ?_) (fun h => ?_)
  · have h0 : 0 < a := of_decide_eq_true h
    refine cb2 ?_
    refine ev_ixL (v := .int a) (ev_var rfl) ev_c (sq_of (e1 _ _ hp)) rfl H1 (Evl.Ex.refl _) _ fun H2 e2 => ?_
    have e12 := e1.trans e2
    refine ⟨_, rfl, a, n, rfl, ⟨by omega, by omega⟩, fun t ht => ?_⟩
    have h2 := e12 _ _ hp
    have tp : p ≠ t := ne_of_none h2 ht
    refine ⟨t, _, rfl, st_of upd_same, rfl, _, _, rfl, _, rfl, ?_⟩
    refine ⟨p, _, 0, 0, rfl, rfl, by rw [upd_ne tp]; exact h2, rfl, _, _, rfl, rfl, _, rfl, ?_⟩
    exact k (a % n) _ (Int.emod_nonneg _ (by omega)) (Int.emod_lt_of_pos _ (by omega)) (ExP.tu (ExP.of (e12.trans (Evl.Ex.new ht)))) ⟨_, _, upd_same, Int.ediv_nonneg (by omega) (by omega), hb0, hb1⟩
  · refine ev_rI (g := fun i j => .int (i % j)) (ev_addI (ev_rI (C := CMul) (g := fun i j => .int (i * j)) (ev_ixL (ev_var rfl) ev_c (sq_of (e1 _ _ hp)) rfl) ev_c (.inr ⟨by decide, by decide⟩)) ev_c) ev_c (by decide) H1 (Evl.Ex.refl _) _ fun H2 e2 => ?_
    have e12 := e1.trans e2
    refine ⟨_, rfl, p, _, 1, 1, rfl, rfl, e12 _ _ hp, rfl, ?_⟩
    have hm0 := Int.emod_nonneg (b * 39373 + 8191) (b := 2147483587) (by decide)
    have hm1 := Int.emod_lt_of_pos (b * 39373 + 8191) (b := 2147483587) (by decide)
    have hp3 : (upd H2 p (.lst (List.set [V.int a, V.int b] 1 (.int ((b * 39373 + 8191) % 2147483587))))) p = some (.lst [V.int a, V.int ((b * 39373 + 8191) % 2147483587)]) := upd_same
    refine ev_rI (g := fun i j => .int (i % j)) (ev_rI (C := CDiv) (g := fun i j => .int (i / j)) (ev_rI (g := fun i j => .int (i % j)) (ev_rI (C := CMul) (g := fun i j => .int (i * j)) (ev_ixL (ev_var rfl) ev_c (sq_of hp3) rfl) (ev_ixL (ev_var rfl) ev_c (sq_of hp3) rfl) (.inl ⟨by omega, by omega⟩)) ev_c (by decide)) ev_c ⟨by decide, by decide⟩) (ev_var rfl) (by omega) _ (Evl.Ex.refl _) _ fun H3 e3 => ?_
    exact k _ _ (Int.emod_nonneg _ (by omega)) (Int.emod_lt_of_pos _ (by omega)) (((ExP.of e12).tu).tx e3) ⟨a, _, e3 _ _ hp3, ha, hm0, by omega⟩
theorem digit_ {i : Nat} {tn : TE} {f : L2.St → XK} {p : Addr} {n : Int} (hv : σ[i]? = some (some (.ref p))) (pot : Pot H p) (ht : Ev tn σ H (.int n)) (n1 : 1 ≤ n) (n2 : n < 1000000) (q : ∀ d H', 0 ≤ d → d < n → ExP p H H' → Pot H' p → Q (.int d) H') :
    tCallS (sp_l_take K) f (tCons (tVar i) (tCons tn tNil)) σ H Q := ⟨_, hv, ht H (Evl.Ex.refl _) _ fun H1 e => ⟨p, n, rfl, pot_mono e pot, n1, n2, fun d H' h1 h2 e' po => q d H' h1 h2 ((ExP.of e).trans e') po⟩⟩
end
end W81
namespace W81
open PySem PySem.Spec PyProof.Rows L2 LiI WB
open Evl hiding Ex
local macro_rules | `(tactic| walk_at "o") => `(tactic| dsimp only [tSeq, tIfS, tNext, tRet, tRetN, tDrop, tAsg, gName, tNever])
def fstS (z : Str) : Str := sgn (z.cps.toList.headD 0)
theorem fstS_app {s z : Str} (h : s ∈ singles) : fstS (s ++ z) = s := by
  obtain ⟨c, _, rfl⟩ := List.mem_map.mp h
  unfold fstS
  rw [show (sgn c ++ z).cps.toList = c :: z.cps.toList from by rw [Str.cps_append, Array.toList_append]; rfl]
  rfl
theorem singles_nodup : singles.Nodup := by decide +kernel
theorem singles_len : singles.length = 26 := by decide +kernel
theorem signs_singles : signsV letters = SV singles := by
  show List.map _ _ = List.map _ (List.map _ _)
  rw [List.map_map]
  rfl
theorem singles_at {d : Int} (h0 : 0 ≤ d) (h1 : d < 26) : ∃ c, atI letters.cps.toList d = some c ∧ sgn c ∈ singles := by
  obtain ⟨n, rfl⟩ := Int.eq_ofNat_of_zero_le h0
  have hl : letters.cps.toList.length = 26 := by decide +kernel
  have hn : n < letters.cps.toList.length := by omega
  exact ⟨_, atI_nat (List.getElem?_eq_getElem hn), List.mem_map.mpr ⟨_, List.getElem_mem hn, rfl⟩⟩
theorem map_erase : ∀ (l : List Str) (j : Nat), (SV l).eraseIdx j = SV (l.eraseIdx j)
  | [], _ => rfl
  | _ :: _, 0 => rfl
  | a :: l, j + 1 => by
    show V.str a :: (SV l).eraseIdx j = V.str a :: SV (l.eraseIdx j)
    rw [map_erase l j]
theorem nodup_erase : ∀ {l : List Str} {j : Nat} {s : Str}, l.Nodup → l[j]? = some s → s ∉ l.eraseIdx j
  | a :: l, 0, s, nd, h => by
    have e : a = s := Option.some.inj h
    rw [← e]
    exact (List.nodup_cons.mp nd).1
  | a :: l, j + 1, s, nd, h => by
    have h' : l[j]? = some s := h
    intro hm
    have hm' : s ∈ a :: l.eraseIdx j := hm
    rcases List.mem_cons.mp hm' with e | hm'
    · exact (List.nodup_cons.mp nd).1 (by rw [← e]; exact List.mem_of_getElem? h')
    · exact nodup_erase (List.nodup_cons.mp nd).2 h' hm'
section
variable {K : Fr} {mg : Str → Option Value} {vs : List V} {H : Hp} {Q : VK} {E : XK} {σ : L2.St} {tl te : TE}
theorem lc_rng1 {ta : TA} {g : TG} {tt : TT} {ws : List Nat} (h : ta σ H fun vs H1 => ∃ j : Int, vs = [.int j] ∧ -(2 ^ 62) ≤ j ∧ j < 2 ^ 62 ∧ ∀ D, H1 D = none → ∃ W : Nat → Nat → Hp → Prop, (∃ m, W 0 m (upd H1 D (.lst []))) ∧ ∀ i m H, W i m H →
      ((Itr 0 j.toNat).stop i H ∧ Q (.ref D) H) ∨ ((Itr 0 j.toNat).go i H ∧ ∃ Nx : Hp → Prop, (∀ H', Nx H' → ∃ m', m' < m ∧ W (i + 1) m' H') ∧ ∀ x H', (Itr 0 j.toNat).yld i H x H' → g x (wipe σ ws) H' fun σ2 H2 => wipe σ2 ws = wipe σ ws ∧ tt σ2 H2 fun b H3 =>
        if b = true then te σ2 H3 fun y H4 => ∃ acc, H4 D = some (.lst acc) ∧ acc.length < sizeLine ∧ Nx (upd H4 D (.lst (acc ++ [y]))) else Nx H3)) : tLc (iRng1 ta) g tt te ws σ H Q := h
theorem ints_len {n : Nat} : (intsV 0 n).length = n := by unfold intsV; rw [List.length_map, List.length_range]
theorem ints_at {n i : Nat} {x : V} (h : (intsV 0 n)[i]? = some x) : i < n ∧ x = .int (i : Int) := by
  have hi := (List.getElem?_eq_some_iff.mp h).1
  rw [ints_len] at hi
  refine ⟨hi, ?_⟩
  unfold intsV at h
  rw [List.getElem?_map, List.getElem?_range hi] at h
  have := (Option.some.inj h).symm
  rw [this]
  show V.int (0 + (i : Int)) = V.int (i : Int)
  rw [Int.zero_add]
theorem pure_l_names (T : Tx K mg) (h : sp_l_names K vs H Q E) : t_l_names K { nx := fun _ H' => Q .non H', rt := Q } (start N_l_names vs) H := by
  obtain ⟨p, n, rfl, pot, n0, n6, k⟩ := h
  unfold t_l_names; walk_at "o"
  refine c_ ?_
  refine cons_ (cb1 ?_)
  refine ⟨_, rfl, letters, rfl, by decide +kernel, fun f hf => ?_⟩
  refine cons_ ?_
  have pf := pot.ne hf
  have e1 : Ex H (L2.upd H f (.lst (signsV letters))) := Evl.Ex.new hf
  refine el_lst ea_nil (by decide) _ (Evl.Ex.refl _) _ fun q H2 hq e2 h2 => ?_
  have e12 := e1.trans e2
  have hq0 : H q = none := fresh_back e1 hq
  have hf2 : H2 f = some (.lst (SV singles)) := by
    have := e2 _ _ (upd_same (H := H) (a := f) (o := .lst (signsV letters)))
    rw [signs_singles] at this
    exact this
  have qf : q ≠ f := (ne_of_none upd_same hq).symm
  have pq := pot.ne hq0
  refine ⟨_, _, rfl, ?_⟩
  walk_at "o"
  refine for_of (seq_rng (lo := 0) (n := n.toNat)) (fun R r => ⟨_, rfl, n, rfl, by omega, by omega, r⟩) (fun i σ' H' => ∃ v5 v6 v7, σ' = [some (.ref p), some (.int n), some (.str letters), some (.ref f), some (.ref q), v5, v6, v7] ∧ ExP p H H' ∧ Pot H' p ∧ ∃ lf xs : List Str, H' f = some (.lst (SV lf)) ∧ H' q = some (.lst (SV xs)) ∧
      lf.length + i = 26 ∧ lf.Nodup ∧ (∀ s ∈ lf, s ∈ singles) ∧ xs.length = i ∧ (∀ u ∈ xs, isName u = true) ∧ xs.Nodup ∧ ∀ u ∈ xs, fstS u ∉ lf)
    ⟨none, none, none, rfl, .of e12, pot_mono e12 pot, singles, [], hf2, h2, by rw [singles_len], singles_nodup, fun _ h => h, rfl, fun _ h => (by cases h), List.nodup_nil, fun _ h => by cases h⟩ (fun _ _ _ _ _ => trivial) ?_ ?_
  · rintro i x σ' H3 hx ⟨v5, v6, v7, rfl, e3, pot3, lf, xs, hf3, hq3, llf, nlf, slf, lxs, nxs, ndx, fxs⟩
    obtain ⟨hi, rfl⟩ := ints_at hx
    have hi6 : i < 6 := by omega
    walk_at "o"
    refine ⟨_, rfl, .inl ⟨rfl, _, sq_of hf3⟩, ?_⟩
    refine cons_ ?_
    refine digit_ rfl pot3 (ev_lenL (ev_var rfl) (sq_of hf3)) (by rw [List.length_map]; omega) (by rw [List.length_map]; omega) fun d H4 d0 d1 e4 pot4 => ?_
    rw [List.length_map] at d1
    obtain ⟨nd, rfl⟩ := Int.eq_ofNat_of_zero_le d0
    have hnd : nd < lf.length := by omega
    have hf4 := e4 _ _ pf hf3
    have hq4 := e4 _ _ pq hq3
    obtain ⟨j, sj, gj, hj, _⟩ := atI_get (atI_nat (xs := SV lf) (j := nd) (v := .str lf[nd]) (by rw [List.getElem?_map, List.getElem?_eq_getElem hnd]; rfl))
    obtain ⟨s, hs, es⟩ := sv_at gj
    have hsm := List.mem_of_getElem? hs
    refine ⟨f, _, _, j, _, rfl, rfl, hf4, by omega, by omega, sj, gj, ?_⟩
    rw [es]
    have fq : f ≠ q := Ne.symm qf
    have hq5 : (L2.upd H4 f (.lst ((SV lf).eraseIdx j))) q = some (.lst (SV xs)) := by rw [upd_ne qf]; exact hq4
    have hf5 : (L2.upd H4 f (.lst ((SV lf).eraseIdx j))) f = some (.lst (SV (lf.eraseIdx j))) := by
      rw [upd_same]
      rw [map_erase]
    have pot5 : Pot (L2.upd H4 f (.lst ((SV lf).eraseIdx j))) p := pot4.upd pf
    have e5 : ExP p H (L2.upd H4 f (.lst ((SV lf).eraseIdx j))) := ExP.udn (e3.trans e4) hf
    generalize (L2.upd H4 f (.lst ((SV lf).eraseIdx j))) = H5 at hq5 hf5 pot5 e5 ⊢
    refine ⟨_, rfl, .inl ⟨rfl, _, sq_of hq5⟩, ?_⟩
    refine cons_ (op_ ?_)
    refine ⟨_, rfl, ?_⟩
    refine ⟨⟨"", rfl⟩, ?_⟩
    refine lc_rng1 (cons_ (op_ ?_))
    refine el_lst (vs := [.int 0, .int 0, .int 2, .int 7]) (ea_cons ev_c (ea_cons ev_c (ea_cons ev_c (ea_cons ev_c ea_nil)))) (by show 4 ≤ _; decide) H5 (Evl.Ex.refl _) _ fun w H6 hw e6 h6 => ?_
    have wp := pot5.ne hw
    refine digit_ rfl (pot_mono e6 pot5) ev_c (by decide) (by decide) fun d7 H7 d70 d71 e7 pot7 => ?_
    obtain ⟨m, hm, m0, m7⟩ : ∃ m : Int, atI [V.int 0, V.int 0, V.int 2, V.int 7] d7 = some (.int m) ∧ 0 ≤ m ∧ m ≤ 7 := by
      obtain rfl | rfl | rfl | rfl : d7 = 0 ∨ d7 = 1 ∨ d7 = 2 ∨ d7 = 3 := by omega
      · exact ⟨0, rfl, by decide, by decide⟩
      · exact ⟨0, rfl, by decide, by decide⟩
      · exact ⟨2, rfl, by decide, by decide⟩
      · exact ⟨7, rfl, by decide, by decide⟩
    refine .inl ⟨w, _, d7, _, rfl, rfl, sq_of (e7 _ _ wp h6), hm, m, rfl, by omega, by omega, fun D hD => ?_⟩
    have e57 : ExP p H5 H7 := (ExP.of e6).trans e7
    refine lc_seq (seq_rng (lo := 0) (n := m.toNat)) (fun i H' => ExP p H7 H' ∧ Pot H' p ∧ ∃ l : List Str, H' D = some (.lst (SV l)) ∧ l.length = i ∧ ∀ z ∈ l, z ∈ singles) ⟨.of (Evl.Ex.new hD), pot_mono (Evl.Ex.new hD) pot7, [], upd_same, rfl, fun _ h => by cases h⟩ (fun _ _ _ _ => trivial) ?_ ?_
    · rintro i2 y H' hy ⟨e8, pot8, l, hl, ll, lz⟩
      obtain ⟨hi2, rfl⟩ := ints_at hy
      have dp := pot7.ne hD
      refine ⟨rfl, ?_⟩
      dsimp only [tYes]
      rw [if_pos rfl]
      refine op_ ?_
      refine ⟨_, rfl, ?_⟩
      refine digit_ rfl pot8 ev_c (by decide) (by decide) fun d H9 d0 d1 e9 pot9 => ?_
      obtain ⟨c, hc, hcs⟩ := singles_at d0 d1
      refine .inr (.inr ⟨letters, d, c, rfl, rfl, small_line (by decide +kernel), hc, SV l, e9 _ _ dp hl, small_lt (by rw [List.length_map]; omega), ExP.udn (e8.trans e9) hD, pot9.upd dp, l ++ [sgn c], by rw [upd_same, SV_app]; rfl, by simp [ll], ?_⟩)
      intro z hz
      rcases List.mem_append.mp hz with h | h
      · exact lz z h
      · rw [List.mem_singleton.mp h]; exact hcs
    · rintro H8 ⟨e8, pot8, l, hl, ll, lz⟩
      rw [ints_len] at ll
      have hsum : (l.map (·.length)).sum = l.length := by
        clear hl ll
        induction l with
        | nil => rfl
        | cons z l ih =>
          obtain ⟨c, _, rfl⟩ := List.mem_map.mp (lz z (by simp))
          rw [List.map_cons, List.sum_cons, ih fun y hy => lz y (by simp [hy]), List.length_cons]
          show 1 + _ = _
          omega
      have l0 : ("" : Str).length = 0 := rfl
      have hlen : (Txt.join "" l).length = l.length := by
        rw [TL.join_eq]
        by_cases hnil : l = []
        · rw [hnil]; rfl
        · have jn := join_len "" hnil
          rw [l0, hsum] at jn
          omega
      have hLL : isL (Txt.join "" l) = true := by
        rw [TL.join_eq]
        exact isL_join fun z hz => isName_L (single_name z (lz z hz))
      have hss := slf s hsm
      have hs1 := single_name s hss
      have hsl : s.length = 1 := by
        obtain ⟨c, _, rfl⟩ := List.mem_map.mp hss
        rfl
      have hname : isName (s ++ Txt.join "" l) = true := isName_iff (isL_app (isName_L hs1) hLL) (by rw [Str.length_append]; omega) (by rw [Str.length_append, hlen]; omega)
      have hfst : fstS (s ++ Txt.join "" l) = s := fstS_app hss
      have e58 := e57.trans e8
      have hq8 := e58 _ _ pq hq5
      have hf8 := e58 _ _ pf hf5
      refine ⟨"", D, l, rfl, rfl, .inl (sq_of hl), by rw [hsum, l0]; omega, ?_⟩
      refine .inr (.inl ⟨s, _, rfl, rfl, small_line (by omega), ?_⟩)
      refine ⟨q, _, _, rfl, rfl, hq8, small_lt (by rw [List.length_map]; omega), ?_⟩
      have hlf : lf[j]? = some s := hs
      have hjl : j < lf.length := (List.getElem?_eq_some_iff.mp hlf).1
      have sub : ∀ u ∈ lf.eraseIdx j, u ∈ lf := fun u hu => List.mem_of_mem_eraseIdx hu
      have sno : s ∉ lf.eraseIdx j := nodup_erase nlf hlf
      refine ⟨_, _, _, rfl, ExP.udn (e5.trans e58) hq0, pot8.upd pq, lf.eraseIdx j, xs ++ [s ++ Txt.join "" l], by rw [upd_ne fq]; exact hf8, by rw [upd_same, SV_app]; rfl, ?_, nlf.eraseIdx j, fun u hu => slf u (sub u hu), by simp [lxs], ?_, ?_, ?_⟩
      · rw [List.length_eraseIdx_of_lt hjl]; omega
      · intro u hu
        rcases List.mem_append.mp hu with h | h
        · exact nxs u h
        · rw [List.mem_singleton.mp h]; exact hname
      · refine List.nodup_append.mpr ⟨ndx, by simp, fun u hu w hw => ?_⟩
        rw [List.mem_singleton] at hw
        rintro rfl
        have := fxs u hu
        rw [hw, hfst] at this
        exact this hsm
      · intro u hu
        rcases List.mem_append.mp hu with h | h
        · exact fun hm => fxs u h (sub _ hm)
        · rw [List.mem_singleton.mp h, hfst]; exact sno
  · rintro σ' H3 ⟨v5, v6, v7, rfl, e3, pot3, lf, xs, hf3, hq3, llf, nlf, slf, lxs, nxs, ndx, fxs⟩
    rw [ints_len] at lxs
    exact ⟨_, rfl, k q xs H3 lxs nxs ndx e3 pot3 hq0 hq3⟩
end
end W81
namespace W81
open PySem PySem.Spec PyProof.Rows L2 LiI WB
open Evl hiding Ex
local macro_rules | `(tactic| walk_at "o") => `(tactic| dsimp only [tSeq, tIfS, tNext, tRet, tRetN, tDrop, tAsg, gName, tNever])
section
variable {K : Fr} {mg : Str → Option Value} {vs : List V} {H : Hp} {Q : VK} {E : XK} {σ : L2.St} {tl te : TE}
theorem lc_list_ {g : TG} {tt : TT} {ws : List Nat} (h : tl σ H fun v H1 => ∃ a, v = .ref a ∧ (∃ xs, SqL K H1 a xs) ∧ ∀ D, H1 D = none → ∃ W : Nat → Nat → Hp → Prop, (∃ m, W 0 m (upd H1 D (.lst []))) ∧ ∀ i m H, W i m H →
      ((Itl K a).stop i H ∧ Q (.ref D) H) ∨ ((Itl K a).go i H ∧ ∃ Nx : Hp → Prop, (∀ H', Nx H' → ∃ m', m' < m ∧ W (i + 1) m' H') ∧ ∀ x H', (Itl K a).yld i H x H' → g x (wipe σ ws) H' fun σ2 H2 => wipe σ2 ws = wipe σ ws ∧ tt σ2 H2 fun b H3 =>
        if b = true then te σ2 H3 fun y H4 => ∃ acc, H4 D = some (.lst acc) ∧ acc.length < sizeLine ∧ Nx (upd H4 D (.lst (acc ++ [y]))) else Nx H3)) : tLc (iList K tl) g tt te ws σ H Q := h
theorem pure_l_grounds (T : Tx K mg) (h : sp_l_grounds K vs H Q E) : t_l_grounds K { nx := fun _ H' => Q .non H', rt := Q } (start N_l_grounds vs) H := by
  obtain ⟨p, rfl, pot, k⟩ := h
  unfold t_l_grounds; walk_at "o"
  refine cons_ (opc_ ?_)
  refine digit_ rfl pot ev_c (by decide) (by decide) fun d H1 d0 d1 e1 pot1 => .inl ⟨2, d, rfl, rfl, ?_⟩
  refine cons_ (opc_ ?_)
  refine digit_ rfl pot1 ev_c (by decide) (by decide) fun d2 H2 d20 d21 e2 pot2 => .inl ⟨1, d2, rfl, rfl, ?_⟩
  refine ⟨by show 2 ≤ _; rw [sizeLine_eq]; decide, fun t ht => ⟨t, _, rfl, st_of upd_same, rfl, _, _, rfl, _, _, rfl, rfl, ?_⟩⟩
  walk_at "o"
  have pot3 : Pot (L2.upd H2 t (.tup [.int (2 + d), .int (1 + d2)])) p := pot_mono (Evl.Ex.new ht) pot2
  have e3 : ExP p H (L2.upd H2 t (.tup [.int (2 + d), .int (1 + d2)])) := (e1.trans e2).tx (Evl.Ex.new ht)
  generalize (L2.upd H2 t (.tup [.int (2 + d), .int (1 + d2)])) = H3 at pot3 e3 ⊢
  refine ⟨_, rfl, ?_⟩
  refine cons_ (op_ ?_)
  refine ⟨_, rfl, _, rfl, .inl ⟨2 + d, 1 + d2, rfl, rfl, p, _, rfl, pot3, by omega, by omega, fun q xs H4 lx nx nd e4 pot4 hq h4 => ?_⟩⟩
  obtain ⟨nh, hnh⟩ : ∃ nh : Nat, (2 + d) = (nh : Int) := ⟨(2 + d).toNat, by omega⟩
  have nhb : 2 ≤ nh ∧ nh ≤ 3 := by omega
  have lx2 : xs.length = nh + (1 + d2).toNat := by rw [lx]; omega
  have lw : 1 ≤ (1 + d2).toNat ∧ (1 + d2).toNat ≤ 3 := by omega
  rw [hnh]
  have qp := pot3.ne hq
  have lS : (SV xs).length = xs.length := List.length_map _
  refine lc_list_ ?_
  refine el_sliceFrom (j := nh) (ev_var rfl) (ev_var rfl) (sq_of h4) H4 (Evl.Ex.refl _) _ fun s H5 hs e5 h5 => ?_
  have sp := pot4.ne hs
  have pot5 := pot_mono e5 pot4
  have h5q := e5 _ _ h4
  refine ⟨s, rfl, ⟨_, sq_of h5⟩, fun D hD => ?_⟩
  have eS : (SV xs).drop nh = SV (xs.drop nh) := by unfold SV; rw [List.map_drop]
  rw [eS] at h5
  refine lc_seq (seq_list (K := K) (a := s) (xs := SV (xs.drop nh))) (fun i H' => ExP p H5 H' ∧ Pot H' p ∧ ∃ (ps : List Addr) (rs : List (List Str)), H' D = some (.lst (ps.map V.ref)) ∧ Paired (fun q r => H' q = some (.tup (SV r))) ps rs ∧ rs.map (·.headD "") = (xs.drop nh).take i ∧ ∀ r ∈ rs, ∃ n h, r = [n, h] ∧ n ∈ xs ∧ h ∈ xs.take nh)
    ⟨.of (Evl.Ex.new hD), pot_mono (Evl.Ex.new hD) pot5, [], [], upd_same, .nil, rfl, fun _ h => by cases h⟩ (fun i H' _ h => sq_of (h.1 _ _ sp h5)) ?_ ?_
  · rintro i x H' hx ⟨e6, pot6, ps, rs, hps, hp, hrs, hr⟩
    obtain ⟨z, hzi, rfl⟩ := sv_at hx
    have hi : i < (xs.drop nh).length := (List.getElem?_eq_some_iff.mp hzi).1
    rw [List.length_drop] at hi
    have dp := pot5.ne hD
    refine ⟨rfl, ?_⟩
    dsimp only [tYes]
    rw [if_pos rfl]
    refine ⟨_, rfl, ?_⟩
    refine cons_ (op_ ?_)
    refine ⟨_, rfl, ?_⟩
    have h6q := e6 _ _ qp h5q
    refine digit_ rfl pot6 (ev_var rfl) (by omega) (by omega) fun d3 H7 d30 d31 e7 pot7 => ?_
    obtain ⟨n3, rfl⟩ := Int.eq_ofNat_of_zero_le d30
    have hn3 : n3 < nh := by omega
    have hn3x : n3 < xs.length := by omega
    refine .inl ⟨q, _, n3, .str xs[n3], rfl, rfl, sq_of (e7 _ _ qp h6q), atI_nat (by rw [List.getElem?_map, List.getElem?_eq_getElem hn3x]; rfl), by show 2 ≤ _; rw [sizeLine_eq]; decide, fun t ht => ?_⟩
    have hps7 := e7 _ _ dp hps
    have tD := ne_of_none hps7 ht
    refine ⟨ps.map V.ref, by rw [upd_ne tD]; exact hps7, small_lt (by
      have h9 := congrArg List.length hrs
      rw [List.length_map, List.length_take, List.length_drop, ← hp.length] at h9
      rw [List.length_map]; omega), ?_, ?_, ps ++ [t], rs ++ [[z, xs[n3]]], ?_, ?_, ?_, ?_⟩
    · exact ExP.udn ((e6.trans e7).tx (Evl.Ex.new ht)) hD
    · exact (pot_mono (Evl.Ex.new ht) pot7).upd dp
    · rw [upd_same, List.map_append]; rfl
    · have step : ∀ (q : Addr) (r : List Str), H' q = some (.tup (SV r)) → (L2.upd (L2.upd H7 t (.tup (SV [z, xs[n3]]))) D (.lst (ps.map V.ref ++ [V.ref t]))) q = some (.tup (SV r)) := fun q r hq => by
        have qp : q ≠ p := by
          obtain ⟨_, _, hpp, _⟩ := pot6
          exact ne_of hq hpp (by intro z; cases z)
        have q7 := e7 _ _ qp hq
        rw [upd_ne (ne_of hq hps (by intro z; cases z)), upd_ne (ne_of_none q7 ht)]
        exact q7
      refine Paired.snoc (L2.Paired.mapP hp fun q r hq => step q r hq) ?_
      show (L2.upd (L2.upd H7 t _) D _) t = _
      rw [upd_ne (Ne.symm tD), upd_same]
      rfl
    · rw [List.map_append, hrs, take_succ_of hzi]
      rfl
    · intro r hr'
      rcases List.mem_append.mp hr' with h | h
      · exact hr r h
      · rw [List.mem_singleton.mp h]
        exact ⟨_, _, rfl, List.mem_of_mem_drop (List.mem_of_getElem? hzi), List.mem_iff_getElem.mpr ⟨n3, by rw [List.length_take]; omega, List.getElem_take⟩⟩
  · rintro H6 ⟨e6, pot6, ps, rs, hps, hp, hrs, hr⟩
    rw [List.length_map, List.take_length] at hrs
    have lrs : rs.length = (1 + d2).toNat := by
      have := congrArg List.length hrs
      rw [List.length_map, List.length_drop] at this
      omega
    have ok : okMap (xs.take nh) rs = true := by
      refine okMap_mk (fun z hz => nx z (List.mem_of_mem_take hz)) (by rw [List.length_take]; omega) (by rw [List.length_take]; omega) (fun r hr' => ?_) (by rw [hrs, List.take_append_drop]; exact nd) (by omega) (by omega)
      obtain ⟨n, h, e, a1, a2⟩ := hr r hr'
      exact ⟨n, h, e, nx n a1, a2⟩
    have h6q := e6 _ _ qp h5q
    refine cons_ ?_
    refine el_sliceTo (j := nh) (ev_var rfl) (ev_var rfl) (sq_of h6q) H6 (Evl.Ex.refl _) _ fun l H7 hl e7 h7 => ?_
    have eT : (SV xs).take nh = SV (xs.take nh) := by unfold SV; rw [List.map_take]
    rw [eT] at h7
    obtain ⟨sh, sr⟩ := small_ok ok
    refine cons_ ?_
    refine ⟨_, rfl, ?_⟩
    intro x dx hx hdx nx'
    have e8 : Ex H7 (upd (upd H7 dx (.own x)) x (.ins (He.ga K "Map") dx [])) := (Evl.Ex.new hdx).trans (Evl.Ex.new (by rw [upd_ne (Ne.symm nx')]; exact hx))
    have eall : ExP p H H7 := (((e3.trans e4).tx e5).trans e6).tx e7
    have pot7 := pot_mono e7 pot6
    have hx0 : H x = none := by
      cases hh : H x with
      | none => rfl
      | some o =>
        exfalso
        by_cases hxp : x = p
        · obtain ⟨_, _, hpp, _⟩ := pot7
          rw [hxp, hpp] at hx
          cases hx
        · rw [eall _ _ hxp hh] at hx
          cases hx
    refine ⟨x, dx, l, xs.take nh, D, rs, rfl, upd_same, e8 _ _ h7, RowsAt.mono (e7.trans e8) ⟨ps, hps, hp⟩, sh, sr, fun _ H9 mm e9 => ⟨rfl, ?_⟩, fun bad => by rw [ok] at bad; cases bad⟩
    have e79 : Ex H7 H9 := (ExP.trans (ExP.of e8) e9).ex hx
    exact k x (xs.take nh) rs H9 ok mm hx0 (eall.tx e79) (pot_mono e79 pot7)
end
end W81
namespace W81
open PySem PySem.Spec PyProof.Rows L2 LiI WB
open Evl hiding Ex
local macro_rules | `(tactic| walk_at "o") => `(tactic| dsimp only [tSeq, tIfS, tNext, tRet, tRetN, tDrop, tAsg, gName, tNever])
def GdA (w k : Nat) (ds : List PyData) : Prop := PyData.leavesShortAll 13 ds = true ∧ PyData.showableAll ds = true ∧ PyData.weightAll ds ≤ w ∧ PyData.depthAll ds ≤ k
theorem Gd.mono {w k w' k' : Nat} {d : PyData} (h : Gd w k d) (h1 : w ≤ w') (h2 : k ≤ k') : Gd w' k' d := by
  obtain ⟨a, b, c, e⟩ := h
  exact ⟨a, b, by omega, by omega⟩
theorem GdA.mono {w k w' k' : Nat} {d : List PyData} (h : GdA w k d) (h1 : w ≤ w') (h2 : k ≤ k') : GdA w' k' d := by
  obtain ⟨a, b, c, e⟩ := h
  exact ⟨a, b, by omega, by omega⟩
theorem gd_list {w k : Nat} {ds : List PyData} : Gd w (k + 1) (.list ds) ↔ GdA w k ds := by
  unfold Gd GdA
  simp only [PyData.leavesShort, PyData.showable, PyData.weight, PyData.depth]
  constructor <;> rintro ⟨a, b, c, d⟩ <;> exact ⟨a, b, c, by omega⟩
theorem gd_tup {w k : Nat} {ds : List PyData} : Gd w (k + 1) (.tuple ds) ↔ GdA w k ds := by
  unfold Gd GdA
  simp only [PyData.leavesShort, PyData.showable, PyData.weight, PyData.depth]
  constructor <;> rintro ⟨a, b, c, d⟩ <;> exact ⟨a, b, c, by omega⟩
theorem ga_nil {w k : Nat} : GdA w k [] := ⟨rfl, rfl, Nat.zero_le _, Nat.zero_le _⟩
theorem ga_cons {w1 w k : Nat} {d : PyData} {ds : List PyData} (h : Gd w1 k d) (t : GdA w k ds) : GdA (w1 + 1 + w) k (d :: ds) := by
  obtain ⟨a, b, c, e⟩ := h
  obtain ⟨a', b', c', e'⟩ := t
  unfold GdA
  simp only [PyData.leavesShortAll, PyData.showableAll, PyData.weightAll, PyData.depthAll]
  exact ⟨by rw [a, a']; rfl, by rw [b, b']; rfl, by omega, by omega⟩
theorem ga_uncons {w k : Nat} {d : PyData} {ds : List PyData} (h : GdA w k (d :: ds)) : Gd w k d ∧ GdA w k ds ∧ d.weight + 1 + PyData.weightAll ds ≤ w := by
  unfold GdA at h
  simp only [PyData.leavesShortAll, PyData.showableAll, PyData.weightAll, PyData.depthAll, Bool.and_eq_true] at h
  obtain ⟨⟨a, a'⟩, ⟨b, b'⟩, c, e⟩ := h
  exact ⟨⟨a, b, by omega, by omega⟩, ⟨a', b', by omega, by omega⟩, c⟩
theorem ga_app {w1 w2 k : Nat} : ∀ {a b : List PyData}, GdA w1 k a → GdA w2 k b → GdA (w1 + w2) k (a ++ b)
  | [], b, _, h => h.mono (by omega) (Nat.le_refl _)
  | x :: a, b, h, h2 => by
    obtain ⟨g, t, hw⟩ := ga_uncons h
    have t' : GdA (PyData.weightAll a) k a := ⟨t.1, t.2.1, Nat.le_refl _, t.2.2.2⟩
    have ih := ga_app t' h2
    have g' : Gd x.weight k x := ⟨g.1, g.2.1, Nat.le_refl _, g.2.2.2⟩
    exact (ga_cons g' ih).mono (by omega) (Nat.le_refl _)
theorem ga_split {w k : Nat} : ∀ {a b : List PyData}, GdA w k (a ++ b) → ∃ w1 w2, GdA w1 k a ∧ GdA w2 k b ∧ w1 + w2 ≤ w
  | [], b, h => ⟨0, w, ga_nil, h, by omega⟩
  | x :: a, b, h => by
    obtain ⟨g, t, hw⟩ := ga_uncons h
    have t' : GdA (PyData.weightAll (a ++ b)) k (a ++ b) := ⟨t.1, t.2.1, Nat.le_refl _, t.2.2.2⟩
    obtain ⟨w1, w2, h1, h2, h3⟩ := ga_split t'
    have g' : Gd x.weight k x := ⟨g.1, g.2.1, Nat.le_refl _, g.2.2.2⟩
    have hw : x.weight + 1 + PyData.weightAll (a ++ b) ≤ w := hw
    exact ⟨_, _, ga_cons g' h1, h2, by omega⟩
theorem ga_mem {w k : Nat} {d : PyData} : ∀ {ds : List PyData}, GdA w k ds → d ∈ ds → Gd w k d
  | x :: ds, h, hm => by
    obtain ⟨g, t, _⟩ := ga_uncons h
    rcases List.mem_cons.mp hm with e | hm
    · rw [e]; exact g
    · exact ga_mem t hm
def okS (z : Str) : Prop := ∀ c ∈ z.cps.toList, c < 16 ^ 8
theorem gd_str {z : Str} {k : Nat} (h : okS z) : Gd z.length k (.str z) := by
  unfold Gd
  simp only [PyData.leavesShort, PyData.showable, PyData.weight, PyData.depth]
  exact ⟨List.all_eq_true.mpr fun c hc => decide_eq_true (h c hc), trivial, Nat.le_refl _, Nat.zero_le _⟩
theorem ok_name {z : Str} (h : isName z = true) : okS z := by
  have := isName_ok h
  unfold PyData.strOk at this
  rw [← Array.all_toList, List.all_eq_true] at this
  intro c hc
  have := of_decide_eq_true (this c hc)
  omega
theorem gd_name {z : Str} {k : Nat} (h : isName z = true) : Gd 8 k (.str z) := (gd_str (ok_name h)).mono (isName_len h) (Nat.le_refl _)
theorem gd_non {k : Nat} : Gd 0 k .none := by
  unfold Gd
  simp only [PyData.leavesShort, PyData.showable, PyData.weight, PyData.depth]
  exact ⟨trivial, trivial, Nat.le_refl _, Nat.zero_le _⟩
theorem gd_bool {k : Nat} {b : Bool} : Gd 0 k (.bool b) := by
  unfold Gd
  simp only [PyData.leavesShort, PyData.showable, PyData.weight, PyData.depth]
  exact ⟨trivial, trivial, Nat.le_refl _, Nat.zero_le _⟩
theorem gd_7 {k : Nat} : Gd 3 k (.int 7) := ⟨by decide +kernel, by decide +kernel, by decide +kernel, by show PyData.depth (.int 7) ≤ k; rw [PyData.depth]; exact Nat.zero_le _⟩
theorem gd_0 {k : Nat} : Gd 0 k (.int 0) := ⟨by decide +kernel, by decide +kernel, by decide +kernel, by show PyData.depth (.int 0) ≤ k; rw [PyData.depth]; exact Nat.zero_le _⟩
theorem gd_dict {k : Nat} : Gd 0 (k + 1) (.dict []) := by
  unfold Gd
  simp only [PyData.leavesShort, PyData.leavesShortKv, PyData.showable, PyData.showableKv, PyData.weight, PyData.weightKv, PyData.depth, PyData.depthKv]
  exact ⟨trivial, trivial, Nat.le_refl _, by omega⟩
theorem gd_c {z : Str} {k w : Nat} (h : (z.cps.toList.all fun c => decide (c < 16 ^ 8)) = true) (hw : z.length ≤ w) : Gd w k (.str z) :=
  (gd_str fun c hc => of_decide_eq_true (List.all_eq_true.mp h c hc)).mono hw (Nat.le_refl _)
section
variable {K : Fr} {mg : Str → Option Value} {vs : List V} {H : Hp} {Q : VK} {E : XK} {σ : L2.St} {tl te ta tb : TE} {p : Addr}
theorem delE {H H' : Hp} (e : Ex H H') : Ex (del H p) (del H' p) := fun a o h => by
  by_cases hp : a = p
  · rw [hp, del_same] at h; cases h
  · rw [del_ne hp] at h ⊢
    exact e _ _ h
theorem delP {H H' : Hp} (e : ExP p H H') : Ex (del H p) (del H' p) := fun a o h => by
  by_cases hp : a = p
  · rw [hp, del_same] at h; cases h
  · rw [del_ne hp] at h ⊢
    exact e _ _ hp h
theorem delS : Ex (del H p) H := fun a o h => by
  by_cases hp : a = p
  · rw [hp, del_same] at h; cases h
  · rw [del_ne hp] at h
    exact h
theorem del_new {q : Addr} {o : HO} (n : q ≠ p) : (del (upd H q o) p) q = some o := by rw [del_ne n, upd_same]
def EvP (K : Fr) (p : Addr) (te : TE) (σ : L2.St) (H : Hp) (d : PyData) : Prop := ∀ H1, Ex H H1 → ∀ Q : VK, (∀ v H2, Ex H1 H2 → Dq K (del H2 p) v d → Q v H2) → te σ H1 Q
def EvPA (K : Fr) (p : Addr) (ta : TA) (σ : L2.St) (H : Hp) (ds : List PyData) : Prop := ∀ H1, Ex H H1 → ∀ Q : List V → Hp → Prop, (∀ vs H2, Ex H1 H2 → DqAll K (del H2 p) vs ds → Q vs H2) → ta σ H1 Q
theorem ep_of {v : V} {d : PyData} (h : Ev te σ H v) (q : Dq K (del H p) v d) : EvP K p te σ H d := fun H1 e Q k => h H1 e Q fun H2 e2 => k v H2 e2 (q.mono (delE (e.trans e2)))
theorem ep_c_str {z : Str} : EvP K p (tC (.str z)) σ H (.str z) := ep_of ev_c (.str z)
theorem ep_c_int {z : Int} : EvP K p (tC (.int z)) σ H (.int z) := ep_of ev_c (.int z)
theorem ep_c_non : EvP K p (tC .non) σ H .none := ep_of ev_c .non
theorem ep_c_bl {b : Bool} : EvP K p (tC (.bl b)) σ H (.bool b) := ep_of ev_c (.bl b)
theorem ep_var {i : Nat} {v : V} {d : PyData} (h : σ[i]? = some (some v)) (q : Dq K (del H p) v d) : EvP K p (tVar i) σ H d := ep_of (ev_var h) q
theorem ep_vs {i : Nat} {z : Str} (h : σ[i]? = some (some (.str z))) : EvP K p (tVar i) σ H (.str z) := ep_of (ev_var h) (.str z)
theorem epa_nil : EvPA K p tNil σ H [] := fun H1 e Q k => k [] H1 (Evl.Ex.refl _) .nil
theorem epa_cons {t : TA} {d : PyData} {ds : List PyData} (h : EvP K p te σ H d) (r : EvPA K p t σ H ds) : EvPA K p (tCons te t) σ H (d :: ds) := fun H1 e Q k =>
  h H1 e _ fun v H2 e2 q => r H2 (e.trans e2) _ fun vs H3 e3 qs => k (v :: vs) H3 (e2.trans e3) (.cons (q.mono (delE e3)) qs)
theorem ep_tup {t : TA} {ds : List PyData} (po : Pot H p) (h : EvPA K p t σ H ds) (hl : ds.length ≤ 100000) : EvP K p (tTup t) σ H (.tuple ds) := fun H1 e Q k =>
  h H1 e _ fun vs H2 e2 q => ⟨small_line (by rw [qa_len q]; omega), fun r hr => k (.ref r) _ (e2.trans (Evl.Ex.new hr)) (.tup (del_new ((pot_mono (e.trans e2) po).ne hr)) (q.mono (delE (Evl.Ex.new hr))))⟩
theorem ep_lst {t : TA} {ds : List PyData} (po : Pot H p) (h : EvPA K p t σ H ds) (hl : ds.length ≤ 100000) : EvP K p (tLst t) σ H (.list ds) := fun H1 e Q k =>
  h H1 e _ fun vs H2 e2 q => ⟨small_line (by rw [qa_len q]; omega), fun r hr => k (.ref r) _ (e2.trans (Evl.Ex.new hr)) (.lst (del_new ((pot_mono (e.trans e2) po).ne hr)) (q.mono (delE (Evl.Ex.new hr))))⟩
theorem ep_dnew (po : Pot H p) : EvP K p tDNewK σ H (.dict []) := fun H1 e Q k => fun r hr => k (.ref r) _ (Evl.Ex.new hr) (.dic (del_new ((pot_mono e po).ne hr)))
theorem del_some {a : Addr} {o : HO} (h : (del H p) a = some o) : a ≠ p ∧ H a = some o := by
  by_cases hp : a = p
  · rw [hp, del_same] at h; cases h
  · rw [del_ne hp] at h
    exact ⟨hp, h⟩
theorem qa_app {xs ys : List V} {a b : List PyData} : DqAll K H xs a → DqAll K H ys b → DqAll K H (xs ++ ys) (a ++ b) := by
  intro h1 h2
  induction xs generalizing a with
  | nil => cases h1; exact h2
  | cons x xs ih =>
    cases h1 with
    | cons h t => exact .cons h (ih t)
theorem qa_take {xs : List V} {a : List PyData} : ∀ {n : Nat}, DqAll K H xs a → DqAll K H (xs.take n) (a.take n) := by
  induction xs generalizing a with
  | nil => intro n h; cases h; simp; exact .nil
  | cons x xs ih =>
    intro n h
    cases h with
    | cons h t =>
      cases n with
      | zero => exact .nil
      | succ n => exact .cons h (ih t)
theorem qa_drop {xs : List V} {a : List PyData} : ∀ {n : Nat}, DqAll K H xs a → DqAll K H (xs.drop n) (a.drop n) := by
  induction xs generalizing a with
  | nil => intro n h; cases h; simp; exact .nil
  | cons x xs ih =>
    intro n h
    cases h with
    | cons h t =>
      cases n with
      | zero => exact .cons h t
      | succ n => exact ih t
theorem ep_cat {a b : List PyData} (po : Pot H p) (h1 : EvP K p ta σ H (.list a)) (h2 : EvP K p tb σ H (.list b)) (hl : a.length + b.length ≤ 100000) : EvP K p (tOp (rAddA K) ta tb) σ H (.list (a ++ b)) := fun H1 e Q k =>
  h1 H1 e _ fun v H2 e2 q1 => h2 H2 (e.trans e2) _ fun w H3 e3 q2 => by
    cases q1 with
    | lst ha qa =>
      cases q2 with
      | lst hb qb =>
        have ha3 := (delE (p := p) e3) _ _ ha
        exact .inr (.inr (.inl ⟨_, _, _, _, rfl, rfl, (del_some ha3).2, (del_some hb).2, small_line (by rw [qa_len qa, qa_len qb]; omega), fun r hr => k (.ref r) _ ((e2.trans e3).trans (Evl.Ex.new hr)) (.lst (del_new ((pot_mono ((e.trans e2).trans e3) po).ne hr)) (qa_app ((qa.mono (delE e3)).mono (delE (Evl.Ex.new hr))) (qb.mono (delE (Evl.Ex.new hr)))))⟩))
theorem ep_sliceTo {th : TE} {ds : List PyData} {j : Nat} (po : Pot H p) (h : EvP K p tl σ H (.list ds)) (hj : Ev th σ H (.int (j : Int))) : EvP K p (tSl (rSlA K) tl tNoPart (tPart th)) σ H (.list (ds.take j)) := fun H1 e Q k =>
  h H1 e _ fun v H2 e2 q => by
    cases q with
    | lst ha qa =>
      have := el_sliceTo (K := K) (σ := σ) (tl := tC (.ref _)) (th := th) (j := j) (H := H2) ev_c (hj.mono (e.trans e2)) (sq_of (del_some ha).2)
      exact this H2 (Evl.Ex.refl _) _ fun r H3 hr e3 h3 => k (.ref r) H3 (e2.trans e3) (.lst (by rw [del_ne ((pot_mono (e.trans e2) po).ne hr)]; exact h3) (qa_take (qa.mono (delE e3))))
theorem ep_sliceFrom {th : TE} {ds : List PyData} {j : Nat} (po : Pot H p) (h : EvP K p tl σ H (.list ds)) (hj : Ev th σ H (.int (j : Int))) : EvP K p (tSl (rSlA K) tl (tPart th) tNoPart) σ H (.list (ds.drop j)) := fun H1 e Q k =>
  h H1 e _ fun v H2 e2 q => by
    cases q with
    | lst ha qa =>
      have := el_sliceFrom (K := K) (σ := σ) (tl := tC (.ref _)) (th := th) (j := j) (H := H2) ev_c (hj.mono (e.trans e2)) (sq_of (del_some ha).2)
      exact this H2 (Evl.Ex.refl _) _ fun r H3 hr e3 h3 => k (.ref r) H3 (e2.trans e3) (.lst (by rw [del_ne ((pot_mono (e.trans e2) po).ne hr)]; exact h3) (qa_drop (qa.mono (delE e3))))
theorem ix_q {a : Addr} {xs : List V} {ds : List PyData} {n : Nat} {Q : VK} (ha : H a = some (.lst xs)) (qa : DqAll K (del H p) xs ds) (hn : n < ds.length) (k : ∀ v, Dq K (del H p) v (ds[n]) → Q v H) : rIx K (.ref a) (.int (n : Int)) H Q := by
  have hx : n < xs.length := by rw [qa_len qa]; exact hn
  obtain ⟨d, hd, qd⟩ := qa_at qa (i := n) (v := xs[n]) (List.getElem?_eq_getElem hx)
  rw [List.getElem?_eq_getElem hn] at hd
  obtain rfl := Option.some.inj hd
  exact .inl ⟨a, xs, n, xs[n], rfl, rfl, sq_of ha, atI_nat (List.getElem?_eq_getElem hx), k _ qd⟩
end
end W81
namespace W81
open PySem PySem.Spec PyProof.Rows L2 LiI WB
open Evl hiding Ex
local macro_rules | `(tactic| walk_at "o") => `(tactic| dsimp only [tSeq, tIfS, tNext, tRet, tRetN, tDrop, tAsg, gName, tNever])
def badL (n h : Str) : List PyData :=
  (([.tuple [.str "write", .str h, .str "a"], .tuple [.str "write", .str n, .str "A"], .tuple [.str "write", .str n, .str ""], .tuple [.str "write", .str n, .str "a1b2c3d4e5f6g"], .none] ++
   [.tuple [.str "write", .str n], .tuple [.str "write", .str n, .str "a", .str "b"], .list [.str "write", .str n, .str "a"], .tuple [.str "walk", .str n], .tuple [.str "walk"], .tuple []]) ++
   [.tuple [.str "walk", .str h, .str h], .tuple [.str "walk", .list [.str h]], .tuple [.str "hand", .str h, .str h], .tuple [.str "write", .none, .str "a"], .int 7, .str "walk"]) ++
   [.tuple [.str "write", .str n, .int 7], .tuple [.str "walk", .none], .tuple [.str "Walk", .str h], .tuple [.list [.str "walk"], .str h], .tuple [.str "write", .dict [], .str "a"], .dict []]
theorem gd_w {k : Nat} {z : Str} (hz : z = "write" ∨ z = "walk" ∨ z = "hand" ∨ z = "Walk" ∨ z = "a" ∨ z = "b" ∨ z = "A" ∨ z = "" ∨ z = "a1b2c3d4e5f6g") : Gd 13 k (.str z) := by
  rcases hz with rfl | rfl | rfl | rfl | rfl | rfl | rfl | rfl | rfl <;> exact gd_c (by decide +kernel) (by decide +kernel)
theorem gt {k : Nat} {ds : List PyData} (h : ∀ d ∈ ds, Gd 13 k d) (hl : ds.length ≤ 4) : Gd 60 (k + 1) (.tuple ds) := by
  refine gd_tup.mpr ?_
  match ds, hl with
  | [], _ => exact ga_nil
  | [a], _ => exact (ga_cons (h a (by simp)) (ga_nil (w := 0))).mono (by omega) (Nat.le_refl _)
  | [a, b], _ => exact (ga_cons (h a (by simp)) (ga_cons (h b (by simp)) (ga_nil (w := 0)))).mono (by omega) (Nat.le_refl _)
  | [a, b, c], _ => exact (ga_cons (h a (by simp)) (ga_cons (h b (by simp)) (ga_cons (h c (by simp)) (ga_nil (w := 0))))).mono (by omega) (Nat.le_refl _)
  | [a, b, c, d], _ => exact (ga_cons (h a (by simp)) (ga_cons (h b (by simp)) (ga_cons (h c (by simp)) (ga_cons (h d (by simp)) (ga_nil (w := 0)))))).mono (by omega) (Nat.le_refl _)
theorem g1 {a : PyData} (h1 : Gd 14 2 a) : Gd 200 3 (.tuple [a]) := gd_tup.mpr ((ga_cons h1 (ga_nil (w := 0))).mono (by omega) (Nat.le_refl _))
theorem g2 {a b : PyData} (h1 : Gd 14 2 a) (h2 : Gd 14 2 b) : Gd 200 3 (.tuple [a, b]) := gd_tup.mpr ((ga_cons h1 (ga_cons h2 (ga_nil (w := 0)))).mono (by omega) (Nat.le_refl _))
theorem g3 {a b c : PyData} (h1 : Gd 14 2 a) (h2 : Gd 14 2 b) (h3 : Gd 14 2 c) : Gd 200 3 (.tuple [a, b, c]) := gd_tup.mpr ((ga_cons h1 (ga_cons h2 (ga_cons h3 (ga_nil (w := 0))))).mono (by omega) (Nat.le_refl _))
theorem g4 {a b c d : PyData} (h1 : Gd 14 2 a) (h2 : Gd 14 2 b) (h3 : Gd 14 2 c) (h4 : Gd 14 2 d) : Gd 200 3 (.tuple [a, b, c, d]) := gd_tup.mpr ((ga_cons h1 (ga_cons h2 (ga_cons h3 (ga_cons h4 (ga_nil (w := 0)))))).mono (by omega) (Nat.le_refl _))
theorem gk {k : Nat} {z : Str} (h1 : (z.cps.toList.all fun c => decide (c < 16 ^ 8)) = true := by decide +kernel) (h2 : z.length ≤ 14 := by decide +kernel) : Gd 14 k (.str z) := gd_c h1 h2
theorem badL_ok {n h : Str} (hn : isName n = true) (hh : isName h = true) : ∀ d ∈ badL n h, Gd 200 3 d := by
  have N : Gd 14 2 (.str n) := (gd_name hn).mono (by omega) (Nat.le_refl _)
  have Hh : Gd 14 2 (.str h) := (gd_name hh).mono (by omega) (Nat.le_refl _)
  have H1 : Gd 13 1 (.str h) := (gd_name hh).mono (by omega) (Nat.le_refl _)
  have O : Gd 14 2 PyData.none := gd_non.mono (by omega) (Nat.le_refl _)
  have S : Gd 14 2 (.int 7) := gd_7.mono (by omega) (Nat.le_refl _)
  have D : Gd 14 2 (.dict []) := (gd_dict (k := 1)).mono (by omega) (Nat.le_refl _)
  have L1 : Gd 14 2 (.list [.str h]) := gd_list.mpr ((ga_cons H1 (ga_nil (w := 0))).mono (by omega) (Nat.le_refl _))
  have L2 : Gd 14 2 (.list [.str "walk"]) := gd_list.mpr ((ga_cons (gd_c (w := 13) (k := 1) (by decide +kernel) (by decide +kernel)) (ga_nil (w := 0))).mono (by omega) (Nat.le_refl _))
  have up : ∀ {d : PyData}, Gd 14 2 d → Gd 200 3 d := fun g => g.mono (by omega) (by omega)
  intro d hd
  unfold badL at hd
  simp only [List.cons_append, List.nil_append, List.mem_cons, List.not_mem_nil, or_false] at hd
  rcases hd with rfl | rfl | rfl | rfl | rfl | rfl | rfl | rfl | rfl | rfl | rfl | rfl | rfl | rfl | rfl | rfl | rfl | rfl | rfl | rfl | rfl | rfl | rfl
  · exact g3 gk Hh gk
  · exact g3 gk N gk
  · exact g3 gk N gk
  · exact g3 gk N gk
  · exact up O
  · exact g2 gk N
  · exact g4 gk N gk gk
  · exact gd_list.mpr ((ga_cons (gk (z := "write")) (ga_cons N (ga_cons (gk (z := "a")) (ga_nil (w := 0))))).mono (by omega) (Nat.le_refl _))
  · exact g2 gk N
  · exact g1 gk
  · exact gd_tup.mpr ga_nil
  · exact g3 gk Hh Hh
  · exact g2 gk L1
  · exact g3 gk Hh Hh
  · exact g3 gk O gk
  · exact up S
  · exact up gk
  · exact g3 gk N S
  · exact g2 gk O
  · exact g2 gk Hh
  · exact g2 L2 Hh
  · exact g3 gk D gk
  · exact up D
theorem badL_len (n h : Str) : (badL n h).length = 23 := rfl
section
variable {K : Fr} {mg : Str → Option Value} {vs : List V} {H : Hp} {Q : VK} {E : XK} {σ : L2.St} {tl te ta tb : TE} {p : Addr}
theorem mapOk_first {x : Addr} {hs : List Str} {ws : List (Str × Str)} (m : MapOk K H x hs ws) : ∃ n wn h hr, ws.map (·.1) = n :: wn ∧ hs = h :: hr ∧ isName n = true ∧ isName h = true := by
  obtain ⟨_, rows, ok, rfl⟩ := m
  obtain ⟨h1, h2, h3, h4, h5, h6, h7, h8⟩ := okMap_of ok
  rw [pairs_fst]
  match rows, h7, h5, hs, h3, h1 with
  | r :: rs, _, h5, h :: hr, _, h1 =>
    obtain ⟨n, m, rfl, a1, a2⟩ := h5 r (by simp)
    exact ⟨n, _, h, hr, rfl, rfl, a1, h1 h (by simp)⟩
theorem MapOk.mono {H H' : Hp} {x : Addr} {hs : List Str} {ws : List (Str × Str)} (e : Ex H H') (m : MapOk K H x hs ws) : MapOk K H' x hs ws := ⟨m.1.mono e, m.2⟩
theorem pure_l_bad_deed (T : Tx K mg) (h : sp_l_bad_deed K vs H Q E) : t_l_bad_deed K { nx := fun _ H' => Q .non H', rt := Q } (start N_l_bad_deed vs) H := by
  obtain ⟨p, x, hs, ws, rfl, pot, m, k⟩ := h
  obtain ⟨n, wn, h, hr, e1, e2, hn, hh⟩ := mapOk_first m
  unfold t_l_bad_deed; walk_at "o"
  refine cons_ (op_ ?_)
  refine el_walkers T (ev_var rfl) m.1 H (Evl.Ex.refl _) _ fun a H1 ha x1 h1 => .inl ⟨a, _, 0, .str n, rfl, rfl, sq_of h1, atI_nat (j := 0) (by rw [e1]; rfl), ?_⟩
  refine cons_ (op_ ?_)
  refine el_hosts T (ev_var rfl) (m.1.mono x1) H1 (Evl.Ex.refl _) _ fun b H2 hb x2 h2 => .inl ⟨b, _, 0, .str h, rfl, rfl, sq_of h2, atI_nat (j := 0) (by rw [e2]; rfl), ?_⟩
  refine ⟨_, _, rfl, ?_⟩
  walk_at "o"
  have x12 := x1.trans x2
  have p2 := pot_mono x12 pot
  have S : ∀ {z : Str} {σ : L2.St} {H : Hp}, EvP K p (tC (.str z)) σ H (.str z) := fun {z σ H} => ep_c_str
  have N : ∀ {H : Hp} {v : Option V}, EvP K p (tVar 2) [some (V.ref p), some (V.ref x), some (.str n), some (.str h), v] H (.str n) := fun {H v} => ep_vs rfl
  have Hh : ∀ {H : Hp} {v : Option V}, EvP K p (tVar 3) [some (V.ref p), some (V.ref x), some (.str n), some (.str h), v] H (.str h) := fun {H v} => ep_vs rfl
  have t2 : ∀ {H : Hp} {v : Option V} {a b : TE} {da db : PyData}, Pot H p → EvP K p a [some (V.ref p), some (V.ref x), some (.str n), some (.str h), v] H da → EvP K p b [some (V.ref p), some (V.ref x), some (.str n), some (.str h), v] H db → EvP K p (tTup (tCons a (tCons b tNil))) [some (V.ref p), some (V.ref x), some (.str n), some (.str h), v] H (.tuple [da, db]) := fun po ha hb => ep_tup po (epa_cons ha (epa_cons hb epa_nil)) (by simp)
  have t3 : ∀ {H : Hp} {v : Option V} {a b c : TE} {da db dc : PyData}, Pot H p → EvP K p a [some (V.ref p), some (V.ref x), some (.str n), some (.str h), v] H da → EvP K p b [some (V.ref p), some (V.ref x), some (.str n), some (.str h), v] H db → EvP K p c [some (V.ref p), some (V.ref x), some (.str n), some (.str h), v] H dc → EvP K p (tTup (tCons a (tCons b (tCons c tNil)))) [some (V.ref p), some (V.ref x), some (.str n), some (.str h), v] H (.tuple [da, db, dc]) := fun po ha hb hc => ep_tup po (epa_cons ha (epa_cons hb (epa_cons hc epa_nil))) (by simp)
  refine ep_lst p2 (epa_cons (t3 p2 S Hh S) (epa_cons (t3 p2 S N S) (epa_cons (t3 p2 S N S) (epa_cons (t3 p2 S N S) (epa_cons ep_c_non epa_nil))))) (by simp) H2 (Evl.Ex.refl _) _ fun v3 H3 x3 q3 => ?_
  have p3 := pot_mono x3 p2
  refine ep_cat p3 (ep_var rfl q3) (ep_lst p3 (epa_cons (t2 p3 S N) (epa_cons (ep_tup p3 (epa_cons S (epa_cons N (epa_cons S (epa_cons S epa_nil)))) (by simp)) (epa_cons (ep_lst p3 (epa_cons S (epa_cons N (epa_cons S epa_nil))) (by simp)) (epa_cons (t2 p3 S N) (epa_cons (ep_tup p3 (epa_cons S epa_nil) (by simp)) (epa_cons (ep_tup p3 epa_nil (by simp)) epa_nil)))))) (by simp)) (by simp) H3 (Evl.Ex.refl _) _ fun v4 H4 x4 q4 => ?_
  have p4 := pot_mono x4 p3
  refine ep_cat p4 (ep_var rfl q4) (ep_lst p4 (epa_cons (t3 p4 S Hh Hh) (epa_cons (t2 p4 S (ep_lst p4 (epa_cons Hh epa_nil) (by simp))) (epa_cons (t3 p4 S Hh Hh) (epa_cons (t3 p4 S ep_c_non S) (epa_cons ep_c_int (epa_cons S epa_nil)))))) (by simp)) (by simp) H4 (Evl.Ex.refl _) _ fun v5 H5 x5 q5 => ?_
  have p5 := pot_mono x5 p4
  refine ep_cat p5 (ep_var rfl q5) (ep_lst p5 (epa_cons (t3 p5 S N ep_c_int) (epa_cons (t2 p5 S ep_c_non) (epa_cons (t2 p5 S Hh) (epa_cons (t2 p5 (ep_lst p5 (epa_cons S epa_nil) (by simp)) Hh) (epa_cons (t3 p5 S (ep_dnew p5) S) (epa_cons (ep_dnew p5) epa_nil)))))) (by simp)) (by simp) H5 (Evl.Ex.refl _) _ fun v6 H6 x6 q6 => ?_
  have p6 := pot_mono x6 p5
  have q6 : Dq K (del H6 p) v6 (.list (badL n h)) := q6
  cases q6 with
  | lst hl qa =>
    rename_i l xs
    obtain ⟨lp, hl6⟩ := del_some hl
    have lx : xs.length = 23 := by rw [qa_len qa, badL_len]
    refine op_ ?_
    refine ⟨_, rfl, ?_⟩
    refine digit_ rfl p6 (ev_lenL (ev_var rfl) (sq_of hl6)) (by omega) (by omega) fun d H7 d0 d1 e7 p7 => ?_
    obtain ⟨nn, rfl⟩ := Int.eq_ofNat_of_zero_le d0
    have hnn : nn < (badL n h).length := by rw [badL_len]; omega
    exact ix_q (e7 _ _ lp hl6) (qa.mono (delP e7)) hnn fun v q => k v _ H7 q (badL_ok hn hh _ (List.getElem_mem hnn)) ((ExP.of (((x12.trans x3).trans x4).trans (x5.trans x6))).trans e7) p7
end
end W81
namespace W81
open PySem PySem.Spec PyProof.Rows L2 LiI WB
open Evl hiding Ex
local macro_rules | `(tactic| walk_at "o") => `(tactic| dsimp only [tSeq, tIfS, tNext, tRet, tRetN, tDrop, tAsg, gName, tNever])
section
variable {K : Fr} {mg : Str → Option Value} {vs : List V} {H : Hp} {Q : VK} {E : XK} {σ : L2.St} {tl te ta tb : TE} {p : Addr}
theorem cat_q {v1 v2 : V} {a b : List PyData} (po : Pot H p) (q1 : Dq K (del H p) v1 (.list a)) (q2 : Dq K (del H p) v2 (.list b)) (hl : a.length + b.length ≤ 100000) (k : ∀ v H', Ex H H' → Dq K (del H' p) v (.list (a ++ b)) → Q v H') : rAddA K v1 v2 H Q := by
  cases q1 with
  | lst ha qa =>
    cases q2 with
    | lst hb qb =>
      exact .inr (.inr (.inl ⟨_, _, _, _, rfl, rfl, (del_some ha).2, (del_some hb).2, small_line (by rw [qa_len qa, qa_len qb]; omega), fun r hr => k (.ref r) _ (Evl.Ex.new hr) (.lst (del_new (po.ne hr)) (qa_app (qa.mono (delE (Evl.Ex.new hr))) (qb.mono (delE (Evl.Ex.new hr)))))⟩))
theorem ep_tupSq {b : Addr} {ys : List V} {ds : List PyData} (po : Pot H p) (h : Ev ta σ H (.ref b)) (hb : H b = some (.lst ys)) (qa : DqAll K (del H p) ys ds) : EvP K p (tCB (rTupSq K) (tCons ta tNil)) σ H (.tuple ds) := fun H1 e Q k =>
  h H1 e _ fun H2 e2 => ⟨b, ys, rfl, .inl ⟨sq_of ((e.trans e2) _ _ hb), fun r hr => k (.ref r) _ (e2.trans (Evl.Ex.new hr)) (.tup (del_new ((pot_mono (e.trans e2) po).ne hr)) ((qa.mono (delE (e.trans e2))).mono (delE (Evl.Ex.new hr))))⟩⟩
theorem ep_lstSqT {b : Addr} {ys : List V} {ds : List PyData} (po : Pot H p) (h : Ev ta σ H (.ref b)) (hb : H b = some (.tup ys)) (qa : DqAll K (del H p) ys ds) : EvP K p (tCB (rListSq K) (tCons ta tNil)) σ H (.list ds) := fun H1 e Q k =>
  h H1 e _ fun H2 e2 => ⟨b, ys, rfl, .inr (Evl.ex_t (e.trans e2) (st_of hb)), fun r hr => k (.ref r) _ (e2.trans (Evl.Ex.new hr)) (.lst (del_new ((pot_mono (e.trans e2) po).ne hr)) ((qa.mono (delE (e.trans e2))).mono (delE (Evl.Ex.new hr))))⟩
theorem ev_host0 (T : Tx K mg) {f : L2.St → XK} {to : TE} {x : Addr} {h : Str} {hr : List Str} {ws : List (Str × Str)} (ho : Ev to σ H (.ref x)) (m : MapAt K H x (h :: hr) ws) : Ev (tOp (rIx K) (tMethS (cMap K) "hosts" (sp_Map_hosts K) f to tNil) (tC (.int 0))) σ H (.str h) :=
  ev_opL1 (el_hosts T ho m) (fun _ _ => ev_c) fun q H1 hq e H2 e2 Q k => .inl ⟨q, _, 0, .str h, rfl, rfl, sq_of (e2 _ _ hq), atI_nat (j := 0) rfl, k H2 (Evl.Ex.refl _)⟩
theorem spoilt_fin {x l : Addr} {j : Nat} {kind : Int} {v5 v6 v7 : V} {o8 : Option V} {ds : List PyData} {d7 : PyData} {w : Nat} {D : Ends} (po : Pot H p) (ql : Dq K (del H p) (.ref l) (.list ds)) (hj : j < ds.length) (hg : Gd w 10 (.list ds)) (q7 : Dq K (del H p) v7 d7) (g7 : Gd (2 * w + 300) 9 d7) (hw : w ≤ 10000)
    (k : ∀ l' ds' H', Dq K (del H' p) (.ref l') (.list ds') → Gd (3 * w + 400) 10 (.list ds') → Ex H H' → D.rt (.ref l') H') :
    tRet (tOp (rAddA K) (tOp (rAddA K) (tSl (rSlA K) (tVar 2) tNoPart (tPart (tVar 3))) (tLst (tCons (tVar 7) tNil))) (tSl (rSlA K) (tVar 2) (tPart (tOp (rAddA K) (tVar 3) (tC (.int 1)))) tNoPart)) D [some (.ref p), some (.ref x), some (.ref l), some (.int (j : Int)), some (.int kind), some v5, some v6, some v7, o8] H := by
  walk_at "o"
  have hlen : ds.length ≤ 10000 := by
    have h1 := wt_len ds
    have h2 := hg.2.2.1
    rw [wt_list] at h2
    omega
  refine ep_cat po (ep_cat po (ep_sliceTo (j := j) po (ep_var rfl ql) (ev_var rfl)) (ep_lst po (epa_cons (ep_var rfl q7) epa_nil) (by simp)) (by rw [List.length_take]; simp only [List.length_cons, List.length_nil]; omega)) (ep_sliceFrom (j := j + 1) po (ep_var rfl ql) (ev_is' (ev_addI (i := (j : Int)) (ev_var rfl) ev_c) rfl)) (by rw [List.length_append, List.length_take, List.length_drop]; simp only [List.length_cons, List.length_nil]; omega) H (Evl.Ex.refl _) _ fun v H2 e2 q2 => ?_
  have hga := gd_list.mp hg
  have hsp : GdA w 9 (ds.take j ++ (ds[j] :: ds.drop (j + 1))) := by
    rw [← List.drop_eq_getElem_cons hj, List.take_append_drop]
    exact hga
  obtain ⟨w1, w2, a1, a2, a3⟩ := ga_split hsp
  obtain ⟨_, b2, b3⟩ := ga_uncons a2
  have b2' : GdA w2 9 (ds.drop (j + 1)) := b2
  have g7' := ga_cons g7 (ga_nil (w := 0) (k := 9))
  have hfin := (ga_app (ga_app a1 g7') b2').mono (w' := 3 * w + 400) (by omega) (Nat.le_refl _)
  cases q2 with
  | lst hl qa => exact k _ _ H2 (.lst hl qa) (gd_list.mpr hfin) e2
end
end W81
namespace W81
open PySem PySem.Spec PyProof.Rows L2 LiI WB
open Evl hiding Ex
local macro_rules | `(tactic| walk_at "o") => `(tactic| dsimp only [tSeq, tIfS, tNext, tRet, tRetN, tDrop, tAsg, gName, tNever])
section
variable {K : Fr} {mg : Str → Option Value} {vs : List V} {H : Hp} {Q : VK} {E : XK} {σ : L2.St} {tl te ta tb : TE} {p : Addr}
theorem rowD_gd {r : Str × List PyData} {w k : Nat} (h : Gd w (k + 1) (rowD r)) : ∃ w1 w2, Gd w1 k (.str r.1) ∧ Gd w2 k (.list r.2) ∧ w1 + w2 + 2 ≤ w := by
  have ha := gd_tup.mp h
  obtain ⟨g1, t1, h1⟩ := ga_uncons ha
  obtain ⟨g2, _, h2⟩ := ga_uncons t1
  refine ⟨_, _, ⟨g1.1, g1.2.1, Nat.le_refl _, g1.2.2.2⟩, ⟨g2.1, g2.2.1, Nat.le_refl _, g2.2.2.2⟩, ?_⟩
  have e : PyData.weightAll [PyData.list r.2] = (PyData.list r.2).weight + 1 := by simp only [PyData.weightAll]
  omega
theorem gd_row {a b : PyData} {w1 w2 w k : Nat} (h1 : Gd w1 k a) (h2 : Gd w2 k b) (h : w1 + w2 + 2 ≤ w) : Gd w (k + 1) (.tuple [a, b]) := gd_tup.mpr ((ga_cons h1 (ga_cons h2 (ga_nil (w := 0)))).mono (by omega) (Nat.le_refl _))
theorem mapOk_P {H H' : Hp} {x : Addr} {hs : List Str} {ws : List (Str × Str)} (po : Pot H p) (e : ExP p H H') (m : MapOk K H x hs ws) : MapOk K H' x hs ws := by
  obtain ⟨⟨dx, l, d, h1, h2, h3⟩, r⟩ := m
  obtain ⟨_, _, hp, _⟩ := id po
  exact ⟨⟨dx, l, d, e _ _ (ne_of h1 hp (by intro z; cases z)) h1, e _ _ (po.neS h2) h2, e _ _ (ne_of h3 hp (by intro z; cases z)) h3⟩, r⟩
theorem spoilt_body (T : Tx K mg) {x l a b : Addr} {j : Nat} {kind : Int} {hs : List Str} {ws : List (Str × Str)} {rs : List (Str × List PyData)} {r : Str × List PyData} {ys : List V} {w : Nat} {D : Ends} (po : Pot H p) (m : MapOk K H x hs ws) (ql : Dq K (del H p) (.ref l) (.list (rs.map rowD))) (hj : rs[j]? = some r)
    (hg : Gd w 10 (.list (rs.map rowD))) (ha : (del H p) a = some (.tup [.str r.1, .ref b])) (hb : (del H p) b = some (.lst ys)) (hq : DqAll K (del H p) ys r.2) (hk0 : 0 ≤ kind) (hw : w ≤ 10000)
    (k : ∀ l' ds' H', Dq K (del H' p) (.ref l') (.list ds') → Gd (3 * w + 400) 10 (.list ds') → ExP p H H' → Pot H' p → D.rt (.ref l') H') :
    (tSeq (tIfS (tTest (tOp (rEqA K) (tVar 4) (tC (.int 0)))) (tAsg (tOp (rIx K) (tLst (tCons (tC .non) (tCons (tCB (rListSq K) (tCons (tVar 7) tNil)) (tCons (tTup (tCons (tVar 5) tNil)) (tCons (tTup (tCons (tVar 5) (tCons (tVar 6) (tCons (tC (.int 0)) tNil)))) (tCons (tTup tNil) (tCons (tVar 5) (tCons (tC (.int 7)) (tCons (tDNewK) tNil))))))))) (tCallS (sp_l_take K) (fun _ => E0) (tCons (tVar 0) (tCons (tC (.int 8)) tNil)))) (gName 7)) (tNext))
    (tSeq (tIfS (tTest (tOp (rEqA K) (tVar 4) (tC (.int 1)))) (tAsg (tTup (tCons (tOp (rIx K) (tLst (tCons (tC .non) (tCons (tC (.str "")) (tCons (tOp (rIx K) (tMethS (He.ga K "Map") "hosts" (sp_Map_hosts K) (fun _ => E0) (tVar 1) tNil) (tC (.int 0))) (tCons (tLst (tCons (tVar 5) tNil)) (tCons (tC (.int 7)) (tCons (tOp (rAddA K) (tVar 5) (tC (.str " "))) (tCons (tOp (rIx K) (tOp (rIx K) (tVar 2) (tC (.int 0))) (tC (.int 0))) tNil)))))))) (tCallS (sp_l_take K) (fun _ => E0) (tCons (tVar 0) (tCons (tC (.int 7)) tNil)))) (tCons (tVar 6) tNil))) (gName 7)) (tNext))
    (tSeq (tIfS (tTest (tOp (rEqA K) (tVar 4) (tC (.int 2)))) (tAsg (tTup (tCons (tVar 5) (tCons (tOp (rIx K) (tLst (tCons (tC .non) (tCons (tCB (rTupSq K) (tCons (tVar 6) tNil)) (tCons (tDNewK) (tCons (tC (.str "")) (tCons (tC (.int 7)) (tCons (tTup (tCons (tC (.str "walk")) (tCons (tOp (rIx K) (tMethS (He.ga K "Map") "hosts" (sp_Map_hosts K) (fun _ => E0) (tVar 1) tNil) (tC (.int 0))) tNil))) tNil))))))) (tCallS (sp_l_take K) (fun _ => E0) (tCons (tVar 0) (tCons (tC (.int 6)) tNil)))) tNil))) (gName 7)) (tNext))
    (tSeq (tIfS (tTest (tOp rGtI (tVar 4) (tC (.int 2)))) (tSeq (tAsg (tCallS (sp_l_take K) (fun _ => E0) (tCons (tVar 0) (tCons (tOp (rAddA K) (tCB (rLenA K) (tCons (tVar 6) tNil)) (tC (.int 1))) tNil))) (gName 8))
    (tAsg (tTup (tCons (tVar 5) (tCons (tOp (rAddA K) (tOp (rAddA K) (tSl (rSlA K) (tVar 6) tNoPart (tPart (tVar 8))) (tLst (tCons (tCallS (sp_l_bad_deed K) (fun _ => E0) (tCons (tVar 0) (tCons (tVar 1) tNil))) tNil))) (tSl (rSlA K) (tVar 6) (tPart (tVar 8)) tNoPart)) tNil))) (gName 7))) (tNext))
    (tRet (tOp (rAddA K) (tOp (rAddA K) (tSl (rSlA K) (tVar 2) tNoPart (tPart (tVar 3))) (tLst (tCons (tVar 7) tNil))) (tSl (rSlA K) (tVar 2) (tPart (tOp (rAddA K) (tVar 3) (tC (.int 1)))) tNoPart))))))) D [some (.ref p), some (.ref x), some (.ref l), some (.int (j : Int)), some (.int kind), some (.str r.1), some (.ref b), some (.ref a), none] H := by
  obtain ⟨n, wn, h, hr, em1, em2, hn, hh⟩ := mapOk_first m
  subst em2
  have hjl : j < rs.length := (List.getElem?_eq_some_iff.mp hj).1
  have hjd : j < (rs.map rowD).length := by rw [List.length_map]; exact hjl
  have hrm : rowD r ∈ rs.map rowD := List.mem_map.mpr ⟨r, List.mem_of_getElem? hj, rfl⟩
  have gr : Gd w 9 (rowD r) := ga_mem (gd_list.mp hg) hrm
  obtain ⟨w1, w2, gs, gl, hw12⟩ := rowD_gd (k := 8) gr
  obtain ⟨ap, ha'⟩ := del_some ha
  obtain ⟨bp, hb'⟩ := del_some hb
  have hwt : w2 ≤ 10000 := by omega
  have hyl : r.2.length ≤ 10000 := by
    have h1 := wt_len r.2
    have h2 := gl.2.2.1
    rw [wt_list] at h2
    omega
  have qb : Dq K (del H p) (.ref b) (.list r.2) := .lst hb hq
  walk_at "o"
  obtain rfl | rfl | rfl | hk3 : kind = 0 ∨ kind = 1 ∨ kind = 2 ∨ 2 < kind := by omega
  · refine et_test (ev_eqI (ev_var rfl) ev_c) H (Evl.Ex.refl _) _ fun H1 e1 => ite_t (decide_eq_true rfl) ?_
    have po1 := pot_mono e1 po
    have V5 : EvP K p (tVar 5) [some (.ref p), some (.ref x), some (.ref l), some (.int (j : Int)), some (.int 0), some (.str r.1), some (.ref b), some (.ref a), none] H1 (.str r.1) := ep_vs rfl
    have V6 : EvP K p (tVar 6) [some (.ref p), some (.ref x), some (.ref l), some (.int (j : Int)), some (.int 0), some (.str r.1), some (.ref b), some (.ref a), none] H1 (.list r.2) := ep_var rfl (qb.mono (delE e1))
    refine op_ ?_
    refine ep_lst po1 (epa_cons ep_c_non (epa_cons (ep_lstSqT (ds := [.str r.1, .list r.2]) po1 (ev_var rfl) (e1 _ _ ha') (.cons (.str _) (.cons (qb.mono (delE e1)) .nil))) (epa_cons (ep_tup po1 (epa_cons V5 epa_nil) (by simp)) (epa_cons (ep_tup po1 (epa_cons V5 (epa_cons V6 (epa_cons ep_c_int epa_nil))) (by simp)) (epa_cons (ep_tup po1 epa_nil (by simp)) (epa_cons V5 (epa_cons ep_c_int (epa_cons (ep_dnew po1) epa_nil)))))))) (by simp) H1 (Evl.Ex.refl _) _ fun v H2 e2 q2 => ?_
    have po2 := pot_mono e2 po1
    cases q2 with
    | lst hl qa =>
      obtain ⟨lp, hl'⟩ := del_some hl
      refine digit_ rfl po2 ev_c (by decide) (by decide) fun d H3 d0 d1 e3 po3 => ?_
      obtain ⟨nn, rfl⟩ := Int.eq_ofNat_of_zero_le d0
      refine ix_q (e3 _ _ lp hl') (qa.mono (delP e3)) (by simp only [List.length_cons, List.length_nil]; omega) fun v7 q7 => ?_
      have e13 : ExP p H H3 := (ExP.of (e1.trans e2)).trans e3
      refine et_test (ev_eqI (ev_var rfl) ev_c) H3 (Evl.Ex.refl _) _ fun H4 e4 => ite_f (decide_eq_false (by decide)) ?_
      refine et_test (ev_eqI (ev_var rfl) ev_c) H4 (Evl.Ex.refl _) _ fun H5 e5 => ite_f (decide_eq_false (by decide)) ?_
      refine et_test (ev_rI0 (ev_var rfl) ev_c) H5 (Evl.Ex.refl _) _ fun H6 e6 => ite_f (decide_eq_false (by decide)) ?_
      have e36 := (e4.trans e5).trans e6
      refine spoilt_fin (D := D) (pot_mono e36 po3) (ql.mono ((delP e13).trans (delE e36))) hjd hg (q7.mono (delE e36)) ?_ hw fun l' ds' H' q g e => k l' ds' H' q g ((e13.tx e36).tx e) (pot_mono (e36.trans e) po3)
      have hall : ∀ d ∈ [PyData.none, .list [.str r.1, .list r.2], .tuple [.str r.1], .tuple [.str r.1, .list r.2, .int 0], .tuple [], .str r.1, .int 7, .dict []], Gd (2 * w + 300) 9 d := by
        intro d hd
        simp only [List.mem_cons, List.not_mem_nil, or_false] at hd
        rcases hd with rfl | rfl | rfl | rfl | rfl | rfl | rfl | rfl
        · exact (gd_non (k := 0)).mono (by omega) (by omega)
        · exact gd_list.mpr ((ga_cons gs (ga_cons gl (ga_nil (w := 0)))).mono (by omega) (Nat.le_refl _))
        · exact gd_tup.mpr ((ga_cons gs (ga_nil (w := 0))).mono (by omega) (Nat.le_refl _))
        · exact gd_tup.mpr ((ga_cons gs (ga_cons gl (ga_cons gd_0 (ga_nil (w := 0))))).mono (by omega) (Nat.le_refl _))
        · exact gd_tup.mpr ga_nil
        · exact gs.mono (by omega) (by omega)
        · exact (gd_7 (k := 0)).mono (by omega) (by omega)
        · exact (gd_dict (k := 0)).mono (by omega) (by omega)
      exact hall _ (List.getElem_mem _)
  · refine et_test (ev_eqI (ev_var rfl) ev_c) H (Evl.Ex.refl _) _ fun H1 e1 => ite_f (decide_eq_false (by decide)) ?_
    refine et_test (ev_eqI (ev_var rfl) ev_c) H1 (Evl.Ex.refl _) _ fun H2 e2 => ite_t (decide_eq_true rfl) ?_
    have e12 := e1.trans e2
    have po2 := pot_mono e12 po
    have q0l := ql.mono (delE e12)
    obtain ⟨r0, rs', rfl⟩ : ∃ r0 rs', rs = r0 :: rs' := by
      cases rs with
      | nil => cases hjl
      | cons a b => exact ⟨a, b, rfl⟩
    have gr0 : Gd w 9 (rowD r0) := ga_mem (gd_list.mp hg) (by simp)
    obtain ⟨w3, w4, gs0, gl0, hw34⟩ := rowD_gd (k := 8) gr0
    have V5 : EvP K p (tVar 5) [some (.ref p), some (.ref x), some (.ref l), some (.int (j : Int)), some (.int 1), some (.str r.1), some (.ref b), some (.ref a), none] H2 (.str r.1) := ep_vs rfl
    have sl : r.1.length ≤ 10000 := by
      have := gs.2.2.1
      rw [wt_str] at this
      omega
    have V00 : EvP K p (tOp (rIx K) (tOp (rIx K) (tVar 2) (tC (.int 0))) (tC (.int 0))) [some (.ref p), some (.ref x), some (.ref l), some (.int (j : Int)), some (.int 1), some (.str r.1), some (.ref b), some (.ref a), none] H2 (.str r0.1) := by
      cases q0l with
      | lst hl qa =>
        cases qa with
        | cons qh qt =>
          obtain ⟨a0, b0, ys0, rfl, ha0, hb0, hq0⟩ := rowD_inv qh
          exact ep_of (ev_ixT (ev_ixL (ev_var rfl) ev_c (sq_of (del_some hl).2) (atI_nat (j := 0) rfl)) ev_c (st_of (del_some ha0).2) (atI_nat (j := 0) rfl)) (.str _)
    refine cons_ (op_ ?_)
    refine ep_lst po2 (epa_cons ep_c_non (epa_cons ep_c_str (epa_cons (ep_of (ev_host0 T (ev_var rfl) (m.1.mono e12)) (.str h)) (epa_cons (ep_lst po2 (epa_cons V5 epa_nil) (by simp)) (epa_cons ep_c_int (epa_cons (ep_of (ev_addS (ev_var rfl) ev_c (by show r.1.length + 1 ≤ _; omega)) (.str _)) (epa_cons V00 epa_nil))))))) (by simp) H2 (Evl.Ex.refl _) _ fun v H3 e3 q3 => ?_
    have po3 := pot_mono e3 po2
    cases q3 with
    | lst hl qa =>
      obtain ⟨lp, hl'⟩ := del_some hl
      refine digit_ rfl po3 ev_c (by decide) (by decide) fun d H4 d0 d1 e4 po4 => ?_
      obtain ⟨nn, rfl⟩ := Int.eq_ofNat_of_zero_le d0
      refine ix_q (e4 _ _ lp hl') (qa.mono (delP e4)) (by simp only [List.length_cons, List.length_nil]; omega) fun vx qx => ?_
      have e14 : ExP p H H4 := (ExP.of (e12.trans e3)).trans e4
      have qb4 : Dq K (del H4 p) (.ref b) (.list r.2) := qb.mono (delP e14)
      refine cons_ ?_
      refine ⟨_, rfl, ?_⟩
      refine ⟨by show 2 ≤ _; rw [sizeLine_eq]; decide, fun t ht => ?_⟩
      have e5 : Ex H4 (L2.upd H4 t (.tup [vx, .ref b])) := Evl.Ex.new ht
      have po5 := pot_mono e5 po4
      have q7 : Dq K (del (L2.upd H4 t (.tup [vx, .ref b])) p) (.ref t) (.tuple [_, .list r.2]) := .tup (del_new (po4.ne ht)) (.cons (qx.mono (delE e5)) (.cons (qb4.mono (delE e5)) .nil))
      refine et_test (ev_eqI (ev_var rfl) ev_c) _ (Evl.Ex.refl _) _ fun H6 e6 => ite_f (decide_eq_false (by decide)) ?_
      refine et_test (ev_rI0 (ev_var rfl) ev_c) H6 (Evl.Ex.refl _) _ fun H7 e7 => ite_f (decide_eq_false (by decide)) ?_
      have e57 := e6.trans e7
      have e47 := e5.trans e57
      refine spoilt_fin (D := D) (pot_mono e57 po5) (ql.mono ((delP e14).trans (delE e47))) hjd hg (q7.mono (delE e57)) ?_ hw fun l' ds' H' q g e => k l' ds' H' q g ((e14.tx e47).tx e) (pot_mono (e47.trans e) po4)
      have hall : ∀ d ∈ [PyData.none, .str "", .str h, .list [.str r.1], .int 7, .str (r.1 ++ (" " : Str)), .str r0.1], Gd (w + 200) 8 d := by
        intro d hd
        simp only [List.mem_cons, List.not_mem_nil, or_false] at hd
        rcases hd with rfl | rfl | rfl | rfl | rfl | rfl | rfl
        · exact (gd_non (k := 0)).mono (by omega) (by omega)
        · exact (gk (k := 0)).mono (by omega) (by omega)
        · exact (gd_name (k := 0) hh).mono (by omega) (by omega)
        · have g' : Gd w1 7 (.str r.1) := ⟨gs.1, gs.2.1, gs.2.2.1, by rw [PyData.depth]; exact Nat.zero_le _⟩
          exact gd_list.mpr ((ga_cons g' (ga_nil (w := 0))).mono (by omega) (by omega))
        · exact (gd_7 (k := 0)).mono (by omega) (by omega)
        · have hok : okS r.1 := by
            have := gs.1
            simp only [PyData.leavesShort, List.all_eq_true] at this
            exact fun c hc => of_decide_eq_true (this c hc)
          have hwl := gs.2.2.1
          rw [wt_str] at hwl
          refine (gd_str (k := 8) (z := r.1 ++ (" " : Str)) ?_).mono (by rw [Str.length_append]; show _ + 1 ≤ _; omega) (Nat.le_refl _)
          intro c hc
          rw [Str.cps_append, Array.toList_append] at hc
          rcases List.mem_append.mp hc with h | h
          · exact hok c h
          · have h1 : ∀ c ∈ (" " : Str).cps.toList, c < 16 ^ 8 := by decide +kernel
            exact h1 c h
        · exact gs0.mono (by omega) (by omega)
      exact (gd_row (hall _ (List.getElem_mem _)) gl (w := 2 * w + 300) (by omega))
  · refine et_test (ev_eqI (ev_var rfl) ev_c) H (Evl.Ex.refl _) _ fun H1 e1 => ite_f (decide_eq_false (by decide)) ?_
    refine et_test (ev_eqI (ev_var rfl) ev_c) H1 (Evl.Ex.refl _) _ fun H2 e2 => ite_f (decide_eq_false (by decide)) ?_
    refine et_test (ev_eqI (ev_var rfl) ev_c) H2 (Evl.Ex.refl _) _ fun H3 e3 => ite_t (decide_eq_true rfl) ?_
    have e13 := (e1.trans e2).trans e3
    have po3 := pot_mono e13 po
    refine ⟨_, rfl, ?_⟩
    refine cons_ (op_ ?_)
    refine ep_lst po3 (epa_cons ep_c_non (epa_cons (ep_tupSq po3 (ev_var rfl) (e13 _ _ hb') (hq.mono (delE e13))) (epa_cons (ep_dnew po3) (epa_cons ep_c_str (epa_cons ep_c_int (epa_cons (ep_tup po3 (epa_cons ep_c_str (epa_cons (ep_of (ev_host0 T (ev_var rfl) (m.1.mono e13)) (.str h)) epa_nil)) (by simp)) epa_nil)))))) (by simp) H3 (Evl.Ex.refl _) _ fun v H4 e4 q4 => ?_
    have po4 := pot_mono e4 po3
    cases q4 with
    | lst hl qa =>
      obtain ⟨lp, hl'⟩ := del_some hl
      refine digit_ rfl po4 ev_c (by decide) (by decide) fun d H5 d0 d1 e5 po5 => ?_
      obtain ⟨nn, rfl⟩ := Int.eq_ofNat_of_zero_le d0
      refine ix_q (e5 _ _ lp hl') (qa.mono (delP e5)) (by simp only [List.length_cons, List.length_nil]; omega) fun vx qx => ?_
      have e15 : ExP p H H5 := (ExP.of (e13.trans e4)).trans e5
      refine ⟨by show 2 ≤ _; rw [sizeLine_eq]; decide, fun t ht => ?_⟩
      have e6 : Ex H5 (L2.upd H5 t (.tup [.str r.1, vx])) := Evl.Ex.new ht
      have po6 := pot_mono e6 po5
      have q7 : Dq K (del (L2.upd H5 t (.tup [.str r.1, vx])) p) (.ref t) (.tuple [.str r.1, _]) := .tup (del_new (po5.ne ht)) (.cons (.str _) (.cons (qx.mono (delE e6)) .nil))
      refine et_test (ev_rI0 (ev_var rfl) ev_c) _ (Evl.Ex.refl _) _ fun H7 e7 => ite_f (decide_eq_false (by decide)) ?_
      have e67 := e6.trans e7
      refine spoilt_fin (D := D) (pot_mono e7 po6) (ql.mono ((delP e15).trans (delE e67))) hjd hg (q7.mono (delE e7)) ?_ hw fun l' ds' H' q g e => k l' ds' H' q g ((e15.tx e67).tx e) (pot_mono (e67.trans e) po5)
      have hall : ∀ d ∈ [PyData.none, .tuple r.2, .dict [], .str "", .int 7, .tuple [.str "walk", .str h]], Gd (w2 + 200) 8 d := by
        intro d hd
        simp only [List.mem_cons, List.not_mem_nil, or_false] at hd
        rcases hd with rfl | rfl | rfl | rfl | rfl | rfl
        · exact (gd_non (k := 0)).mono (by omega) (by omega)
        · exact (gd_tup.mpr (gd_list.mp gl)).mono (by omega) (Nat.le_refl _)
        · exact (gd_dict (k := 0)).mono (by omega) (by omega)
        · exact (gk (k := 0)).mono (by omega) (by omega)
        · exact (gd_7 (k := 0)).mono (by omega) (by omega)
        · exact (g2 gk ((gd_name hh).mono (by omega) (Nat.le_refl _))).mono (by omega) (by omega)
      exact (gd_row gs (hall _ (List.getElem_mem _)) (w := 2 * w + 300) (by omega))
  · refine et_test (ev_eqI (ev_var rfl) ev_c) H (Evl.Ex.refl _) _ fun H1 e1 => ite_f (decide_eq_false (by omega)) ?_
    refine et_test (ev_eqI (ev_var rfl) ev_c) H1 (Evl.Ex.refl _) _ fun H2 e2 => ite_f (decide_eq_false (by omega)) ?_
    refine et_test (ev_eqI (ev_var rfl) ev_c) H2 (Evl.Ex.refl _) _ fun H3 e3 => ite_f (decide_eq_false (by omega)) ?_
    refine et_test (ev_rI0 (ev_var rfl) ev_c) H3 (Evl.Ex.refl _) _ fun H4 e4 => ite_t (decide_eq_true hk3) ?_
    have e14 := ((e1.trans e2).trans e3).trans e4
    have po4 := pot_mono e14 po
    have ly : ys.length = r.2.length := qa_len hq
    refine digit_ rfl po4 (ev_addI (ev_lenL (ev_var rfl) (sq_of (e14 _ _ hb'))) ev_c) (by omega) (by omega) fun sp H5 s0 s1 e5 po5 => ?_
    obtain ⟨ns, rfl⟩ := Int.eq_ofNat_of_zero_le s0
    have e15 : ExP p H H5 := (ExP.of e14).trans e5
    have qb5 : Dq K (del H5 p) (.ref b) (.list r.2) := qb.mono (delP e15)
    refine ⟨_, rfl, ?_⟩
    refine cons_ (op_ (op_ ?_))
    refine ep_sliceTo (j := ns) po5 (ep_var rfl qb5) (ev_var rfl) H5 (Evl.Ex.refl _) _ fun v1 H6 e6 q1 => ?_
    have po6 := pot_mono e6 po5
    refine cons_ ?_
    refine ⟨_, rfl, _, rfl, p, x, h :: hr, ws, rfl, po6, mapOk_P po (e15.tx e6) m, fun vb db H7 qvb gvb e7 po7 => ?_⟩
    have q1' : Dq K (del H7 p) v1 (.list (r.2.take ns)) := q1.mono (delP e7)
    refine ⟨by show 1 ≤ _; rw [sizeLine_eq]; decide, fun t ht => ?_⟩
    have e8 : Ex H7 (L2.upd H7 t (.lst [vb])) := Evl.Ex.new ht
    have po8 := pot_mono e8 po7
    have qt : Dq K (del (L2.upd H7 t (.lst [vb])) p) (.ref t) (.list [db]) := .lst (del_new (po7.ne ht)) (.cons (qvb.mono (delE e8)) .nil)
    refine cat_q po8 (q1'.mono (delE e8)) qt (by rw [List.length_take]; simp only [List.length_cons, List.length_nil]; omega) fun v9 H9 e9 q9 => ?_
    have po9 := pot_mono e9 po8
    have e19 : ExP p H H9 := (((e15.tx e6).trans e7).tx e8).tx e9
    have qb9 : Dq K (del H9 p) (.ref b) (.list r.2) := qb.mono (delP e19)
    refine ep_sliceFrom (j := ns) po9 (ep_var rfl qb9) (ev_var rfl) H9 (Evl.Ex.refl _) _ fun v10 H10 e10 q10 => ?_
    have po10 := pot_mono e10 po9
    refine cat_q po10 (q9.mono (delE e10)) q10 (by rw [List.length_append, List.length_take, List.length_drop]; simp only [List.length_cons, List.length_nil]; omega) fun v11 H11 e11 q11 => ?_
    have po11 := pot_mono e11 po10
    have e111 : ExP p H H11 := (e19.tx e10).tx e11
    refine ⟨by show 2 ≤ _; rw [sizeLine_eq]; decide, fun t2 ht2 => ?_⟩
    have e12 : Ex H11 (L2.upd H11 t2 (.tup [.str r.1, v11])) := Evl.Ex.new ht2
    have q7 : Dq K (del (L2.upd H11 t2 (.tup [.str r.1, v11])) p) (.ref t2) (.tuple [.str r.1, .list (r.2.take ns ++ [db] ++ r.2.drop ns)]) := .tup (del_new (po11.ne ht2)) (.cons (.str _) (.cons (q11.mono (delE e12)) .nil))
    refine spoilt_fin (D := D) (pot_mono e12 po11) (ql.mono ((delP e111).trans (delE e12))) hjd hg q7 ?_ hw fun l' ds' H' q g e => k l' ds' H' q g ((e111.tx e12).tx e) (pot_mono (e12.trans e) po11)
    have gla := gd_list.mp gl
    have hsp : GdA w2 7 (r.2.take ns ++ r.2.drop ns) := by rw [List.take_append_drop]; exact gla
    obtain ⟨u1, u2, a1, a2, a3⟩ := ga_split hsp
    have gdb : Gd 200 7 db := gvb.mono (Nat.le_refl _) (by omega)
    have gl2 : Gd (w2 + 201) 8 (.list (r.2.take ns ++ [db] ++ r.2.drop ns)) := gd_list.mpr ((ga_app (ga_app a1 (ga_cons gdb (ga_nil (w := 0)))) a2).mono (by omega) (Nat.le_refl _))
    exact gd_row gs gl2 (w := 2 * w + 300) (by omega)
theorem pure_l_spoilt (T : Tx K mg) (h : sp_l_spoilt K vs H Q E) : t_l_spoilt K { nx := fun _ H' => Q .non H', rt := Q } (start N_l_spoilt vs) H := by
  obtain ⟨p, x, l, hs, ws, rs, w, rfl, po, m, ql, hne, hg, hw, k⟩ := h
  unfold t_l_spoilt; walk_at "o"
  have ql : Dq K (del H p) (.ref l) (.list (rs.map rowD)) := ql
  have hrl := rs_len hg.2.2.1
  have hr1 : 1 ≤ rs.length := by
    cases rs with
    | nil => exact absurd rfl hne
    | cons => simp
  cases id ql with
  | lst hl qa =>
    rename_i xs
    obtain ⟨lp, hl'⟩ := del_some hl
    have lx : xs.length = rs.length := by rw [qa_len qa, List.length_map]
    refine cons_ ?_
    refine digit_ rfl po (ev_lenL (ev_var rfl) (sq_of hl')) (by omega) (by omega) fun d H1 d0 d1 e1 po1 => ?_
    refine cons_ ?_
    refine digit_ rfl po1 ev_c (by decide) (by decide) fun kind H2 k0 k1 e2 po2 => ?_
    obtain ⟨j, rfl⟩ := Int.eq_ofNat_of_zero_le d0
    refine ⟨_, _, rfl, ?_⟩
    have e12 := e1.trans e2
    have hj : j < rs.length := by omega
    have hjx : j < xs.length := by omega
    have ql2 := ql.mono (delP e12)
    have hl2 := e12 _ _ lp hl'
    obtain ⟨dr, hdr, qr⟩ := qa_at (qa.mono (delP e12)) (i := j) (v := xs[j]) (List.getElem?_eq_getElem hjx)
    have hrj : rs[j]? = some rs[j] := List.getElem?_eq_getElem hj
    rw [List.getElem?_map, hrj] at hdr
    obtain rfl := Option.some.inj hdr
    obtain ⟨a, b, ys, ea, ha, hb, hq⟩ := rowD_inv qr
    have hxa : xs[j]? = some (.ref a) := by rw [List.getElem?_eq_getElem hjx, ea]
    have E1 : ∀ {σ : L2.St}, σ[2]? = some (some (V.ref l)) → σ[3]? = some (some (.int (j : Int))) → ∀ H3, Ex H2 H3 → Ev (tOp (rIx K) (tVar 2) (tVar 3)) σ H3 (.ref a) := fun h2 h3 H3 e3 => ev_ixL (ev_var h2) (ev_var h3) (sq_of (e3 _ _ hl2)) (atI_nat hxa)
    walk_at "o"
    refine cons_ ?_
    refine ev_ixT (v := .str (rs[j]).1) (E1 rfl rfl H2 (Evl.Ex.refl _)) ev_c (st_of (del_some ha).2) (atI_nat (j := 0) rfl) H2 (Evl.Ex.refl _) _ fun H3 e3 => ?_
    refine cons_ ?_
    refine ev_ixT (v := .ref b) (E1 rfl rfl H3 e3) ev_c (st_of (e3 _ _ (del_some ha).2)) (atI_nat (j := 1) rfl) H3 (Evl.Ex.refl _) _ fun H4 e4 => ?_
    refine ⟨_, _, rfl, ?_⟩
    walk_at "o"
    refine E1 rfl rfl H4 (e3.trans e4) H4 (Evl.Ex.refl _) _ fun H5 e5 => ?_
    have e25 := (e3.trans e4).trans e5
    have eP : ExP p H H5 := e12.tx e25
    refine spoilt_body T (D := { nx := fun _ H' => Q .non H', rt := Q }) (rs := rs) (r := rs[j]) (hs := hs) (ws := ws) (pot_mono e25 po2) (mapOk_P po eP m) (ql2.mono (delE e25)) hrj hg ((delE e25) _ _ ha) ((delE e25) _ _ hb) (hq.mono (delE e25)) k0 hw fun l' ds' H' q g e pp => k l' ds' H' q g (eP.trans e) pp
end
end W81
namespace W81
open PySem PySem.Spec PyProof.Rows L2 LiI WB
open Evl hiding Ex
local macro_rules | `(tactic| walk_at "o") => `(tactic| dsimp only [tSeq, tIfS, tNext, tRet, tRetN, tDrop, tAsg, gName, tNever])
def okDeed (ss : List Str) : Prop := ss.length ≤ 3 ∧ ∀ z ∈ ss, okS z ∧ z.length ≤ 8
def DeedV (H : Hp) (v : V) : Prop := ∃ t ss, v = .ref t ∧ H t = some (.tup (SV ss)) ∧ okDeed ss
def kvL (wn : List Str) (ls : List Addr) : List (Key × V) := (wn.zip ls).map fun z => (Sum.inr z.1, V.ref z.2)
theorem kvL_keys {wn : List Str} {ls : List Addr} (nd : wn.Nodup) : ((kvL wn ls).map (·.1)).Nodup := by
  unfold kvL
  rw [List.map_map]
  have e : (wn.zip ls).map ((·.1) ∘ fun z => ((Sum.inr z.1 : Key), V.ref z.2)) = ((wn.zip ls).map (·.1)).map fun z => (Sum.inr z : Key) := by rw [List.map_map]; rfl
  have hs : ((wn.zip ls).map (·.1)).Sublist wn := by
    clear nd e
    induction wn generalizing ls with
    | nil => simp
    | cons a wn ih =>
      cases ls with
      | nil => simp
      | cons l ls => rw [List.zip_cons_cons, List.map_cons]; exact (ih).cons_cons a
  have hsn : ((wn.zip ls).map (·.1)).Nodup := hs.nodup nd
  rw [e]
  exact List.Pairwise.map _ (fun a b hab h => hab (Sum.inr.inj h)) hsn
theorem kvL_get {wn : List Str} {ls : List Addr} (hl : ls.length = wn.length) {n : Str} (hn : n ∈ wn) : ∃ l ∈ ls, (Sum.inr n, V.ref l) ∈ kvL wn ls := by
  obtain ⟨i, hi, e⟩ := List.mem_iff_getElem.mp hn
  have hi2 : i < ls.length := by omega
  refine ⟨ls[i], List.getElem_mem hi2, List.mem_map.mpr ⟨(n, ls[i]), List.mem_iff_getElem.mpr ⟨i, by rw [List.length_zip]; omega, by rw [List.getElem_zip, e]⟩, rfl⟩⟩
structure RI (p a3 a4 d : Addr) (wn hs : List Str) (ls : List Addr) (H0 : Hp) (c : Nat) (H : Hp) : Prop where
  ex : ExP p H0 H
  po : Pot H p
  h3 : H a3 = some (.lst (SV wn))
  h4 : H a4 = some (.lst (SV hs))
  hd : H d = some (.dK (kvL wn ls))
  hl : ∀ l ∈ ls, ∃ xs : List V, H l = some (.lst xs) ∧ xs.length ≤ c ∧ ∀ v ∈ xs, DeedV H v
structure RA (p a3 a4 d : Addr) (ls : List Addr) (H0 : Hp) : Prop where
  p3 : a3 ≠ p
  p4 : a4 ≠ p
  pd : d ≠ p
  lp : ∀ l ∈ ls, l ≠ p
  l3 : ∀ l ∈ ls, l ≠ a3
  l4 : ∀ l ∈ ls, l ≠ a4
  ld : ∀ l ∈ ls, l ≠ d
  l0 : ∀ l ∈ ls, H0 l = none
section
variable {K : Fr} {mg : Str → Option Value} {vs : List V} {H : Hp} {Q : VK} {E : XK} {σ : L2.St} {tl te ta tb : TE} {p a3 a4 d : Addr} {wn hs : List Str} {ls : List Addr} {H0 : Hp} {c : Nat}
theorem DeedV.mono {H H' : Hp} {v : V} (h : DeedV H v) (po : Pot H p) (e : ExP p H H') : DeedV H' v := by
  obtain ⟨t, ss, rfl, ht, ok⟩ := h
  obtain ⟨_, _, hp, _⟩ := po
  exact ⟨t, ss, rfl, e _ _ (ne_of ht hp (by intro z; cases z)) ht, ok⟩
theorem RI.step {H H' : Hp} (A : RA p a3 a4 d ls H0) (I : RI p a3 a4 d wn hs ls H0 c H) (e : ExP p H H') (po : Pot H' p) : RI p a3 a4 d wn hs ls H0 c H' where
  ex := I.ex.trans e
  po := po
  h3 := e _ _ A.p3 I.h3
  h4 := e _ _ A.p4 I.h4
  hd := e _ _ A.pd I.hd
  hl := fun l hl => by
    obtain ⟨xs, h1, h2, h3⟩ := I.hl l hl
    exact ⟨xs, e _ _ (A.lp l hl) h1, h2, fun v hv => (h3 v hv).mono I.po e⟩
theorem RI.ext {H H' : Hp} (A : RA p a3 a4 d ls H0) (I : RI p a3 a4 d wn hs ls H0 c H) (e : Ex H H') : RI p a3 a4 d wn hs ls H0 c H' := I.step A (.of e) (pot_mono e I.po)
theorem rows_app {i7 i9 i5 : Nat} {n : Str} {t : Addr} {ss : List Str} (A : RA p a3 a4 d ls H0) (I : RI p a3 a4 d wn hs ls H0 c H) (nd : wn.Nodup) (lw : ls.length = wn.length) (hn : n ∈ wn) (hc : c ≤ 100) (h5 : σ[i5]? = some (some (.ref d))) (h7 : σ[i7]? = some (some (.str n))) (h9 : σ[i9]? = some (some (.ref t)))
    (ht : H t = some (.tup (SV ss))) (ok : okDeed ss) (k : ∀ H', RI p a3 a4 d wn hs ls H0 (c + 1) H' → Q .non H') : tBM K "list" (rAppend) (tDGet (tVar i5) (tVar i7)) (tCons (tVar i9) tNil) σ H Q := by
  obtain ⟨l, hl, hm⟩ := kvL_get lw hn
  obtain ⟨xs, hx, hxl, hxd⟩ := I.hl l hl
  have g := DGet.k (k := Sum.inr n) I.hd
  rw [valV_mem (kvL_keys nd) hm] at g
  refine ⟨_, h5, _, h7, d, _, rfl, g, .inl ⟨rfl, xs, sq_of hx⟩, _, h9, l, xs, _, rfl, rfl, hx, small_lt (by omega), k _ ?_⟩
  have tl : t ≠ l := ne_of ht hx (by intro z; cases z)
  refine ⟨ExP.udn I.ex (A.l0 l hl), I.po.upd (A.lp l hl), by rw [upd_ne (A.l3 l hl).symm]; exact I.h3, by rw [upd_ne (A.l4 l hl).symm]; exact I.h4, by rw [upd_ne (A.ld l hl).symm]; exact I.hd, fun l' hl' => ?_⟩
  have keep : ∀ v, DeedV H v → DeedV (L2.upd H l (.lst (xs ++ [.ref t]))) v := fun v ⟨t', ss', e, h', ok'⟩ => ⟨t', ss', e, by rw [upd_ne (ne_of h' hx (by intro z; cases z))]; exact h', ok'⟩
  by_cases e : l' = l
  · subst e
    refine ⟨_, upd_same, by simp; omega, fun v hv => ?_⟩
    rcases List.mem_append.mp hv with h | h
    · exact keep v (hxd v h)
    · rw [List.mem_singleton.mp h]
      exact ⟨t, ss, rfl, by rw [upd_ne tl]; exact ht, ok⟩
  · obtain ⟨xs', h1, h2, h3⟩ := I.hl l' hl'
    exact ⟨xs', by rw [upd_ne e]; exact h1, by omega, fun v hv => keep v (h3 v hv)⟩
theorem dget_row {i5 i7 : Nat} {n : Str} {Q : VK} (I : RI p a3 a4 d wn hs ls H0 c H) (nd : wn.Nodup) (lw : ls.length = wn.length) (hn : n ∈ wn) (h5 : σ[i5]? = some (some (.ref d))) (h7 : σ[i7]? = some (some (.str n))) (k : ∀ l ∈ ls, Q (.ref l) H) : tDGet (tVar i5) (tVar i7) σ H Q := by
  obtain ⟨l, hl, hm⟩ := kvL_get lw hn
  have g := DGet.k (k := Sum.inr n) I.hd
  rw [valV_mem (kvL_keys nd) hm] at g
  exact ⟨_, h5, _, h7, d, _, rfl, g, k l hl⟩
theorem deeds_q {xs : List V} (h : ∀ v ∈ xs, DeedV H v) (po : Pot H p) : ∃ ds, DqAll K (del H p) xs ds ∧ GdA (28 * xs.length) 1 ds ∧ ds.length = xs.length := by
  induction xs with
  | nil => exact ⟨[], .nil, ga_nil, rfl⟩
  | cons x xs ih =>
    obtain ⟨ds, h1, h2, h3⟩ := ih fun v hv => h v (by simp [hv])
    obtain ⟨t, ss, rfl, ht, hl, hz⟩ := h x (by simp)
    have tp : t ≠ p := by
      obtain ⟨_, _, hp, _⟩ := po
      exact ne_of ht hp (by intro z; cases z)
    have q : ∀ l : List Str, DqAll K (del H p) (SV l) (l.map PyData.str) := fun l => by
      induction l with
      | nil => exact .nil
      | cons a l ih => exact .cons (.str a) ih
    have g : ∀ l : List Str, (∀ z ∈ l, okS z ∧ z.length ≤ 8) → GdA (9 * l.length) 0 (l.map PyData.str) := fun l => by
      induction l with
      | nil => intro _; exact ga_nil
      | cons a l ih =>
        intro hz
        obtain ⟨o, lz⟩ := hz a (by simp)
        exact (ga_cons (gd_str (k := 0) o) (ih fun z hz' => hz z (by simp [hz']))).mono (by simp only [List.length_cons]; omega) (Nat.le_refl _)
    refine ⟨.tuple (ss.map PyData.str) :: ds, .cons (.tup (by rw [del_ne tp]; exact ht) (q ss)) h1, ?_, by simp [h3]⟩
    exact (ga_cons (gd_tup.mpr (g ss hz)) h2).mono (by simp only [List.length_cons]; omega) (Nat.le_refl _)
end
end W81
namespace W81
open PySem PySem.Spec PyProof.Rows L2 LiI WB
open Evl hiding Ex
local macro_rules | `(tactic| walk_at "o") => `(tactic| dsimp only [tSeq, tIfS, tNext, tRet, tRetN, tDrop, tAsg, gName, tNever])
section
variable {K : Fr} {mg : Str → Option Value} {vs : List V} {H : Hp} {Q : VK} {E : XK} {σ : L2.St} {tl te ta tb : TE} {p : Addr}
theorem mapOk_all {x : Addr} {hs : List Str} {ws : List (Str × Str)} (m : MapOk K H x hs ws) : (∀ n ∈ ws.map (·.1), isName n = true) ∧ (∀ h ∈ hs, isName h = true) ∧ (ws.map (·.1)).Nodup ∧ 1 ≤ (ws.map (·.1)).length ∧ (ws.map (·.1)).length ≤ 5 ∧ 1 ≤ hs.length ∧ hs.length ≤ 6 := by
  obtain ⟨_, rows, ok, rfl⟩ := m
  obtain ⟨h1, h2, h3, h4, h5, h6, h7, h8⟩ := okMap_of ok
  rw [pairs_fst]
  refine ⟨fun n hn => ?_, h1, (List.nodup_append.mp h6).2.1, by rw [List.length_map]; omega, by rw [List.length_map]; omega, by omega, by omega⟩
  obtain ⟨r, hr, rfl⟩ := List.mem_map.mp hn
  obtain ⟨n, m, rfl, a1, a2⟩ := h5 r hr
  exact a1
theorem w_num {i : Nat} (h : i < 6) : okS (("w" : Str) ++ (toString (i : Int) : Str)) ∧ (("w" : Str) ++ (toString (i : Int) : Str)).length ≤ 8 := by
  have key : ∀ z : Str, (z.cps.toList.all fun c => decide (c < 16 ^ 8)) = true → okS z := fun z hz c hc => of_decide_eq_true (List.all_eq_true.mp hz c hc)
  obtain rfl | rfl | rfl | rfl | rfl | rfl : i = 0 ∨ i = 1 ∨ i = 2 ∨ i = 3 ∨ i = 4 ∨ i = 5 := by omega
  all_goals exact ⟨key _ (by decide +kernel), by decide +kernel⟩
theorem pairs_of {H2 H3 : Hp} : ∀ {wn : List Str} {ys : List V}, Paired (fun x y => ∀ n, x = V.str n → ∃ t l, y = V.ref t ∧ H2 l = none ∧ H3 t = some (.tup [.str n, .ref l]) ∧ H3 l = some (.lst [])) (SV wn) ys →
    ∃ ts ls : List Addr, ys = ts.map V.ref ∧ ls.length = wn.length ∧ Paired (fun q kv => SqT K H3 q [kV kv.1, kv.2]) ts (kvL wn ls) ∧ ∀ l ∈ ls, H2 l = none ∧ H3 l = some (.lst [])
  | [], _, .nil => ⟨[], [], rfl, rfl, .nil, fun _ h => by cases h⟩
  | n :: wn, _, .cons h t => by
    obtain ⟨ts, ls, rfl, h1, h2, h3⟩ := pairs_of t
    obtain ⟨t0, l0, rfl, a1, a2, a3⟩ := h n rfl
    refine ⟨t0 :: ts, l0 :: ls, rfl, by simp [h1], .cons (st_of a2) h2, fun l hl => ?_⟩
    rcases List.mem_cons.mp hl with e | hl
    · rw [e]; exact ⟨a1, a3⟩
    · exact h3 l hl
theorem rows_data {a3 a4 d : Addr} {wn hs : List Str} {ls : List Addr} {H0 : Hp} {c : Nat} (A : RA p a3 a4 d ls H0) (I : RI p a3 a4 d wn hs ls H0 c H) (hn : ∀ n ∈ wn, isName n = true) (hc : c ≤ 6) : ∀ {zs : List (Str × Addr)} {ps : List Addr}, Paired (fun q z => H q = some (.tup [.str z.1, .ref z.2])) ps zs → (∀ z ∈ zs, z.1 ∈ wn ∧ z.2 ∈ ls) →
    ∃ rs : List (Str × List PyData), DqAll K (del H p) (ps.map V.ref) (rs.map rowD) ∧ GdA (180 * zs.length) 4 (rs.map rowD)
  | [], _, .nil, _ => ⟨[], .nil, ga_nil⟩
  | z :: zs, q :: ps, .cons h t, hz => by
    obtain ⟨rs, h1, h2⟩ := rows_data A I hn hc t fun z hz' => hz z (by simp [hz'])
    obtain ⟨z1, z2⟩ := hz z (by simp)
    obtain ⟨xs, hx, hxl, hxd⟩ := I.hl z.2 z2
    obtain ⟨ds, q1, q2, q3⟩ := deeds_q (K := K) hxd I.po
    have qp : q ≠ p := by
      obtain ⟨_, _, hp, _⟩ := I.po
      exact ne_of h hp (by intro z; cases z)
    refine ⟨(z.1, ds) :: rs, .cons (.tup (by rw [del_ne qp]; exact h) (.cons (.str _) (.cons (.lst (by rw [del_ne (A.lp _ z2)]; exact hx) q1) .nil))) h1, ?_⟩
    have gl : Gd (28 * xs.length) 2 (.list ds) := gd_list.mpr q2
    have gr : Gd 179 3 (rowD (z.1, ds)) := gd_row (k := 2) (gd_name (hn _ z1)) gl (by omega)
    exact (ga_cons (gr.mono (Nat.le_refl _) (by omega)) h2).mono (by simp only [List.length_cons]; omega) (Nat.le_refl _)
end
end W81
namespace W81
open PySem PySem.Spec PyProof.Rows L2 LiI WB
open Evl hiding Ex
local macro_rules | `(tactic| walk_at "o") => `(tactic| dsimp only [tSeq, tIfS, tNext, tRet, tRetN, tDrop, tAsg, gName, tNever])
section
variable {K : Fr} {mg : Str → Option Value} {vs : List V} {H : Hp} {Q : VK} {E : XK} {σ : L2.St} {tl te ta tb : TE} {p : Addr}
theorem RI.upd_ {a3 a4 d : Addr} {wn hs : List Str} {ls : List Addr} {H0 : Hp} {c : Nat} {q : Addr} {xs : List V} {o : HO} (I : RI p a3 a4 d wn hs ls H0 c H) (hq : H q = some (.lst xs)) (h0 : H0 q = none) (np : q ≠ p) (n3 : a3 ≠ q) (n4 : a4 ≠ q) (ndd : d ≠ q) (nl : ∀ l ∈ ls, l ≠ q) : RI p a3 a4 d wn hs ls H0 c (L2.upd H q o) := by
  refine ⟨ExP.udn I.ex h0, I.po.upd np, by rw [upd_ne n3]; exact I.h3, by rw [upd_ne n4]; exact I.h4, by rw [upd_ne ndd]; exact I.hd, fun l hl => ?_⟩
  obtain ⟨ys, h1, h2, h3⟩ := I.hl l hl
  exact ⟨ys, by rw [upd_ne (nl l hl)]; exact h1, h2, fun v hv => by
    obtain ⟨t, ss, e, ht, ok⟩ := h3 v hv
    exact ⟨t, ss, e, by rw [upd_ne (ne_of ht hq (by intro z; cases z))]; exact ht, ok⟩⟩
theorem pure_l_rows (T : Tx K mg) (h : sp_l_rows K vs H Q E) : t_l_rows K { nx := fun _ H' => Q .non H', rt := Q } (start N_l_rows vs) H := by
  obtain ⟨p, x, most, hs, ws, rfl, po, m, m1, m6, k⟩ := h
  obtain ⟨nw, nh, nd, w1, w5, h1, h6⟩ := mapOk_all m
  unfold t_l_rows; walk_at "o"
  refine cons_ ?_
  refine el_walkers T (ev_var rfl) m.1 H (Evl.Ex.refl _) _ fun a3 H1 ha3 x1 g3 => ?_
  refine cons_ ?_
  refine el_hosts T (ev_var rfl) (m.1.mono x1) H1 (Evl.Ex.refl _) _ fun a4 H2 ha4 x2 g4 => ?_
  refine ⟨_, _, rfl, ?_⟩
  walk_at "o"
  generalize hwn : ws.map (·.1) = wn at nw nd w1 w5 g3
  have x12 := x1.trans x2
  have po2 := pot_mono x12 po
  have g3' := x2 _ _ g3
  have p3 := po.ne ha3
  have p4 := (pot_mono x1 po).ne ha4
  have lS : (SV wn).length = wn.length := List.length_map _
  have lh : (SV hs).length = hs.length := List.length_map _
  refine cb1 ?_
  refine lc_listV (K := K) (xs := SV wn) (keep := fun _ => true) (R := fun x y H' => ∀ n, x = V.str n → ∃ t l, y = V.ref t ∧ H2 l = none ∧ H' t = some (.tup [.str n, .ref l]) ∧ H' l = some (.lst [])) (ev_var rfl) (sq_of g3') (by omega) (fun _ => rfl) (fun D H3 hD e3 hacc x hx => ?_) fun D ys H3 hD e3 hys hpr => ?_
  · obtain ⟨n, hn, rfl⟩ := List.mem_map.mp hx
    intro kk ky q1 q2
    refine et_yes H3 (Evl.Ex.refl _) _ fun H4 e4 => iteB (fun _ => ?_) fun h => by cases h
    obtain ⟨acc, hac⟩ := hacc
    refine ⟨_, rfl, ?_⟩
    refine cons_ ?_
    refine el_lst ea_nil (by decide) H4 (Evl.Ex.refl _) _ fun l H5 hl e5 g5 => ?_
    refine ⟨by show 2 ≤ _; rw [sizeLine_eq]; decide, fun t ht => ?_⟩
    refine q2 rfl _ _ ((e4.trans e5).trans (Evl.Ex.new ht)) fun H6 e6 n' en => ?_
    obtain rfl : n = n' := V.str.inj en
    have tl := ne_of_none g5 ht
    refine ⟨t, l, rfl, fresh_back (e3.trans e4) hl, e6 _ _ (Ne.symm (ex_ne hac (e4.trans e5) ht)) upd_same, e6 _ _ (Ne.symm (ex_ne hac e4 hl)) (by rw [upd_ne tl]; exact g5)⟩
  · have fs : (SV wn).filter (fun _ => true) = SV wn := List.filter_eq_self.mpr fun _ _ => rfl
    rw [fs] at hpr
    obtain ⟨ts, ls, rfl, ll, hts, hls⟩ := pairs_of hpr
    refine ⟨D, ts, kvL wn ls, rfl, sq_of hys, hts, fun d hd => ?_⟩
    rw [mergeK_nil (kvL_keys nd)]
    have x3 : Ex H H3 := x12.trans e3
    have A : RA p a3 a4 d ls H2 := by
      obtain ⟨_, _, hp2, _⟩ := id po2
      refine ⟨p3, p4, (pot_mono e3 po2).ne hd, fun l hl => ?_, fun l hl => ?_, fun l hl => ?_, fun l hl => ?_, fun l hl => (hls l hl).1⟩
      · exact (ne_of_none hp2 (hls l hl).1).symm
      · exact (ne_of_none g3' (hls l hl).1).symm
      · exact (ne_of_none g4 (hls l hl).1).symm
      · exact ne_of_none (hls l hl).2 hd
    have I0 : RI p a3 a4 d wn hs ls H2 0 (L2.upd H3 d (.dK (kvL wn ls))) := by
      have e4 : Ex H3 (L2.upd H3 d (.dK (kvL wn ls))) := Evl.Ex.new hd
      exact ⟨.of (e3.trans e4), pot_mono (e3.trans e4) po2, e4 _ _ (e3 _ _ g3'), e4 _ _ (e3 _ _ g4), upd_same, fun l hl => ⟨[], e4 _ _ (hls l hl).2, Nat.le_refl _, fun _ h => by cases h⟩⟩
    generalize (L2.upd H3 d (.dK (kvL wn ls))) = H4 at I0 ⊢
    have exH : ∀ {H'}, ExP p H2 H' → ExP p H H' := fun e => (ExP.of x12).trans e
    refine for_rng1 (cons_ (opc_ ?_))
    refine digit_ rfl I0.po (ev_var rfl) (by omega) (by omega) fun dd H5 d0 d1 e5 po5 => .inl ⟨1, dd, rfl, rfl, 1 + dd, rfl, by omega, by omega, ?_⟩
    have I1 := I0.step A e5 po5
    refine for_seq (seq_rng (lo := 0) (n := (1 + dd).toNat)) (fun i σ' H' => ∃ v6 v7 v8 v9, σ' = [some (.ref p), some (.ref x), some (.int most), some (.ref a3), some (.ref a4), some (.ref d), v6, v7, v8, v9, none, none] ∧ RI p a3 a4 d wn hs ls H2 i H') ⟨none, none, none, none, rfl, I1⟩ (fun _ _ _ _ _ => trivial) ?_ ?_
    · rintro i y σ' H6 hy ⟨v6, v7, v8, v9, rfl, I6⟩
      obtain ⟨hi, rfl⟩ := ints_at hy
      have hi6 : i < 6 := by omega
      walk_at "o"
      refine cons_ (op_ ?_)
      refine ⟨_, rfl, ?_⟩
      refine digit_ rfl I6.po (ev_lenL (ev_var rfl) (sq_of I6.h3)) (by omega) (by omega) fun c1 H7 c10 c11 e7 po7 => ?_
      have I7 := I6.step A e7 po7
      obtain ⟨n1, rfl⟩ := Int.eq_ofNat_of_zero_le c10
      have hn1 : n1 < wn.length := by omega
      refine .inl ⟨a3, _, n1, .str wn[n1], rfl, rfl, sq_of I7.h3, atI_nat (by rw [List.getElem?_map, List.getElem?_eq_getElem hn1]; rfl), ?_⟩
      refine cons_ (op_ ?_)
      refine ⟨_, rfl, ?_⟩
      refine digit_ rfl I7.po (ev_lenL (ev_var rfl) (sq_of I7.h3)) (by omega) (by omega) fun c2 H8 c20 c21 e8 po8 => ?_
      have I8 := I7.step A e8 po8
      obtain ⟨n2, rfl⟩ := Int.eq_ofNat_of_zero_le c20
      have hn2 : n2 < wn.length := by omega
      refine .inl ⟨a3, _, n2, .str wn[n2], rfl, rfl, sq_of I8.h3, atI_nat (by rw [List.getElem?_map, List.getElem?_eq_getElem hn2]; rfl), ?_⟩
      refine ⟨_, _, rfl, ?_⟩
      walk_at "o"
      obtain ⟨wok, wlen⟩ := w_num hi6
      have cl : ∀ z : Str, (z.cps.toList.all fun c => decide (c < 16 ^ 8)) = true → okS z := fun z hz c hc => of_decide_eq_true (List.all_eq_true.mp hz c hc)
      refine eu_tup (vs := SV ["write", wn[n2], ("w" : Str) ++ (toString (i : Int) : Str)]) (ea_cons ev_c (ea_cons (ev_var rfl) (ea_cons (ev_addS (i := "w") (j := toString (i : Int)) ev_c (ev_strI (ev_var rfl) (by omega)) (by rw [← Str.length_append]; omega)) ea_nil))) (by show 3 ≤ _; decide) H8 (Evl.Ex.refl _) _ fun t1 H9 ht1 e9 g9 => ?_
      have I9 := I8.ext A e9
      have ok1 : okDeed ["write", wn[n2], ("w" : Str) ++ (toString (i : Int) : Str)] := by
        refine ⟨by simp, fun z hz => ?_⟩
        simp only [List.mem_cons, List.not_mem_nil, or_false] at hz
        rcases hz with rfl | rfl | rfl
        · exact ⟨cl _ (by decide +kernel), by decide +kernel⟩
        · exact ⟨ok_name (nw _ (List.getElem_mem hn2)), isName_len (nw _ (List.getElem_mem hn2))⟩
        · exact ⟨wok, wlen⟩
      refine test_ (op_ ?_)
      refine digit_ rfl I9.po ev_c (by decide) (by decide) fun c3 H10 _ _ e10 po10 => .inl ⟨rfl, _, rfl, iteB (fun hb => ?_) (fun hb => ?_)⟩
      · have I10 := I9.step A e10 po10
        refine cons_ ?_
        refine c_ ?_
        refine cons_ (op_ ?_)
        refine ⟨_, rfl, ?_⟩
        refine digit_ rfl I10.po (ev_lenL (ev_var rfl) (sq_of I10.h4)) (by omega) (by omega) fun c4 H11 c40 c41 e11 po11 => ?_
        have I11 := I10.step A e11 po11
        obtain ⟨n4, rfl⟩ := Int.eq_ofNat_of_zero_le c40
        have hn4 : n4 < hs.length := by omega
        refine .inl ⟨a4, _, n4, .str hs[n4], rfl, rfl, sq_of I11.h4, atI_nat (by rw [List.getElem?_map, List.getElem?_eq_getElem hn4]; rfl), ?_⟩
        refine ⟨by show 2 ≤ _; rw [sizeLine_eq]; decide, fun t2 ht2 => ?_⟩
        have I12 : RI p a3 a4 d wn hs ls H2 i (L2.upd H11 t2 (.tup [.str "walk", .str hs[n4]])) := I11.ext A (Evl.Ex.new ht2)
        have ok2 : okDeed ["walk", hs[n4]] := by
          refine ⟨by simp, fun z hz => ?_⟩
          simp only [List.mem_cons, List.not_mem_nil, or_false] at hz
          rcases hz with rfl | rfl
          · exact ⟨cl _ (by decide +kernel), by decide +kernel⟩
          · exact ⟨ok_name (nh _ (List.getElem_mem hn4)), isName_len (nh _ (List.getElem_mem hn4))⟩
        exact rows_app A I12 nd ll (List.getElem_mem hn1) (by omega) rfl rfl rfl (ss := ["walk", hs[n4]]) upd_same ok2 fun H' I' => ⟨_, _, _, _, rfl, I'⟩
      · have I10 := I9.step A e10 po10
        have tp : t1 ≠ p := po8.ne ht1
        exact rows_app A I10 nd ll (List.getElem_mem hn1) (by omega) rfl rfl rfl (e10 _ _ tp g9) ok1 fun H' I' => ⟨_, _, _, _, rfl, I'⟩
    · rintro σ' H6 ⟨v6, v7, v8, v9, rfl, I6⟩
      rw [ints_len] at I6
      have hc6 : (1 + dd).toNat ≤ 6 := by omega
      generalize hc : (1 + dd).toNat = c at I6 hc6
      walk_at "o"
      refine el_listSq (ev_var rfl) (sq_of I6.h3) H6 (Evl.Ex.refl _) _ fun a10 H7 ha10 e7 g7 => ?_
      have I7 := I6.ext A e7
      have p10 := I6.po.ne ha10
      refine lc_list_ ?_
      refine ⟨_, rfl, a3, rfl, ⟨_, sq_of I7.h3⟩, fun D2 hD2 => ?_⟩
      have pD2 := I7.po.ne hD2
      have n10D : a10 ≠ D2 := ne_of_none g7 hD2
      have l10 : ∀ l ∈ ls, l ≠ a10 := fun l hl => by
        obtain ⟨xs, hx, _⟩ := I6.hl l hl
        exact ne_of_none hx ha10
      have lD2 : ∀ l ∈ ls, l ≠ D2 := fun l hl => by
        obtain ⟨xs, hx, _⟩ := I7.hl l hl
        exact ne_of_none hx hD2
      have n310 : a3 ≠ a10 := ne_of_none I6.h3 ha10
      have n410 : a4 ≠ a10 := ne_of_none I6.h4 ha10
      have nd10 : d ≠ a10 := ne_of_none I6.hd ha10
      have n3D : a3 ≠ D2 := ne_of_none I7.h3 hD2
      have n4D : a4 ≠ D2 := ne_of_none I7.h4 hD2
      have ndD : d ≠ D2 := ne_of_none I7.hd hD2
      have fr2 : ∀ {q : Addr} {H' : Hp}, ExP p H2 H' → q ≠ p → H' q = none → H2 q = none := fun {q H'} e nq hq => by
        cases hh : H2 q with
        | none => rfl
        | some o => rw [e _ _ nq hh] at hq; cases hq
      have z10 : H2 a10 = none := fr2 I6.ex p10 ha10
      have zD2 : H2 D2 = none := fr2 I7.ex pD2 hD2
      refine lc_seq (seq_list (K := K) (a := a3) (xs := SV wn)) (fun i H' => RI p a3 a4 d wn hs ls H2 c H' ∧ ∃ lf ord : List Str, H' a10 = some (.lst (SV lf)) ∧ lf.length + i = wn.length ∧ (∀ z ∈ lf, z ∈ wn) ∧ H' D2 = some (.lst (SV ord)) ∧ ord.length = i ∧ ∀ z ∈ ord, z ∈ wn)
        ⟨I7.ext A (Evl.Ex.new hD2), wn, [], by rw [upd_ne n10D]; exact g7, rfl, fun _ h => h, upd_same, rfl, fun _ h => by cases h⟩ (fun i H' _ h => sq_of h.1.h3) ?_ ?_
      · rintro i y H8 hy ⟨I8, lf, ord, h10, ll10, lfw, hD8, lord, ordw⟩
        have hi : i < wn.length := by
          have := (List.getElem?_eq_some_iff.mp hy).1
          omega
        refine ⟨rfl, ?_⟩
        refine et_yes H8 (Evl.Ex.refl _) _ fun H9 e9 => iteB (fun _ => ?_) fun h => by cases h
        have I9 := I8.ext A e9
        have h109 := e9 _ _ h10
        have hD9 := e9 _ _ hD8
        refine ⟨_, rfl, .inl ⟨rfl, _, sq_of h109⟩, ?_⟩
        refine cons_ ?_
        refine digit_ rfl I9.po (ev_lenL (ev_var rfl) (sq_of h109)) (by rw [List.length_map]; omega) (by rw [List.length_map]; omega) fun c1 H10 c10 c11 e10 po10 => ?_
        rw [List.length_map] at c11
        have I10 := I9.step A e10 po10
        obtain ⟨n1, rfl⟩ := Int.eq_ofNat_of_zero_le c10
        have hn1 : n1 < lf.length := by omega
        obtain ⟨j, sj, gj, hj, _⟩ := atI_get (atI_nat (xs := SV lf) (j := n1) (v := .str lf[n1]) (by rw [List.getElem?_map, List.getElem?_eq_getElem hn1]; rfl))
        obtain ⟨s, hs', es⟩ := sv_at gj
        have h1010 := e10 _ _ p10 h109
        have hD10 := e10 _ _ pD2 hD9
        refine ⟨a10, _, _, j, _, rfl, rfl, h1010, by omega, by omega, sj, gj, ?_⟩
        have I11 : RI p a3 a4 d wn hs ls H2 c (L2.upd H10 a10 (.lst ((SV lf).eraseIdx j))) := I10.upd_ h1010 z10 p10 n310 n410 nd10 l10
        have hD11 : (L2.upd H10 a10 (.lst ((SV lf).eraseIdx j))) D2 = some (.lst (SV ord)) := by rw [upd_ne (Ne.symm n10D)]; exact hD10
        have hjl : j < lf.length := (List.getElem?_eq_some_iff.mp hs').1
        refine ⟨_, hD11, small_lt (by rw [List.length_map]; omega), I11.upd_ hD11 zD2 pD2 n3D n4D ndD lD2, lf.eraseIdx j, ord ++ [s], by rw [upd_ne n10D, upd_same, map_erase], by rw [List.length_eraseIdx_of_lt hjl]; omega, fun z hz => lfw z (List.mem_of_mem_eraseIdx hz), by rw [upd_same, SV_app, es]; rfl, by simp [lord], fun z hz => ?_⟩
        rcases List.mem_append.mp hz with h | h
        · exact ordw z h
        · rw [List.mem_singleton.mp h]; exact lfw s (List.mem_of_getElem? hs')
      · rintro H8 ⟨I8, lf, ord, h10, ll10, lfw, hD8, lord, ordw⟩
        refine lc_list_ ?_
        refine ⟨_, rfl, D2, rfl, ⟨_, sq_of hD8⟩, fun D3 hD3 => ?_⟩
        have pD3 := I8.po.ne hD3
        have zD3 : H2 D3 = none := fr2 I8.ex pD3 hD3
        have n3D3 : a3 ≠ D3 := ne_of_none I8.h3 hD3
        have n4D3 : a4 ≠ D3 := ne_of_none I8.h4 hD3
        have ndD3 : d ≠ D3 := ne_of_none I8.hd hD3
        have n23 : D2 ≠ D3 := ne_of_none hD8 hD3
        have lD3 : ∀ l ∈ ls, l ≠ D3 := fun l hl => by
          obtain ⟨xs, hx, _⟩ := I8.hl l hl
          exact ne_of_none hx hD3
        let Pv : Nat → Hp → Prop := fun i H' => RI p a3 a4 d wn hs ls H2 c H' ∧ H' D2 = some (.lst (SV ord)) ∧ ∃ (ps : List Addr) (zs : List (Str × Addr)), H' D3 = some (.lst (ps.map V.ref)) ∧ Paired (fun q z => H' q = some (.tup [.str z.1, .ref z.2])) ps zs ∧ zs.length ≤ i ∧ ∀ z ∈ zs, z.1 ∈ wn ∧ z.2 ∈ ls
        have PvP : ∀ {i H' H''}, Pv i H' → ExP p H' H'' → Pot H'' p → Pv i H'' := fun {i H' H''} ⟨I, h2, ps, zs, h3, hp, hl, hz⟩ e po => by
          obtain ⟨_, _, hpp, _⟩ := I.po
          exact ⟨I.step A e po, e _ _ pD2 h2, ps, zs, e _ _ pD3 h3, L2.Paired.mapP hp fun q z h => e _ _ (ne_of h hpp (by intro z; cases z)) h, hl, hz⟩
        have PvE : ∀ {i H' H''}, Pv i H' → Ex H' H'' → Pv i H'' := fun h e => PvP h (.of e) (pot_mono e h.1.po)
        have PvS : ∀ {i H'}, Pv i H' → Pv (i + 1) H' := fun ⟨I, h2, ps, zs, h3, hp, hl, hz⟩ => ⟨I, h2, ps, zs, h3, hp, by omega, hz⟩
        have elem : ∀ {i : Nat} {n : Str} {σ : L2.St} {H' : Hp}, Pv i H' → i < 5 → n ∈ wn → σ[7]? = some (some (.str n)) → σ[5]? = some (some (.ref d)) → tTup (tCons (tVar 7) (tCons (tDGet (tVar 5) (tVar 7)) tNil)) σ H' fun y H4 => ∃ acc, H4 D3 = some (.lst acc) ∧ acc.length < sizeLine ∧ Pv (i + 1) (L2.upd H4 D3 (.lst (acc ++ [y]))) := by
          intro i n σ H' hP hi hn h7 h5
          refine ⟨_, h7, ?_⟩
          refine cons_ ?_
          refine dget_row hP.1 nd ll hn h5 h7 fun l hl => ?_
          refine ⟨by show 2 ≤ _; rw [sizeLine_eq]; decide, fun t ht => ?_⟩
          have hP2 := PvE hP (Evl.Ex.new (o := .tup [.str n, .ref l]) ht)
          obtain ⟨I, h2, ps, zs, h3, hp, hl', hz⟩ := hP2
          have ht2 : (L2.upd H' t (.tup [.str n, .ref l])) t = some (.tup [.str n, .ref l]) := upd_same
          have tD3 : t ≠ D3 := ne_of ht2 h3 (by intro z; cases z)
          refine ⟨_, h3, small_lt (by rw [List.length_map, hp.length]; omega), I.upd_ h3 zD3 pD3 n3D3 n4D3 ndD3 lD3, by rw [upd_ne n23]; exact h2, ps ++ [t], zs ++ [(n, l)], by rw [upd_same, List.map_append]; rfl, ?_, by simp; omega, fun z hz' => ?_⟩
          · refine Paired.snoc (L2.Paired.mapP hp fun q z h => ?_) ?_
            · rw [upd_ne (ne_of h h3 (by intro z; cases z))]; exact h
            · rw [upd_ne tD3]; exact ht2
          · rcases List.mem_append.mp hz' with h | h
            · exact hz z h
            · rw [List.mem_singleton.mp h]; exact ⟨hn, hl⟩
        refine lc_seq (seq_list (K := K) (a := D2) (xs := SV ord)) Pv ⟨I8.ext A (Evl.Ex.new hD3), by rw [upd_ne n23]; exact hD8, [], [], upd_same, .nil, Nat.zero_le _, fun _ h => by cases h⟩ (fun i H' _ h => sq_of h.2.1) ?_ ?_
        · rintro i y H9 hy hP9
          obtain ⟨n, hni, rfl⟩ := sv_at hy
          have hn : n ∈ wn := ordw n (List.mem_of_getElem? hni)
          have hi : i < 5 := by
            have := (List.getElem?_eq_some_iff.mp hni).1
            omega
          refine ⟨rfl, ?_⟩
          refine test_ (op_ ?_)
          refine dget_row hP9.1 nd ll hn rfl rfl fun l hl => ?_
          obtain ⟨xs, hx, _⟩ := hP9.1.hl l hl
          refine el_lst ea_nil (by decide) H9 (Evl.Ex.refl _) _ fun q H10 hq e10 g10 => ?_
          have hP10 := PvE hP9 e10
          refine ⟨l, q, xs, rfl, rfl, sq_of (e10 _ _ hx), sq_of g10, _, rfl, iteB (fun _ => ite_t rfl (elem hP10 hi hn rfl rfl)) fun _ => ?_⟩
          refine test_ (op_ ?_)
          refine digit_ rfl hP10.1.po ev_c (by decide) (by decide) fun c3 H11 _ _ e11 po11 => .inl ⟨rfl, _, rfl, iteB (fun hb => ?_) (fun hb => ?_)⟩
          · exact elem (PvP hP10 e11 po11) hi hn rfl rfl
          · exact PvS (PvP hP10 e11 po11)
        · rintro H9 ⟨I9, h2, ps, zs, h3, hp, hl, hz⟩
          rw [List.length_map] at hl
          obtain ⟨rs, q1, q2⟩ := rows_data (K := K) A I9 nw hc6 hp hz
          exact k D3 rs H9 (.lst (by rw [del_ne pD3]; exact h3) q1) ((gd_list.mpr q2).mono (by omega) (by omega)) (exH I9.ex) I9.po
end
end W81
namespace W81
open PySem PySem.Spec PyProof.Rows L2 LiI WB
open Evl hiding Ex
local macro_rules | `(tactic| walk_at "o") => `(tactic| dsimp only [tSeq, tIfS, tNext, tRet, tRetN, tDrop, tAsg, gName, tNever])
theorem rowsBad_rows {hs wn : List Str} : ∀ {ds : List PyData} {k : Nat} {taken : List Str}, rowsBad hs wn k taken ds = none → ∃ rs : List (Str × List PyData), ds = rs.map rowD
  | [], _, _, _ => ⟨[], rfl⟩
  | d :: ds, k, taken, h => by
    cases hb : rowBad hs wn k taken d with
    | some w => rw [rowsBad_stop hb] at h; cases h
    | none =>
      rw [rowsBad_step hb] at h
      obtain ⟨rs, rfl⟩ := rowsBad_rows h
      obtain ⟨n, dl, rfl, _⟩ := rowBad_none hb
      exact ⟨(n, dl) :: rs, rfl⟩
theorem planBad_rows {hs wn : List Str} {d : PyData} (h : planBad hs wn d = none) : ∃ rs, d = rowsD rs := by
  cases d with
  | list ds =>
    obtain ⟨rs, rfl⟩ := rowsBad_rows h
    exact ⟨rs, rfl⟩
  | _ => cases h
def rowLen : PyData → Int
  | .tuple [_, .list ds] => (ds.length : Int)
  | _ => 0
theorem sum_len (rs : List (Str × List PyData)) : (rs.map fun r => (r.2.length : Int)).sum = (lenD rs : Nat) := by
  unfold lenD
  induction rs with
  | nil => rfl
  | cons r rs ih =>
    rw [List.map_cons, List.sum_cons, List.map_cons, List.sum_cons, ih]
    omega
section
variable {K : Fr} {mg : Str → Option Value} {vs : List V} {H : Hp} {Q : VK} {E : XK} {σ : L2.St} {tl te ta tb : TE} {p : Addr}
theorem repr_ {i : Nat} {v : V} {d : PyData} {Q : VK} (hv : σ[i]? = some (some v)) (hd : Dq K H v d) (g : Gd 50000 20 d) (k : Q (.str d.shown) H) : tCB (rReprQ K) (tCons (tVar i) tNil) σ H Q :=
  cb1 ⟨_, hv, v, d, rfl, hd, g.2.1, PyData.shown_fits (B := 13) (by decide) (by decide) g.1 (by have := g.2.2.1; omega), by have := g.2.2.2; omega, k⟩
theorem pure_l_right (T : Tx K mg) (h : sp_l_right K vs H Q E) : t_l_right K { nx := fun _ H' => Q .non H', rt := Q } (start N_l_right vs) H := by
  obtain ⟨x, v, d, hs, ws, rfl, m, hd, g, k⟩ := h
  unfold t_l_right; walk_at "o"
  have hw : d.weight ≤ 50000 := g.2.2.1
  refine cons_ ?_
  refine ⟨_, rfl, _, rfl, v, d, x, hs, ws, rfl, hd, hw, m.1, fun H1 e1 => ?_⟩
  refine cons_ ?_
  refine repr_ rfl (hd.mono e1) g ?_
  refine ⟨_, _, rfl, ?_⟩
  walk_at "o"
  refine c_ ?_
  refine cons_ ?_
  refine ⟨_, rfl, _, rfl, fun px dx hpx hdx nx => ?_⟩
  have e2 : Ex H1 (upd (upd H1 dx (.own px)) px (.ins (He.ga K "Plan") dx [])) := (Evl.Ex.new hdx).trans (Evl.Ex.new (by rw [upd_ne (Ne.symm nx)]; exact hpx))
  have e12 := e1.trans e2
  refine ⟨px, dx, x, v, d, hs, ws, rfl, upd_same, m.1.mono e12, hd.mono e12, hw, fun hnone H2 PA e3 => ⟨rfl, ?_⟩, fun w hsome dd H2 e3 hdd => ?_⟩
  · have e13 : Ex H1 H2 := (ExP.trans (ExP.of e2) e3).ex hpx
    have e03 := e1.trans e13
    obtain ⟨rs, rfl⟩ := planBad_rows hnone
    rw [hnone]
    refine ⟨.non, rfl, rfl, _, rfl, ite_f rfl ⟨_, rfl, ?_⟩⟩
    refine test_ (op_ (repr_ rfl (hd.mono e03) g ⟨_, rfl, .inl ⟨rfl, _, rfl, ite_f (by rw [decide_eq_true rfl]; rfl) ?_⟩⟩))
    refine ⟨.non, rfl, rfl, _, rfl, ite_f rfl ?_⟩
    obtain ⟨dxp, lp, hins, hdl⟩ := id PA
    refine et_B (ev_isi (ev_var rfl) ev_c (.ty "str") (fun _ e => .base (.ins (e _ _ hins) T.c_Plan T.w_Plan.ha T.w_Plan.hn T.w_Plan.ht T.w_Plan.hm)) T.q_Plan_str) H2 (Evl.Ex.refl _) _ fun H3 e4 => iteF ?_
    have PA3 := PA.mono e4
    have hins3 := e4 _ _ hins
    refine test_ (op_ (cb1 ?_))
    refine ⟨_, rfl, px, dxp, _, rfl, hins3, planF_no (by decide +kernel) (by decide +kernel), px, x, rs, rfl, PA3, hw, fun q H4 e5 q5 => ?_⟩
    refine ⟨_, _, rfl, q5, g.2.1, PyData.shown_fits (B := 13) (by decide) (by decide) g.1 (by omega), by have := g.2.2.2; omega, ?_⟩
    refine ⟨_, rfl, .inl ⟨rfl, _, rfl, ite_f (by rw [decide_eq_true rfl]; rfl) ?_⟩⟩
    have e24 := e4.trans e5
    have m4 := m.1.mono (e03.trans e24)
    refine not_ (test_ (op_ ?_))
    refine ⟨_, rfl, px, dxp, _, rfl, e24 _ _ hins, planF_no (by decide +kernel) (by decide +kernel), px, x, rowsD rs, rfl, PA.mono e24, fun H5 e6 => ?_⟩
    obtain ⟨dm, lm, bm, hm5, hl5, hb5⟩ := m4.mono e6
    obtain ⟨_, rows, ok, rfl⟩ := m
    refine ⟨_, rfl, ⟨x, x, dm, dm, _, _, rfl, rfl, hm5, hm5, hs, pairs rows, ⟨dm, lm, bm, hm5, hl5, hb5⟩, ⟨dm, lm, bm, hm5, hl5, hb5⟩, okMap_sound ok⟩, fun H6 e7 => ⟨_, rfl, iteF ?_⟩⟩
    have e26 : Ex H2 H6 := (e24.trans e6).trans e7
    refine op_ (cb1 ?_)
    have hle := lenD_le rs
    have hw' : PyData.weightAll (rs.map rowD) ≤ 50000 := by
      have := hw
      unfold rowsD at this
      rw [wt_list] at this
      exact this
    refine ⟨_, rfl, px, dxp, _, rfl, e26 _ _ hins, px, x, rs, rfl, PA.mono e26, hw, fun H7 e8 => ⟨(lenD rs : Nat), rfl, by omega, by omega, ?_⟩⟩
    have e27 := e26.trans e8
    have hd7 : Dq K H7 v (rowsD rs) := hd.mono (e03.trans e27)
    cases hd7 with
    | lst hl qa =>
      refine cb1 ?_
      refine el_q (fun d => .int (rowLen d)) (ev_var rfl) hl qa (by have := wt_len (rs.map rowD); omega) (fun _ => rfl) (fun vv dd hdd qd H8 e9 => ?_) H7 (Evl.Ex.refl _) _ fun D H8 hD e9 h8 => ?_
      · obtain ⟨r, hr, rfl⟩ := List.mem_map.mp hdd
        obtain ⟨a, b, ys, rfl, ha, hb, hq⟩ := rowD_inv qd
        exact ev_is' (ev_lenL (xs := ys) (ev_ixT (v := .ref b) (ev_var rfl) ev_c (st_of (e9 _ _ ha)) (atI_nat (j := 1) rfl)) (sq_of (e9 _ _ hb))) (by rw [qa_len hq]; rfl)
      · have e1 : (rs.map rowD).map (fun d => V.int (rowLen d)) = (rs.map fun r => (r.2.length : Int)).map V.int := by
          rw [List.map_map, List.map_map]
          rfl
        rw [e1] at h8
        refine ⟨D, _, rfl, sq_of h8, .inl ⟨rfl, ?_⟩⟩
        rw [sum_len, decide_eq_true rfl]
        exact k H8 ((e03.trans e27).trans e9)
  · have e13 : Ex H1 H2 := (ExP.trans (ExP.of e2) e3).ex hpx
    have e03 := e1.trans e13
    rw [hsome]
    refine ⟨true, T.e_plan_plan, fun _ a ha => ?_, fun h => by cases h⟩
    refine ⟨_, rfl, .ref (He.ga K "WalkError"), _, true, dd, _, rfl, rfl, rfl, hdd, fun u hu => hu, T.q_plan_walk, _, rfl, ite_t rfl ?_⟩
    refine not_ ?_
    refine ⟨_, rfl, .ref (He.ga K "NoText"), _, false, dd, _, rfl, rfl, rfl, hdd, fun u hu => hu, T.q_plan_text, _, rfl, ite_t rfl ?_⟩
    refine ⟨_, rfl, rfl, rfl, dd, _, _, rfl, hdd, rfl, ?_⟩
    refine test_ (op_ (repr_ rfl (hd.mono e03) g ⟨_, rfl, .inl ⟨rfl, _, rfl, ite_f (by rw [decide_eq_true rfl]; rfl) ?_⟩⟩))
    refine ⟨.str w, rfl, rfl, _, rfl, ite_t rfl ?_⟩
    refine ⟨_, rfl, _, rfl, .inl ⟨rfl, ?_⟩⟩
    have e : decide (V.str w = whoV (some w)) = true := decide_eq_true rfl
    rw [e]
    exact k H2 e03
end
end W81
namespace W81
open PySem PySem.Spec PyProof.Rows L2 LiI WB
open Evl hiding Ex
local macro_rules | `(tactic| walk_at "o") => `(tactic| dsimp only [tSeq, tIfS, tNext, tRet, tRetN, tDrop, tAsg, gName, tNever])
theorem rows_isRow : ∀ {ds : List PyData}, ds.all isRowD = true → ∃ rs : List (Str × List PyData), ds = rs.map rowD
  | [], _ => ⟨[], rfl⟩
  | d :: ds, h => by
    rw [List.all_cons, Bool.and_eq_true] at h
    obtain ⟨rs, rfl⟩ := rows_isRow h.2
    have h1 := h.1
    unfold isRowD at h1
    split at h1
    · exact ⟨(_, _) :: rs, rfl⟩
    · cases h1
def bnd (i : Nat) : Nat := if i = 0 then 1000 else if i = 1 then 3400 else 10600
section
variable {K : Fr} {mg : Str → Option Value} {vs : List V} {H : Hp} {Q : VK} {E : XK} {σ : L2.St} {tl te ta tb : TE} {p : Addr}
theorem for_list_ {g : TG} {tb : TS} {D : Ends} (h : tl σ H fun v H1 => ∃ a, v = .ref a ∧ (∃ xs, SqL K H1 a xs) ∧ ∃ W : Nat → Nat → L2.St → Hp → Prop, (∃ m, W 0 m σ H1) ∧ ∀ i m σ H, W i m σ H →
    ((Itl K a).stop i H ∧ D.nx σ H) ∨ ((Itl K a).go i H ∧ ∃ N : L2.St → Hp → Prop, (∀ σ' H', N σ' H' → ∃ m', m' < m ∧ W (i + 1) m' σ' H') ∧ ∀ x H', (Itl K a).yld i H x H' → g x σ H' fun σ2 H2 => tb { D with nx := N, ct := N, bk := D.nx } σ2 H2)) : tFor (iList K tl) g tb D σ H := h
theorem dp_q {v : V} {d : PyData} (h : Dq K (del H p) v d) : Dq K H v d := h.mono delS
theorem right_ (T : Tx K mg) {f : L2.St → XK} {i j : Nat} {x : Addr} {v : V} {d : PyData} {hs : List Str} {ws : List (Str × Str)} {Q : VK} (h1 : σ[i]? = some (some (.ref x))) (h2 : σ[j]? = some (some v)) (m : MapOk K H x hs ws) (q : Dq K H v d) (g : Gd 50000 20 d) (k : ∀ H', Ex H H' → Q (.bl true) H') :
    tCallS (sp_l_right K) f (tCons (tVar i) (tCons (tVar j) tNil)) σ H Q := ⟨_, h1, _, h2, x, v, d, hs, ws, rfl, m, q, g, k⟩
theorem pure_law (T : Tx K mg) (h : sp_law K vs H Q E) : t_law K { nx := fun _ H' => Q .non H', rt := Q } (start N_law vs) H := by
  obtain ⟨a, ns, rfl, hs0, hn, kq⟩ := h
  unfold t_law; walk_at "o"
  have lS : (ns.map V.int).length = ns.length := List.length_map _
  refine cons_ ?_
  refine ⟨_, rfl, a, ns, 0, rfl, hs0, hn, by decide, by decide, fun p0 H1 hp0 e1 po1 => ?_⟩
  refine ⟨p0, rfl, po1, fun x hs rows H2 ok mx hx0 e2 po2 => ?_⟩
  have eH2 : Ex H H2 := ExP.ex ((ExP.of e1).trans e2) hp0
  have M2 : MapOk K H2 x hs (pairs rows) := ⟨mx, rows, ok, rfl⟩
  obtain ⟨n, hn13, hwi⟩ : ∃ n : Nat, n ≤ 12 ∧ ∀ R : It → Hp → Prop, R (Itr 1 n) H2 → iRng2 (tCons (tC (.int 1)) (tCons (tCB (rMax2I) (tCons (tC (.int 4)) (tCons (tCB (rMin2I) (tCons (tC (.int 13)) (tCons (tCB (rLenA K) (tCons (tVar 0) tNil)) tNil))) tNil))) tNil)) [some (.ref a), some (.ref x), none, none, none, none, none, none] H2 R := by
    refine ⟨((if (if ((ns.map V.int).length : Int) < 13 then ((ns.map V.int).length : Int) else 13) > 4 then (if ((ns.map V.int).length : Int) < 13 then ((ns.map V.int).length : Int) else 13) else 4) - 1).toNat, by split <;> split <;> omega, fun R r => ?_⟩
    refine consc_ (cons_ (cb2 (c_ (cb2 (c_ (cb1 ⟨_, rfl, .inl ⟨a, _, rfl, .inl (ex_l eH2 hs0), 13, _, rfl, 4, _, rfl, 1, _, rfl, ⟨by decide, by decide, ?_, ?_⟩, r⟩⟩))))))
    · split <;> split <;> omega
    · split <;> split <;> omega
  refine for_of (seq_rng (lo := 1) (n := n)) hwi (fun i σ' H' => (∃ v2 v3 v4 v5 v6 v7, σ' = [some (.ref a), some (.ref x), v2, v3, v4, v5, v6, v7]) ∧ Ex H2 H') ⟨⟨_, _, _, _, _, _, rfl⟩, Evl.Ex.refl _⟩ (fun _ _ _ _ _ => trivial) ?_ ?_
  · rintro i y σ' H3 hy ⟨⟨v2, v3, v4, v5, v6, v7, rfl⟩, e3⟩
    have hi : i < n := by
      have := (List.getElem?_eq_some_iff.mp hy).1
      unfold intsV at this
      rw [List.length_map, List.length_range] at this
      exact this
    have hyi : y = .int (1 + (i : Int)) := by
      have := hy
      unfold intsV at this
      rw [List.getElem?_map, List.getElem?_range hi] at this
      exact (Option.some.inj this).symm
    subst hyi
    walk_at "o"
    refine ⟨_, rfl, _, rfl, a, ns, 1 + (i : Int), rfl, ex_l (eH2.trans e3) hs0, hn, by omega, by omega, fun p H4 hp e4 po4 => ?_⟩
    refine ⟨_, rfl, _, rfl, p, x, 6, hs, pairs rows, rfl, po4, M2.mono (e3.trans e4), by decide, by decide, fun l rs H5 ql gl e5 po5 => ?_⟩
    have e35 : ExP p H3 H5 := (ExP.of e4).trans e5
    refine for_rng1 (cons_ ?_)
    refine digit_ rfl po5 ev_c (by decide) (by decide) fun dd H6 d0 d1 e6 po6 => ⟨dd, rfl, by omega, by omega, ?_⟩
    obtain ⟨nd, rfl⟩ := Int.eq_ofNat_of_zero_le d0
    refine for_seq (seq_rng (lo := 0) (n := nd)) (fun c σ' H' => ∃ (l : Addr) (ds : List PyData) (v5 v6 v7 : Option V), σ' = [some (.ref a), some (.ref x), some (.int (1 + (i : Int))), some (.ref p), some (.ref l), v5, v6, v7] ∧ Dq K (del H' p) (.ref l) (.list ds) ∧ Gd (bnd c) 10 (.list ds) ∧ ExP p H3 H' ∧ Pot H' p ∧ MapOk K H' x hs (pairs rows))
      ⟨l, rs.map rowD, _, _, _, rfl, ql.mono (delP e6), gl.mono (by decide) (by omega), e35.trans e6, po6, mapOk_P po4 (e5.trans e6) (M2.mono (e3.trans e4))⟩ (fun _ _ _ _ _ => trivial) ?_ ?_
    · rintro c y2 σ2 H7 hy2 ⟨l2, ds, v5, v6, v7, rfl, q2, g2, e7, po7, m7⟩
      obtain ⟨hc, rfl⟩ := ints_at hy2
      have hc2 : c < 2 := by omega
      have hb : bnd c ≤ 3400 ∧ 3 * bnd c + 400 ≤ bnd (c + 1) ∧ bnd c ≤ bnd (c + 1) := by
        have : c = 0 ∨ c = 1 := by omega
        rcases this with rfl | rfl <;> decide
      walk_at "o"
      cases id q2 with
      | lst hl qa =>
        rename_i xs
        obtain ⟨lp, hl'⟩ := del_some hl
        have lx := qa_len qa
        have hdl : ds.length ≤ 3400 := by
          have h1 := wt_len ds
          have h2 := g2.2.2.1
          rw [wt_list] at h2
          omega
        refine et_test (ev_neNilV (ev_var rfl) (sq_of hl')) H7 (Evl.Ex.refl _) _ fun H8 e8 => iteB (fun hne => ?_) (fun _ => iteF ?_)
        · have q8 := q2.mono (delE e8)
          refine et_B (ev_all' (el_qB isRowD (ev_var rfl) (e8 _ _ hl') ((qa.mono (delE e8)).mono delS) (by omega) (fun _ => rfl) (fun v d hd qd H9 e9 => ev_cS (ea_cons (ev_var rfl) ea_nil) fun H10 e10 Q k => ⟨v, d, rfl, qd.mono (e9.trans e10), k⟩)) all_map_id) H8 (Evl.Ex.refl _) _ fun H9 e9 => iteB (fun hall => ?_) (fun _ => ?_)
          · obtain ⟨rs2, rfl⟩ := rows_isRow hall
            have e79 := e8.trans e9
            have nerr : rs2 ≠ [] := by
              rintro rfl
              cases qa
              cases hne
            refine ⟨_, rfl, _, rfl, _, rfl, p, x, l2, hs, pairs rows, rs2, bnd c, rfl, pot_mono e79 po7, m7.mono e79, q2.mono (delE e79), nerr, g2, by omega, fun l' ds' H10 q10 g10 e10 po10 => ?_⟩
            exact ⟨l', ds', _, _, _, rfl, q10, g10.mono hb.2.1 (Nat.le_refl _), (e7.tx e79).trans e10, po10, mapOk_P (pot_mono e79 po7) e10 (m7.mono e79)⟩
          · have e79 := e8.trans e9
            exact ⟨l2, ds, _, _, _, rfl, q2.mono (delE e79), g2.mono hb.2.2 (Nat.le_refl _), e7.tx e79, pot_mono e79 po7, m7.mono e79⟩
        · exact ⟨l2, ds, _, _, _, rfl, q2.mono (delE e8), g2.mono hb.2.2 (Nat.le_refl _), e7.tx e8, pot_mono e8 po7, m7.mono e8⟩
    · rintro σ2 H7 ⟨l2, ds, v5, v6, v7, rfl, q2, g2, e7, po7, m7⟩
      rw [ints_len] at g2
      have hb : bnd nd ≤ 10600 := by
        have : nd = 0 ∨ nd = 1 ∨ nd = 2 := by omega
        rcases this with rfl | rfl | rfl <;> decide
      walk_at "o"
      refine not_ ?_
      refine right_ T rfl rfl m7 (dp_q q2) (g2.mono (by omega) (by omega)) fun H8 e8 => ⟨_, rfl, iteF ?_⟩
      exact ⟨⟨_, _, _, _, _, _, rfl⟩, e3.trans ((e7.tx e8).ex hp)⟩
  · rintro σ' H3 ⟨⟨v2, v3, v4, v5, v6, v7, rfl⟩, e3⟩
    walk_at "o"
    have m3 := M2.mono e3
    refine for_list_ (consc_ (cons_ ?_))
    refine ⟨by show 0 ≤ _; omega, fun t1 ht1 => ?_⟩
    refine cons_ ?_
    refine fun t2 ht2 => ?_
    have x1 : Ex H3 (L2.upd H3 t1 (.tup [])) := Evl.Ex.new ht1
    have x2 : Ex (L2.upd H3 t1 (.tup [])) (L2.upd (L2.upd H3 t1 (.tup [])) t2 (.dK [])) := Evl.Ex.new ht2
    have g1 : (L2.upd (L2.upd H3 t1 (.tup [])) t2 (.dK [])) t1 = some (.tup []) := x2 _ _ upd_same
    have g2 : (L2.upd (L2.upd H3 t1 (.tup [])) t2 (.dK [])) t2 = some (.dK []) := upd_same
    have x12 := x1.trans x2
    generalize (L2.upd (L2.upd H3 t1 (.tup [])) t2 (.dK [])) = H4 at g1 g2 x12 ⊢
    refine consc_ (consc_ (consc_ (cons_ (cb1 ?_))))
    refine cons_ ?_
    refine ⟨_, rfl, a, ns, 1, rfl, ex_l ((eH2.trans e3).trans x12) hs0, hn, by decide, by decide, fun p H5 hp e5 po5 => ?_⟩
    refine ⟨_, rfl, p, x, 3, hs, pairs rows, rfl, po5, m3.mono (x12.trans e5), by decide, by decide, fun l rs H6 ql gl e6 po6 => ?_⟩
    have e46 : ExP p H4 H6 := (ExP.of e5).trans e6
    have m6 : MapOk K H6 x hs (pairs rows) := mapOk_P po5 e6 (m3.mono (x12.trans e5))
    have ql' : Dq K (del H6 p) (.ref l) (.list (rs.map rowD)) := ql
    cases ql' with
    | lst hl qa =>
      rename_i xs
      obtain ⟨lp, hl'⟩ := del_some hl
      refine ⟨l, xs, rfl, .inl ⟨sq_of hl', fun r hr => ?_⟩⟩
      have x7 : Ex H6 (L2.upd H6 r (.tup xs)) := Evl.Ex.new hr
      have qr : Dq K (L2.upd H6 r (.tup xs)) (.ref r) (.tuple (rs.map rowD)) := .tup upd_same ((qa.mono delS).mono x7)
      have e47 : Ex H4 (L2.upd H6 r (.tup xs)) := (e46.tx x7).ex hp
      have m7 := m6.mono x7
      generalize (L2.upd H6 r (.tup xs)) = H7 at qr e47 m7 ⊢
      refine ⟨by show 7 ≤ _; rw [sizeLine_eq]; decide, fun q hq => ⟨q, rfl, ⟨_, sq_of upd_same⟩, ?_⟩⟩
      have x8 : Ex H7 (L2.upd H7 q (.lst [.non, .ref t1, .ref t2, .str "rows", .int 7, .bl true, .ref r])) := Evl.Ex.new hq
      have hq8 : (L2.upd H7 q (.lst [.non, .ref t1, .ref t2, .str "rows", .int 7, .bl true, .ref r])) q = some (.lst [.non, .ref t1, .ref t2, .str "rows", .int 7, .bl true, .ref r]) := upd_same
      have m8 := m7.mono x8
      have h1 := (e47.trans x8) _ _ g1
      have h2 := (e47.trans x8) _ _ g2
      have hr8 := qr.mono x8
      generalize (L2.upd H7 q (.lst [.non, .ref t1, .ref t2, .str "rows", .int 7, .bl true, .ref r])) = H8 at hq8 m8 h1 h2 hr8 ⊢
      have each : ∀ v ∈ [V.non, .ref t1, .ref t2, .str "rows", .int 7, .bl true, .ref r], ∃ d, Dq K H8 v d ∧ Gd 50000 20 d := by
        intro v hv
        simp only [List.mem_cons, List.not_mem_nil, or_false] at hv
        rcases hv with rfl | rfl | rfl | rfl | rfl | rfl | rfl
        · exact ⟨_, .non, (gd_non (k := 0)).mono (by omega) (by omega)⟩
        · exact ⟨_, .tup h1 .nil, (gd_tup (k := 0) (w := 0)).mpr ga_nil |>.mono (by omega) (by omega)⟩
        · exact ⟨_, .dic h2, (gd_dict (k := 0)).mono (by omega) (by omega)⟩
        · exact ⟨_, .str _, (gk (k := 0)).mono (by omega) (by omega)⟩
        · exact ⟨_, .int 7, (gd_7 (k := 0)).mono (by omega) (by omega)⟩
        · exact ⟨_, .bl true, (gd_bool (k := 0)).mono (by omega) (by omega)⟩
        · exact ⟨_, hr8, ((gd_tup (k := 5)).mpr ((gd_list (k := 5)).mp gl)).mono (by omega) (by omega)⟩
      refine for_seq (seq_list (K := K) (a := q) (xs := [V.non, .ref t1, .ref t2, .str "rows", .int 7, .bl true, .ref r])) (fun i σ' H' => (∃ v2 v3 v4 v5 v6 v7, σ' = [some (.ref a), some (.ref x), v2, v3, v4, v5, v6, v7]) ∧ Ex H8 H') ⟨⟨_, _, _, _, _, _, rfl⟩, Evl.Ex.refl _⟩ (fun i σ' H' _ h => sq_of (h.2 _ _ hq8)) ?_ ?_
      · rintro i y σ2 H9 hy ⟨⟨v2, v3, v4, v5, v6, v7, rfl⟩, e9⟩
        obtain ⟨d, qd, gd⟩ := each y (List.mem_of_getElem? hy)
        walk_at "o"
        refine not_ ?_
        refine right_ T rfl rfl (m8.mono e9) (qd.mono e9) gd fun H10 e10 => ⟨_, rfl, iteF ?_⟩
        exact ⟨⟨_, _, _, _, _, _, rfl⟩, e9.trans e10⟩
      · rintro σ2 H9 ⟨⟨v2, v3, v4, v5, v6, v7, rfl⟩, e9⟩
        walk_at "o"
        refine ⟨_, rfl, ?_⟩
        refine cons_ ?_
        refine el_lst ea_nil (by decide) H9 (Evl.Ex.refl _) _ fun z H10 hz e10 h10 => ?_
        exact ⟨x, .ref z, .list [], hs, pairs rows, rfl, m8.mono (e9.trans e10), .lst h10 .nil, (gd_list (k := 0) (w := 0)).mpr ga_nil |>.mono (by omega) (by omega), fun H11 _ => kq H11⟩
end
end W81
namespace W81
open PySem PySem.Spec PyProof.Rows L2 LiI WB
section
variable {P : Program} {w : World} {K : Fr} {mg : Str → Option Value} {base : Heap}
theorem ok_NoMap_init (T : Tx K mg) : ExI P w K mg base 1 "NoMap" ["self", "what", "who"] (sp_NoMap_init K) := by
  obtain ⟨fd, F⟩ := T.d_NoMap_init
  exact ⟨fd, T.j_NoMap_init.1, T.j_NoMap_init.2, F.ok (CX := CX0) (N := N_NoMap_init) (ps := ["self", "what", "who"]) (k := 0) (sp := sp_NoMap_init K) sc_NoMap_init (fun vs H Q E h => len_NoMap_init h) (fun cdv A outer s H vs Q E hr h => ⟨t_NoMap_init K, PSs.nox (pss_cons (ps_expr (pe_binit T.b_WalkError rfl T.g_WalkError (pa_cons (pv 0) (pa_cons (pe_str) pa_nil))))
    (pss_cons (ps_ost (pv 0) (pv 1))
    (pss_one (ps_ost (pv 0) (pv 2))))), pure_NoMap_init T h⟩), F.bindsN fun _ _ _ _ _ _ us hl => match us, hl with | [_, _, _], _ => rfl⟩
theorem ok_NoPlan_init (T : Tx K mg) : ExI P w K mg base 1 "NoPlan" ["self", "who"] (sp_NoPlan_init K) := by
  obtain ⟨fd, F⟩ := T.d_NoPlan_init
  exact ⟨fd, T.j_NoPlan_init.1, T.j_NoPlan_init.2, F.ok (CX := CX0) (N := N_NoPlan_init) (ps := ["self", "who"]) (k := 0) (sp := sp_NoPlan_init K) sc_NoPlan_init (fun vs H Q E h => len_NoPlan_init h) (fun cdv A outer s H vs Q E hr h => ⟨t_NoPlan_init K, PSs.nox (pss_cons (ps_expr (pe_binit T.b_WalkError rfl T.g_WalkError (pa_cons (pv 0) (pa_cons (pe_str) pa_nil))))
    (pss_one (ps_ost (pv 0) (pv 1)))), pure_NoPlan_init T h⟩), F.bindsN fun _ _ _ _ _ _ us hl => match us, hl with | [_, _], _ => rfl⟩
theorem ok_is_made_of (T : Tx K mg) : Cal P w K mg base CX0 1 "is_made_of" ["thing", "signs", "most"] (sp_is_made_of K) := by
  obtain ⟨fd, F⟩ := T.d_is_made_of
  exact ⟨_, fd, F.ok (CX := CX0) (N := N_is_made_of) (ps := ["thing", "signs", "most"]) (k := 0) (sp := sp_is_made_of K) sc_is_made_of (fun vs H Q E h => len_is_made_of h) (fun cdv A outer s H vs Q E hr h => ⟨t_is_made_of K, PSs.nox (pss_cons (ps_if (PW.pt (pw_or (pt_not (pt_val (pe_callB call_isi rfl T.f_isinstance (by decide +kernel) (pa_cons (pv 0) (pa_cons (pe_bltn rfl T.f_str (by decide +kernel) rfl) pa_nil))))) (pw_or1 (pt_not (pt_chain (op_leI) (op_leI) (pe_int) (pe_callB call_lenA rfl T.f_len (by decide +kernel) (pa_cons (pv 0) pa_nil)) (pv 2)))))) (pss_one (ps_ret (pe_bl))) (pss_nil))
    (pss_one (ps_ret (pe_callB (cr_all rfl) rfl T.f_all (by decide +kernel) (pa_cons (pe_lc (own := [("sign", 3)]) (g := (gName 3)) (by rfl) sc_is_made_of.nd (pi_str (pv 0)) (blkOk_by (own := [("sign", 3)]) (N := N_is_made_of) (sc := defScope s_is_made_of) (by decide +kernel)) (fun _ _ _ _ _ => (pg_name (i := 3) sc_is_made_of.nd rfl (by first | exact Or.inl rfl | exact Or.inr rfl))) (fun _ _ _ _ _ => pts_nil) (fun _ _ _ _ _ => pe_cmpR op_inSgn (pv 3) (pv 1) rfl)) pa_nil))))), pure_is_made_of T h⟩), T.g_is_made_of, F.kp, F.bindsN fun _ _ _ _ _ _ us hl => match us, hl with | [_, _, _], _ => rfl⟩
theorem ok_is_name (T : Tx K mg) (c_is_made_of : Cal P w K mg base CX0 1 "is_made_of" ["thing", "signs", "most"] (sp_is_made_of K)) : Cal P w K mg base CX0 2 "is_name" ["thing"] (sp_is_name K) := by
  obtain ⟨fd, F⟩ := T.d_is_name
  exact ⟨_, fd, F.ok (CX := CX0) (N := N_is_name) (ps := ["thing"]) (k := 1) (sp := sp_is_name K) sc_is_name (fun vs H Q E h => len_is_name h) (fun cdv A outer s H vs Q E hr h => ⟨t_is_name K, PSs.nox (pss_one (ps_ret (pe_wcall c_is_made_of hr (by decide) (fun σ => passD dead0 σ) (pa_cons (pv 0) (pa_cons (C8.pe_gc rfl T.k_LETTERS) (pa_cons (C8.pe_gc rfl T.k_MOST_LETTERS) pa_nil)))))), pure_is_name T h⟩), T.g_is_name, F.kp, F.bindsN fun _ _ _ _ _ _ us hl => match us, hl with | [_], _ => rfl⟩
theorem ok_is_word (T : Tx K mg) (c_is_made_of : Cal P w K mg base CX0 1 "is_made_of" ["thing", "signs", "most"] (sp_is_made_of K)) : Cal P w K mg base CX0 2 "is_word" ["thing"] (sp_is_word K) := by
  obtain ⟨fd, F⟩ := T.d_is_word
  exact ⟨_, fd, F.ok (CX := CX0) (N := N_is_word) (ps := ["thing"]) (k := 1) (sp := sp_is_word K) sc_is_word (fun vs H Q E h => len_is_word h) (fun cdv A outer s H vs Q E hr h => ⟨t_is_word K, PSs.nox (pss_one (ps_ret (pe_wcall c_is_made_of hr (by decide) (fun σ => passD dead0 σ) (pa_cons (pv 0) (pa_cons (pe_op op_addA (C8.pe_gc rfl T.k_LETTERS) (C8.pe_gc rfl T.k_FIGURES)) (pa_cons (C8.pe_gc rfl T.k_MOST_SIGNS) pa_nil)))))), pure_is_word T h⟩), T.g_is_word, F.kp, F.bindsN fun _ _ _ _ _ _ us hl => match us, hl with | [_], _ => rfl⟩
theorem ok_want (T : Tx K mg) (x_NoMap_init : ExI P w K mg base 1 "NoMap" ["self", "what", "who"] (sp_NoMap_init K)) : Cal P w K mg base (L2N.CX P w) 3 "want" ["truth", "what", "who"] (sp_want K) := by
  obtain ⟨fd, F⟩ := T.d_want
  obtain ⟨_, i_NoMap_init⟩ := x_NoMap_init
  exact ⟨_, fd, F.ok (CX := (L2N.CX P w)) (N := N_want) (ps := ["truth", "what", "who"]) (k := 2) (sp := sp_want K) sc_want (fun vs H Q E h => len_want h) (fun cdv A outer s H vs Q E hr h => by
    have tk : L2N.Takes (cxOf (L2N.CX P w) P w K mg base N_want "want" (defScope s_want) (He.fAd K ("want", none)) cdv A outer s H E) (fun cls d _ H => E cls d H) := L2N.takes_of rfl rfl rfl rfl
    exact ⟨t_want K E, pss_one (ps_if (pt_not (pt_val (pv 0))) (pss_one (L2N.ps_raise rfl tk (pmkN_oex T.x_NoMap.1 i_NoMap_init.1 i_NoMap_init.2.1 i_NoMap_init.2.2.1 (hr.mono (by decide)) i_NoMap_init.2.2.2 passZ rfl T.g_NoMap (pa_cons (pv 1) (pa_cons (pv 2) pa_nil))))) (pss_nil)), pure_want T h⟩), T.g_want, F.kp, F.bindsN fun _ _ _ _ _ _ us hl => match us, hl with | [_, _, _], _ => rfl⟩
theorem ok_want_hosts (T : Tx K mg) (c_want : Cal P w K mg base (L2N.CX P w) 3 "want" ["truth", "what", "who"] (sp_want K)) (c_is_name : Cal P w K mg base CX0 2 "is_name" ["thing"] (sp_is_name K)) : Cal P w K mg base (L2N.CX P w) 4 "want_hosts" ["hosts"] (sp_want_hosts K) := by
  obtain ⟨fd, F⟩ := T.d_want_hosts
  exact ⟨_, fd, F.ok (CX := (L2N.CX P w)) (N := N_want_hosts) (ps := ["hosts"]) (k := 3) (sp := sp_want_hosts K) sc_want_hosts (fun vs H Q E h => len_want_hosts h) (fun cdv A outer s H vs Q E hr h => by
    have tk : L2N.Takes (cxOf (L2N.CX P w) P w K mg base N_want_hosts "want_hosts" (defScope s_want_hosts) (He.fAd K ("want_hosts", none)) cdv A outer s H E) (fun cls d _ H => E cls d H) := L2N.takes_of rfl rfl rfl rfl
    exact ⟨t_want_hosts K E, pss_cons (ps_expr (pe_wcall c_want hr (by decide) (fun σ => L2N.passAt tk σ) (pa_cons (pe_callB call_isi rfl T.f_isinstance (by decide +kernel) (pa_cons (pv 0) (pa_cons (pe_bltn rfl T.f_list (by decide +kernel) rfl) pa_nil))) (pa_cons (pe_str) (pa_cons (pe_str) pa_nil)))))
    (pss_cons (ps_for (passes_of rfl) rfl (pi_enum rfl T.f_enumerate (pa_cons (pv 0) pa_nil)) (pg_tup rfl (pgs_cons (pg_name (i := 1) sc_want_hosts.nd rfl (by first | exact Or.inl rfl | exact Or.inr rfl)) (pgs_cons (pg_name (i := 2) sc_want_hosts.nd rfl (by first | exact Or.inl rfl | exact Or.inr rfl)) pgs_nil))) (pss_cons (ps_expr (pe_wcall c_want hr (by decide) (fun σ => L2N.passAt tk σ) (pa_cons (pe_wcall c_is_name hr (by decide) (fun σ => passD dead0 σ) (pa_cons (pv 2) pa_nil)) (pa_cons (pe_str) (pa_cons (pe_callTy call_strI rfl T.f_str (by decide +kernel) (pa_cons (pv 1) pa_nil)) pa_nil)))))
    (pss_one (ps_expr (pe_wcall c_want hr (by decide) (fun σ => L2N.passAt tk σ) (pa_cons (pe_cmpR (op_niA) (pv 2) (pe_slice sl_A (pv 0) po_none (po_some (pv 1))) rfl) (pa_cons (pe_str) (pa_cons (pv 2) pa_nil))))))))
    (pss_one (ps_expr (pe_wcall c_want hr (by decide) (fun σ => L2N.passAt tk σ) (pa_cons (pe_chain (op_leI) (op_leI) (C8.pe_gc rfl T.k_LEAST_HOSTS) (pe_callB call_lenA rfl T.f_len (by decide +kernel) (pa_cons (pv 0) pa_nil)) (C8.pe_gc rfl T.k_MOST_HOSTS)) (pa_cons (pe_str) (pa_cons (pe_str) pa_nil))))))), pure_want_hosts T h⟩), T.g_want_hosts, F.kp, F.bindsN fun _ _ _ _ _ _ us hl => match us, hl with | [_], _ => rfl⟩
theorem ok_want_walkers (T : Tx K mg) (c_want : Cal P w K mg base (L2N.CX P w) 3 "want" ["truth", "what", "who"] (sp_want K)) (c_is_name : Cal P w K mg base CX0 2 "is_name" ["thing"] (sp_is_name K)) : Cal P w K mg base (L2N.CX P w) 4 "want_walkers" ["hosts", "walkers"] (sp_want_walkers K) := by
  obtain ⟨fd, F⟩ := T.d_want_walkers
  exact ⟨_, fd, F.ok (CX := (L2N.CX P w)) (N := N_want_walkers) (ps := ["hosts", "walkers"]) (k := 3) (sp := sp_want_walkers K) sc_want_walkers (fun vs H Q E h => len_want_walkers h) (fun cdv A outer s H vs Q E hr h => by
    have tk : L2N.Takes (cxOf (L2N.CX P w) P w K mg base N_want_walkers "want_walkers" (defScope s_want_walkers) (He.fAd K ("want_walkers", none)) cdv A outer s H E) (fun cls d _ H => E cls d H) := L2N.takes_of rfl rfl rfl rfl
    exact ⟨t_want_walkers K E, pss_cons (ps_expr (pe_wcall c_want hr (by decide) (fun σ => L2N.passAt tk σ) (pa_cons (pe_callB call_isi rfl T.f_isinstance (by decide +kernel) (pa_cons (pv 1) (pa_cons (pe_bltn rfl T.f_list (by decide +kernel) rfl) pa_nil))) (pa_cons (pe_str) (pa_cons (pe_str) pa_nil)))))
    (pss_cons (ps_set (i := 2) sc_want_walkers.nd rfl (by first | exact Or.inl rfl | exact Or.inr rfl) (pe_callTy call_listSq rfl T.f_list (by decide +kernel) (pa_cons (pv 0) pa_nil)))
    (pss_cons (ps_for (passes_of rfl) rfl (pi_enum rfl T.f_enumerate (pa_cons (pv 1) pa_nil)) (pg_tup rfl (pgs_cons (pg_name (i := 3) sc_want_walkers.nd rfl (by first | exact Or.inl rfl | exact Or.inr rfl)) (pgs_cons (pg_name (i := 4) sc_want_walkers.nd rfl (by first | exact Or.inl rfl | exact Or.inr rfl)) pgs_nil))) (pss_cons (ps_expr (pe_wcall c_want hr (by decide) (fun σ => L2N.passAt tk σ) (pa_cons (pe_and (pe_callB call_isi rfl T.f_isinstance (by decide +kernel) (pa_cons (pv 4) (pa_cons (pe_bltn rfl T.f_tuple (by decide +kernel) rfl) pa_nil))) (pe_one (pe_cmpR (op_eqA (hu64 hr)) (pe_callB call_lenA rfl T.f_len (by decide +kernel) (pa_cons (pv 4) pa_nil)) (pe_int) (nomark _)))) (pa_cons (pe_str) (pa_cons (pe_callTy call_strI rfl T.f_str (by decide +kernel) (pa_cons (pv 3) pa_nil)) pa_nil)))))
    (pss_cons (ps_asg (pv 4) (pg_tup rfl (pgs_cons (pg_name (i := 5) sc_want_walkers.nd rfl (by first | exact Or.inl rfl | exact Or.inr rfl)) (pgs_cons (pg_name (i := 6) sc_want_walkers.nd rfl (by first | exact Or.inl rfl | exact Or.inr rfl)) pgs_nil))))
    (pss_cons (ps_expr (pe_wcall c_want hr (by decide) (fun σ => L2N.passAt tk σ) (pa_cons (pe_wcall c_is_name hr (by decide) (fun σ => passD dead0 σ) (pa_cons (pv 5) pa_nil)) (pa_cons (pe_str) (pa_cons (pe_callTy call_strI rfl T.f_str (by decide +kernel) (pa_cons (pv 3) pa_nil)) pa_nil)))))
    (pss_cons (ps_expr (pe_wcall c_want hr (by decide) (fun σ => L2N.passAt tk σ) (pa_cons (pe_cmpR (op_niA) (pv 5) (pv 2) rfl) (pa_cons (pe_str) (pa_cons (pv 5) pa_nil)))))
    (pss_cons (ps_expr (pe_wcall c_want hr (by decide) (fun σ => L2N.passAt tk σ) (pa_cons (pe_cmpR (op_inA) (pv 6) (pv 0) rfl) (pa_cons (pe_str) (pa_cons (pv 5) pa_nil)))))
    (pss_one (ps_expr (pe_bm PySem.F.plainAttrs_list PySem.F.slot_list_append PySem.F.type_list_append mt_append (pv 2) (pa_cons (pv 5) pa_nil))))))))))
    (pss_one (ps_expr (pe_wcall c_want hr (by decide) (fun σ => L2N.passAt tk σ) (pa_cons (pe_chain (op_leI) (op_leI) (pe_int) (pe_callB call_lenA rfl T.f_len (by decide +kernel) (pa_cons (pv 1) pa_nil)) (C8.pe_gc rfl T.k_MOST_WALKERS)) (pa_cons (pe_str) (pa_cons (pe_str) pa_nil)))))))), pure_want_walkers T h⟩), T.g_want_walkers, F.kp, F.bindsN fun _ _ _ _ _ _ us hl => match us, hl with | [_, _], _ => rfl⟩
theorem ok_Map_init (T : Tx K mg) (c_want_hosts : Cal P w K mg base (L2N.CX P w) 4 "want_hosts" ["hosts"] (sp_want_hosts K)) (c_want_walkers : Cal P w K mg base (L2N.CX P w) 4 "want_walkers" ["hosts", "walkers"] (sp_want_walkers K)) : Mak P w K mg base (L2N.CX P w) 5 "Map" (He.ga K "Map") ["self", "hosts", "walkers"] (sp_Map_init K) := by
  obtain ⟨fd, F⟩ := T.d_Map_init
  exact ⟨_, fd, F.ok (CX := (L2N.CX P w)) (N := N_Map_init) (ps := ["self", "hosts", "walkers"]) (k := 4) (sp := sp_Map_init K) sc_Map_init (fun vs H Q E h => len_Map_init h) (fun cdv A outer s H vs Q E hr h => by
    have tk : L2N.Takes (cxOf (L2N.CX P w) P w K mg base N_Map_init "Map.__init__" (defScope s_Map_init) (He.fAd K ("Map", some "__init__")) cdv A outer s H E) (fun cls d _ H => E cls d H) := L2N.takes_of rfl rfl rfl rfl
    exact ⟨t_Map_init K E, pss_cons (ps_expr (pe_wcall c_want_hosts hr (by decide) (fun σ => L2N.passAt tk σ) (pa_cons (pv 1) pa_nil)))
    (pss_cons (ps_expr (pe_wcall c_want_walkers hr (by decide) (fun σ => L2N.passAt tk σ) (pa_cons (pv 1) (pa_cons (pv 2) pa_nil))))
    (pss_cons (ps_fld (pv 0) (pe_callTy call_listSq rfl T.f_list (by decide +kernel) (pa_cons (pv 1) pa_nil)) rfl)
    (pss_one (ps_fld (pv 0) (pe_callTy (call_dictPs rfl) rfl T.f_dict (by decide +kernel) (pa_cons (pv 2) pa_nil)) rfl)))), pure_Map_init T h⟩), T.m_Map, T.g_Map, F.bindsN fun _ _ _ _ _ _ us hl => match us, hl with | [_, _, _], _ => rfl⟩
theorem ok_Map_hosts (T : Tx K mg) : Met P w K mg base CX0 1 (He.ga K "Map") "hosts" ["self"] (sp_Map_hosts K) := by
  obtain ⟨fd, F⟩ := T.d_Map_hosts
  exact ⟨_, fd, F.ok (CX := CX0) (N := N_Map_hosts) (ps := ["self"]) (k := 0) (sp := sp_Map_hosts K) sc_Map_hosts (fun vs H Q E h => len_Map_hosts h) (fun cdv A outer s H vs Q E hr h => ⟨t_Map_hosts K, PSs.nox (pss_one (ps_ret (pe_callTy call_listSq rfl T.f_list (by decide +kernel) (pa_cons (pe_fld (pv 0) rfl) pa_nil)))), pure_Map_hosts T h⟩), T.c_Map, T.t_Map_hosts, F.bindsN fun _ _ _ _ _ _ us hl => match us, hl with | [_], _ => rfl⟩
theorem ok_Map_walkers (T : Tx K mg) : Met P w K mg base CX0 1 (He.ga K "Map") "walkers" ["self"] (sp_Map_walkers K) := by
  obtain ⟨fd, F⟩ := T.d_Map_walkers
  exact ⟨_, fd, F.ok (CX := CX0) (N := N_Map_walkers) (ps := ["self"]) (k := 0) (sp := sp_Map_walkers K) sc_Map_walkers (fun vs H Q E h => len_Map_walkers h) (fun cdv A outer s H vs Q E hr h => ⟨t_Map_walkers K, PSs.nox (pss_one (ps_ret (pe_callTy (call_list_dK rfl) rfl T.f_list (by decide +kernel) (pa_cons (pe_fld (pv 0) rfl) pa_nil)))), pure_Map_walkers T h⟩), T.c_Map, T.t_Map_walkers, F.bindsN fun _ _ _ _ _ _ us hl => match us, hl with | [_], _ => rfl⟩
theorem ok_Map_has_host (T : Tx K mg) : Met P w K mg base CX0 1 (He.ga K "Map") "has_host" ["self", "name"] (sp_Map_has_host K) := by
  obtain ⟨fd, F⟩ := T.d_Map_has_host
  exact ⟨_, fd, F.ok (CX := CX0) (N := N_Map_has_host) (ps := ["self", "name"]) (k := 0) (sp := sp_Map_has_host K) sc_Map_has_host (fun vs H Q E h => len_Map_has_host h) (fun cdv A outer s H vs Q E hr h => ⟨t_Map_has_host K, PSs.nox (pss_one (ps_ret (pe_cmpR (op_inQ (hu64 hr)) (pv 1) (pe_fld (pv 0) rfl) rfl))), pure_Map_has_host T h⟩), T.c_Map, T.t_Map_has_host, F.bindsN fun _ _ _ _ _ _ us hl => match us, hl with | [_, _], _ => rfl⟩
theorem ok_Map_has_walker (T : Tx K mg) (c_Map_walkers : Met P w K mg base CX0 1 (He.ga K "Map") "walkers" ["self"] (sp_Map_walkers K)) : Met P w K mg base CX0 2 (He.ga K "Map") "has_walker" ["self", "name"] (sp_Map_has_walker K) := by
  obtain ⟨fd, F⟩ := T.d_Map_has_walker
  exact ⟨_, fd, F.ok (CX := CX0) (N := N_Map_has_walker) (ps := ["self", "name"]) (k := 1) (sp := sp_Map_has_walker K) sc_Map_has_walker (fun vs H Q E h => len_Map_has_walker h) (fun cdv A outer s H vs Q E hr h => ⟨t_Map_has_walker K, PSs.nox (pss_one (ps_ret (pe_cmpR (op_inQ (hu64 hr)) (pv 1) (pe_wmeth0 (pv 0) c_Map_walkers hr (by decide) (fun σ => passD dead0 σ)) rfl))), pure_Map_has_walker T h⟩), T.c_Map, T.t_Map_has_walker, F.bindsN fun _ _ _ _ _ _ us hl => match us, hl with | [_, _], _ => rfl⟩
theorem ok_Map_eq (T : Tx K mg) : Met P w K mg base CX0 1 (He.ga K "Map") "__eq__" ["self", "other"] (sp_Map_eq K) := by
  obtain ⟨fd, F⟩ := T.d_Map_eq
  exact ⟨_, fd, F.ok (CX := CX0) (N := N_Map_eq) (ps := ["self", "other"]) (k := 0) (sp := sp_Map_eq K) sc_Map_eq (fun vs H Q E h => len_Map_eq h) (fun cdv A outer s H vs Q E hr h => ⟨t_Map_eq K, PSs.nox (pss_cons (ps_if (pt_not (pt_val (pe_callB call_isi rfl T.f_isinstance (by decide +kernel) (pa_cons (pv 1) (pa_cons (pe_glob rfl T.g_Map rfl) pa_nil))))) (pss_one (ps_ret (pe_bl))) (pss_nil))
    (pss_one (ps_ret (pe_and (pe_cmpR (op_eqA (hu64 hr)) (pe_fld (pv 0) rfl) (pe_fld (pv 1) rfl) (nomark _)) (pe_one (pe_cmpR (op_eqA (hu64 hr)) (pe_listItems rfl (pe_fld (pv 0) rfl) rfl T.f_list (by decide +kernel)) (pe_listItems rfl (pe_fld (pv 1) rfl) rfl T.f_list (by decide +kernel)) (nomark _))))))), pure_Map_eq T h⟩), T.c_Map, T.t_Map_eq, F.bindsN fun _ _ _ _ _ _ us hl => match us, hl with | [_, _], _ => rfl⟩
theorem ok_is_deed (T : Tx K mg) (c_Map_has_host : Met P w K mg base CX0 1 (He.ga K "Map") "has_host" ["self", "name"] (sp_Map_has_host K)) (c_Map_has_walker : Met P w K mg base CX0 2 (He.ga K "Map") "has_walker" ["self", "name"] (sp_Map_has_walker K)) (c_is_word : Cal P w K mg base CX0 2 "is_word" ["thing"] (sp_is_word K)) : Cal P w K mg base CX0 3 "is_deed" ["thing", "grounds"] (sp_is_deed K) := by
  obtain ⟨fd, F⟩ := T.d_is_deed
  exact ⟨_, fd, F.ok (CX := CX0) (N := N_is_deed) (ps := ["thing", "grounds"]) (k := 2) (sp := sp_is_deed K) sc_is_deed (fun vs H Q E h => len_is_deed h) (fun cdv A outer s H vs Q E hr h => ⟨t_is_deed K, PSs.nox (pss_cons (ps_if (PW.pt (pw_or (pt_not (pt_val (pe_callB call_isi rfl T.f_isinstance (by decide +kernel) (pa_cons (pv 0) (pa_cons (pe_bltn rfl T.f_tuple (by decide +kernel) rfl) pa_nil))))) (pw_or1 (pt_cmpR (op_niA) (pe_callB call_lenA rfl T.f_len (by decide +kernel) (pa_cons (pv 0) pa_nil)) (pe_tup (pa_cons (pe_int) (pa_cons (pe_int) pa_nil))) rfl)))) (pss_one (ps_ret (pe_bl))) (pss_nil))
    (pss_cons (ps_if (pt_cmpR (op_eqQ (hu64 hr)) (pe_ix ix_seq (pv 0) (pe_int) (fun _ _ => rfl)) (C8.pe_gc rfl T.k_WALK) (nomark _)) (pss_one (ps_ret (pe_and (pe_cmpR (op_eqA (hu64 hr)) (pe_callB call_lenA rfl T.f_len (by decide +kernel) (pa_cons (pv 0) pa_nil)) (pe_int) (nomark _)) (pe_one (pe_wmeth (pv 1) c_Map_has_host hr (by decide) (fun σ => passD dead0 σ) (pa_cons (pe_ix ix_seq (pv 0) (pe_int) (fun _ _ => rfl)) pa_nil)))))) (pss_nil))
    (pss_one (ps_ret (pe_and (pe_cmpR (op_eqQ (hu64 hr)) (pe_ix ix_seq (pv 0) (pe_int) (fun _ _ => rfl)) (C8.pe_gc rfl T.k_WRITE) (nomark _)) (pe_and (pe_cmpR (op_eqA (hu64 hr)) (pe_callB call_lenA rfl T.f_len (by decide +kernel) (pa_cons (pv 0) pa_nil)) (pe_int) (nomark _)) (pe_and (pe_wmeth (pv 1) c_Map_has_walker hr (by decide) (fun σ => passD dead0 σ) (pa_cons (pe_ix ix_seq (pv 0) (pe_int) (fun _ _ => rfl)) pa_nil)) (pe_one (pe_wcall c_is_word hr (by decide) (fun σ => passD dead0 σ) (pa_cons (pe_ix ix_seq (pv 0) (pe_int) (fun _ _ => rfl)) pa_nil)))))))))), pure_is_deed T h⟩), T.g_is_deed, F.kp, F.bindsN fun _ _ _ _ _ _ us hl => match us, hl with | [_, _], _ => rfl⟩
theorem ok_want_row (T : Tx K mg) (c_Map_has_walker : Met P w K mg base CX0 2 (He.ga K "Map") "has_walker" ["self", "name"] (sp_Map_has_walker K)) (c_is_deed : Cal P w K mg base CX0 3 "is_deed" ["thing", "grounds"] (sp_is_deed K)) (x_NoPlan_init : ExI P w K mg base 1 "NoPlan" ["self", "who"] (sp_NoPlan_init K)) : Cal P w K mg base (L2N.CX P w) 4 "want_row" ["grounds", "number", "row", "taken"] (sp_want_row K) := by
  obtain ⟨fd, F⟩ := T.d_want_row
  obtain ⟨_, i_NoPlan_init⟩ := x_NoPlan_init
  exact ⟨_, fd, F.ok (CX := (L2N.CX P w)) (N := N_want_row) (ps := ["grounds", "number", "row", "taken"]) (k := 3) (sp := sp_want_row K) sc_want_row (fun vs H Q E h => len_want_row h) (fun cdv A outer s H vs Q E hr h => by
    have tk : L2N.Takes (cxOf (L2N.CX P w) P w K mg base N_want_row "want_row" (defScope s_want_row) (He.fAd K ("want_row", none)) cdv A outer s H E) (fun cls d _ H => E cls d H) := L2N.takes_of rfl rfl rfl rfl
    exact ⟨t_want_row K E, pss_cons (ps_if (PW.pt (pw_or (pt_not (pt_val (pe_callB call_isi rfl T.f_isinstance (by decide +kernel) (pa_cons (pv 2) (pa_cons (pe_bltn rfl T.f_tuple (by decide +kernel) rfl) pa_nil))))) (pw_or1 (pt_cmpR (op_neA (hu64 hr)) (pe_callB call_lenA rfl T.f_len (by decide +kernel) (pa_cons (pv 2) pa_nil)) (pe_int) (nomark _))))) (pss_one (L2N.ps_raise rfl tk (pmkN_oex T.x_NoPlan.1 i_NoPlan_init.1 i_NoPlan_init.2.1 i_NoPlan_init.2.2.1 (hr.mono (by decide)) i_NoPlan_init.2.2.2 passZ rfl T.g_NoPlan (pa_cons (pe_callTy call_strI rfl T.f_str (by decide +kernel) (pa_cons (pv 1) pa_nil)) pa_nil)))) (pss_nil))
    (pss_cons (ps_asg (pv 2) (pg_tup rfl (pgs_cons (pg_name (i := 4) sc_want_row.nd rfl (by first | exact Or.inl rfl | exact Or.inr rfl)) (pgs_cons (pg_name (i := 5) sc_want_row.nd rfl (by first | exact Or.inl rfl | exact Or.inr rfl)) pgs_nil))))
    (pss_cons (ps_if (PW.pt (pw_or (pt_not (pt_val (pe_wmeth (pv 0) c_Map_has_walker hr (by decide) (fun σ => passD dead0 σ) (pa_cons (pv 4) pa_nil)))) (pw_or1 (pt_cmpR (op_inQ (hu64 hr)) (pv 4) (pv 3) rfl)))) (pss_one (L2N.ps_raise rfl tk (pmkN_oex T.x_NoPlan.1 i_NoPlan_init.1 i_NoPlan_init.2.1 i_NoPlan_init.2.2.1 (hr.mono (by decide)) i_NoPlan_init.2.2.2 passZ rfl T.g_NoPlan (pa_cons (pe_callTy call_strI rfl T.f_str (by decide +kernel) (pa_cons (pv 1) pa_nil)) pa_nil)))) (pss_nil))
    (pss_one (ps_if (PW.pt (pw_or (pt_not (pt_val (pe_callB call_isi rfl T.f_isinstance (by decide +kernel) (pa_cons (pv 5) (pa_cons (pe_bltn rfl T.f_list (by decide +kernel) rfl) pa_nil))))) (pw_or1 (pt_not (pt_val (pe_callB (cr_all rfl) rfl T.f_all (by decide +kernel) (pa_cons (pe_lc (own := [("deed", 6)]) (g := (gName 6)) (by rfl) sc_want_row.nd (pi_list (pv 5)) (blkOk_by (own := [("deed", 6)]) (N := N_want_row) (sc := defScope s_want_row) (by decide +kernel)) (fun _ _ _ _ _ => (pg_name (i := 6) sc_want_row.nd rfl (by first | exact Or.inl rfl | exact Or.inr rfl))) (fun _ _ _ _ _ => pts_nil) (fun _ _ _ _ _ => pe_wcall c_is_deed hr (by decide) (fun σ => passD dead0 σ) (pa_cons (pv 6) (pa_cons (pv 0) pa_nil)))) pa_nil))))))) (pss_one (L2N.ps_raise rfl tk (pmkN_oex T.x_NoPlan.1 i_NoPlan_init.1 i_NoPlan_init.2.1 i_NoPlan_init.2.2.1 (hr.mono (by decide)) i_NoPlan_init.2.2.2 passZ rfl T.g_NoPlan (pa_cons (pv 4) pa_nil)))) (pss_nil))))), pure_want_row T h⟩), T.g_want_row, F.kp, F.bindsN fun _ _ _ _ _ _ us hl => match us, hl with | [_, _, _, _], _ => rfl⟩
theorem ok_Plan_init (T : Tx K mg) (c_want_row : Cal P w K mg base (L2N.CX P w) 4 "want_row" ["grounds", "number", "row", "taken"] (sp_want_row K)) (x_NoPlan_init : ExI P w K mg base 1 "NoPlan" ["self", "who"] (sp_NoPlan_init K)) : Mak P w K mg base (L2N.CX P w) 5 "Plan" (He.ga K "Plan") ["self", "grounds", "rows"] (sp_Plan_init K) := by
  obtain ⟨fd, F⟩ := T.d_Plan_init
  obtain ⟨_, i_NoPlan_init⟩ := x_NoPlan_init
  exact ⟨_, fd, F.ok (CX := (L2N.CX P w)) (N := N_Plan_init) (ps := ["self", "grounds", "rows"]) (k := 4) (sp := sp_Plan_init K) sc_Plan_init (fun vs H Q E h => len_Plan_init h) (fun cdv A outer s H vs Q E hr h => by
    have tk : L2N.Takes (cxOf (L2N.CX P w) P w K mg base N_Plan_init "Plan.__init__" (defScope s_Plan_init) (He.fAd K ("Plan", some "__init__")) cdv A outer s H E) (fun cls d _ H => E cls d H) := L2N.takes_of rfl rfl rfl rfl
    exact ⟨t_Plan_init K E, pss_cons (ps_if (pt_not (pt_val (pe_callB call_isi rfl T.f_isinstance (by decide +kernel) (pa_cons (pv 2) (pa_cons (pe_bltn rfl T.f_list (by decide +kernel) rfl) pa_nil))))) (pss_one (L2N.ps_raise rfl tk (pmkN_oex T.x_NoPlan.1 i_NoPlan_init.1 i_NoPlan_init.2.1 i_NoPlan_init.2.2.1 (hr.mono (by decide)) i_NoPlan_init.2.2.2 passZ rfl T.g_NoPlan (pa_cons (pe_str) pa_nil)))) (pss_nil))
    (pss_cons (ps_set (i := 3) sc_Plan_init.nd rfl (by first | exact Or.inl rfl | exact Or.inr rfl) (pe_lst pa_nil))
    (pss_cons (ps_for (passes_of rfl) rfl (pi_enum rfl T.f_enumerate (pa_cons (pv 2) pa_nil)) (pg_tup rfl (pgs_cons (pg_name (i := 4) sc_Plan_init.nd rfl (by first | exact Or.inl rfl | exact Or.inr rfl)) (pgs_cons (pg_name (i := 5) sc_Plan_init.nd rfl (by first | exact Or.inl rfl | exact Or.inr rfl)) pgs_nil))) (pss_cons (ps_expr (pe_wcall c_want_row hr (by decide) (fun σ => L2N.passAt tk σ) (pa_cons (pv 1) (pa_cons (pv 4) (pa_cons (pv 5) (pa_cons (pv 3) pa_nil))))))
    (pss_one (ps_expr (pe_bm PySem.F.plainAttrs_list PySem.F.slot_list_append PySem.F.type_list_append mt_append (pv 3) (pa_cons (pe_ix ix_seq (pv 5) (pe_int) (fun _ _ => rfl)) pa_nil))))))
    (pss_cons (ps_fld (pv 0) (pv 1) rfl)
    (pss_one (ps_fld (pv 0) (pe_lc (own := [("walker", 6), ("deeds", 7)]) (g := (gTup K 2 (gCons (gName 6) (gCons (gName 7) gNil)))) (by rfl) sc_Plan_init.nd (pi_list (pv 2)) (blkOk_by (own := [("walker", 6), ("deeds", 7)]) (N := N_Plan_init) (sc := defScope s_Plan_init) (by decide +kernel)) (fun _ _ _ _ _ => (pg_tup rfl (pgs_cons (pg_name (i := 6) sc_Plan_init.nd rfl (by first | exact Or.inl rfl | exact Or.inr rfl)) (pgs_cons (pg_name (i := 7) sc_Plan_init.nd rfl (by first | exact Or.inl rfl | exact Or.inr rfl)) pgs_nil)))) (fun _ _ _ _ _ => pts_nil) (fun _ _ _ _ _ => pe_tup (pa_cons (pv 6) (pa_cons (pe_callTy call_listSq rfl T.f_list (by decide +kernel) (pa_cons (pv 7) pa_nil)) pa_nil)))) rfl))))), pure_Plan_init T h⟩), T.m_Plan, T.g_Plan, F.bindsN fun _ _ _ _ _ _ us hl => match us, hl with | [_, _, _], _ => rfl⟩
theorem ok_Plan_grounds (T : Tx K mg) : Met P w K mg base CX0 1 (He.ga K "Plan") "grounds" ["self"] (sp_Plan_grounds K) := by
  obtain ⟨fd, F⟩ := T.d_Plan_grounds
  exact ⟨_, fd, F.ok (CX := CX0) (N := N_Plan_grounds) (ps := ["self"]) (k := 0) (sp := sp_Plan_grounds K) sc_Plan_grounds (fun vs H Q E h => len_Plan_grounds h) (fun cdv A outer s H vs Q E hr h => ⟨t_Plan_grounds K, PSs.nox (pss_one (ps_ret (pe_fld (pv 0) rfl))), pure_Plan_grounds T h⟩), T.c_Plan, T.t_Plan_grounds, F.bindsN fun _ _ _ _ _ _ us hl => match us, hl with | [_], _ => rfl⟩
theorem ok_Plan_rows (T : Tx K mg) : Met P w K mg base CX0 1 (He.ga K "Plan") "rows" ["self"] (sp_Plan_rows K) := by
  obtain ⟨fd, F⟩ := T.d_Plan_rows
  exact ⟨_, fd, F.ok (CX := CX0) (N := N_Plan_rows) (ps := ["self"]) (k := 0) (sp := sp_Plan_rows K) sc_Plan_rows (fun vs H Q E h => len_Plan_rows h) (fun cdv A outer s H vs Q E hr h => ⟨t_Plan_rows K, PSs.nox (pss_one (ps_ret (pe_lc (own := [("walker", 1), ("deeds", 2)]) (g := (gTup K 2 (gCons (gName 1) (gCons (gName 2) gNil)))) (by rfl) sc_Plan_rows.nd (pi_list (pe_fld (pv 0) rfl)) (blkOk_by (own := [("walker", 1), ("deeds", 2)]) (N := N_Plan_rows) (sc := defScope s_Plan_rows) (by decide +kernel)) (fun _ _ _ _ _ => (pg_tup rfl (pgs_cons (pg_name (i := 1) sc_Plan_rows.nd rfl (by first | exact Or.inl rfl | exact Or.inr rfl)) (pgs_cons (pg_name (i := 2) sc_Plan_rows.nd rfl (by first | exact Or.inl rfl | exact Or.inr rfl)) pgs_nil)))) (fun _ _ _ _ _ => pts_nil) (fun _ _ _ _ _ => pe_tup (pa_cons (pv 1) (pa_cons (pe_callTy call_listSq rfl T.f_list (by decide +kernel) (pa_cons (pv 2) pa_nil)) pa_nil)))))), pure_Plan_rows T h⟩), T.c_Plan, T.t_Plan_rows, F.bindsN fun _ _ _ _ _ _ us hl => match us, hl with | [_], _ => rfl⟩
theorem ok_Plan_len (T : Tx K mg) : Met P w K mg base CX0 1 (He.ga K "Plan") "__len__" ["self"] (sp_Plan_len K) := by
  obtain ⟨fd, F⟩ := T.d_Plan_len
  exact ⟨_, fd, F.ok (CX := CX0) (N := N_Plan_len) (ps := ["self"]) (k := 0) (sp := sp_Plan_len K) sc_Plan_len (fun vs H Q E h => len_Plan_len h) (fun cdv A outer s H vs Q E hr h => ⟨t_Plan_len K, PSs.nox (pss_one (ps_ret (pe_callB call_lenA rfl T.f_len (by decide +kernel) (pa_cons (pe_lc2 (own := [("walker", 1), ("deeds", 2), ("deed", 3)]) (vs1 := [3]) (g := (gTup K 2 (gCons (gName 1) (gCons (gName 2) gNil)))) (g1 := (gName 3)) (by rfl) sc_Plan_len.nd (pi_list (pe_fld (pv 0) rfl)) (blkOk_by (own := [("walker", 1), ("deeds", 2), ("deed", 3)]) (N := N_Plan_len) (sc := defScope s_Plan_len) (by decide +kernel)) (by decide) (fun _ _ _ _ _ => (pg_tup rfl (pgs_cons (pg_name (i := 1) sc_Plan_len.nd rfl (by first | exact Or.inl rfl | exact Or.inr rfl)) (pgs_cons (pg_name (i := 2) sc_Plan_len.nd rfl (by first | exact Or.inl rfl | exact Or.inr rfl)) pgs_nil)))) (fun _ _ _ _ _ => pts_nil) (fun _ _ _ _ _ => pi_list (pv 2)) (fun _ _ _ _ _ => (pg_name (i := 3) sc_Plan_len.nd rfl (by first | exact Or.inl rfl | exact Or.inr rfl))) (fun _ _ _ _ _ => pts_nil) (fun _ _ _ _ _ => pv 3)) pa_nil)))), pure_Plan_len T h⟩), T.c_Plan, T.t_Plan_len, F.bindsN fun _ _ _ _ _ _ us hl => match us, hl with | [_], _ => rfl⟩
theorem ok_l_pot (T : Tx K mg) : Cal P w K mg base CX0 1 "_law_pot" ["_law_script", "_law_k"] (sp_l_pot K) := by
  obtain ⟨fd, F⟩ := T.d_l_pot
  exact ⟨_, fd, F.ok (CX := CX0) (N := N_l_pot) (ps := ["_law_script", "_law_k"]) (k := 0) (sp := sp_l_pot K) sc_l_pot (fun vs H Q E h => len_l_pot h) (fun cdv A outer s H vs Q E hr h => ⟨t_l_pot K, PSs.nox (pss_cons (ps_set (i := 2) sc_l_pot.nd rfl (by first | exact Or.inl rfl | exact Or.inr rfl) (pe_ifExp (pt_cmpR (op_ltI) (pv 1) (pe_callB call_lenA rfl T.f_len (by decide +kernel) (pa_cons (pv 0) pa_nil)) (nomark _)) (pe_ix ix_seq (pv 0) (pv 1) (fun _ _ => rfl)) (pe_int)))
    (pss_one (ps_ret (pe_lst (pa_cons (pe_callB (call_max2I rfl) rfl T.f_max (by decide +kernel) (pa_cons (pe_int) (pa_cons (pe_op op_subI (pv 2) (pe_op op_powI (pe_int) (pe_int))) pa_nil))) (pa_cons (pe_op op_modI (pe_op op_addA (pe_op op_addA (pe_op op_addA (pe_op op_mulI (pe_op op_modI (pv 2) (pe_int)) (pe_int)) (pe_op op_mulI (pe_op op_mulI (pe_int) (pv 1)) (pv 1))) (pe_op op_mulI (pe_int) (pv 1))) (pe_int)) (pe_int)) pa_nil)))))), pure_l_pot T h⟩), T.g_l_pot, F.kp, F.bindsN fun _ _ _ _ _ _ us hl => match us, hl with | [_, _], _ => rfl⟩
theorem ok_l_take (T : Tx K mg) : Cal P w K mg base CX0 1 "_law_take" ["_law_pot_here", "_law_many"] (sp_l_take K) := by
  obtain ⟨fd, F⟩ := T.d_l_take
  exact ⟨_, fd, F.ok (CX := CX0) (N := N_l_take) (ps := ["_law_pot_here", "_law_many"]) (k := 0) (sp := sp_l_take K) sc_l_take (fun vs H Q E h => len_l_take h) (fun cdv A outer s H vs Q E hr h => ⟨t_l_take K, PSs.nox (pss_cons (ps_if (pt_cmpR (op_gtI) (pe_ix ix_seq (pv 0) (pe_int) (fun _ _ => rfl)) (pe_int) (nomark _)) (pss_cons (ps_asg (pe_callB call_divmod rfl T.f_divmod (by decide +kernel) (pa_cons (pe_ix ix_seq (pv 0) (pe_int) (fun _ _ => rfl)) (pa_cons (pv 1) pa_nil))) (pg_tup rfl (pgs_cons (pg_sub (pv 0) (pe_int) set_list) (pgs_cons (pg_name (i := 2) sc_l_take.nd rfl (by first | exact Or.inl rfl | exact Or.inr rfl)) pgs_nil))))
    (pss_one (ps_ret (pv 2)))) (pss_nil))
    (pss_cons (ps_asg (pe_op op_modI (pe_op op_addA (pe_op op_mulI (pe_ix ix_seq (pv 0) (pe_int) (fun _ _ => rfl)) (pe_int)) (pe_int)) (pe_int)) (pg_sub (pv 0) (pe_int) set_list))
    (pss_one (ps_ret (pe_op op_modI (pe_op op_divI (pe_op op_modI (pe_op op_mulI (pe_ix ix_seq (pv 0) (pe_int) (fun _ _ => rfl)) (pe_ix ix_seq (pv 0) (pe_int) (fun _ _ => rfl))) (pe_int)) (pe_int)) (pv 1)))))), pure_l_take T h⟩), T.g_l_take, F.kp, F.bindsN fun _ _ _ _ _ _ us hl => match us, hl with | [_, _], _ => rfl⟩
theorem ok_l_names (T : Tx K mg) (c_l_take : Cal P w K mg base CX0 1 "_law_take" ["_law_pot_here", "_law_many"] (sp_l_take K)) : Cal P w K mg base CX0 2 "_law_names" ["_law_pot_here", "_law_many"] (sp_l_names K) := by
  obtain ⟨fd, F⟩ := T.d_l_names
  exact ⟨_, fd, F.ok (CX := CX0) (N := N_l_names) (ps := ["_law_pot_here", "_law_many"]) (k := 1) (sp := sp_l_names K) sc_l_names (fun vs H Q E h => len_l_names h) (fun cdv A outer s H vs Q E hr h => ⟨t_l_names K, PSs.nox (pss_cons (ps_set (i := 2) sc_l_names.nd rfl (by first | exact Or.inl rfl | exact Or.inr rfl) (pe_str))
    (pss_cons (ps_par (i := 3) (j := 4) (by rfl) sc_l_names.nd rfl rfl (by decide) rfl rfl (pa_cons (pe_callTy (call_listStr rfl) rfl T.f_list (by decide +kernel) (pa_cons (pv 2) pa_nil)) (pa_cons (pe_lst pa_nil) pa_nil)) (by rfl))
    (pss_cons (ps_for PassesOwn.never rfl (pi_range1 rfl T.f_range (pa_cons (pv 1) pa_nil)) (pg_name (i := 5) sc_l_names.nd rfl (by first | exact Or.inl rfl | exact Or.inr rfl)) (pss_cons (ps_set (i := 6) sc_l_names.nd rfl (by first | exact Or.inl rfl | exact Or.inr rfl) (pe_bm PySem.F.plainAttrs_list PySem.F.slot_list_pop PySem.F.type_list_pop mt_popAt (pv 3) (pa_cons (pe_wcall c_l_take hr (by decide) (fun σ => passD dead0 σ) (pa_cons (pv 0) (pa_cons (pe_callB call_lenA rfl T.f_len (by decide +kernel) (pa_cons (pv 3) pa_nil)) pa_nil))) pa_nil)))
    (pss_one (ps_expr (pe_bm PySem.F.plainAttrs_list PySem.F.slot_list_append PySem.F.type_list_append mt_append (pv 4) (pa_cons (pe_op op_addA (pv 6) (pe_m1 PySem.F.slot_str_join PySem.F.type_str_join mt_joinS (pe_str) (pe_lc (own := [("_law_j", 7)]) (g := (gName 7)) (by rfl) sc_l_names.nd (pi_range1 rfl T.f_range (pa_cons (pe_ix ix_seq (pe_lst (pa_cons (pe_int) (pa_cons (pe_int) (pa_cons (pe_int) (pa_cons (pe_int) pa_nil))))) (pe_wcall c_l_take hr (by decide) (fun σ => passD dead0 σ) (pa_cons (pv 0) (pa_cons (pe_int) pa_nil))) (fun _ _ => rfl)) pa_nil)) (blkOk_by (own := [("_law_j", 7)]) (N := N_l_names) (sc := defScope s_l_names) (by decide +kernel)) (fun _ _ _ _ _ => (pg_name (i := 7) sc_l_names.nd rfl (by first | exact Or.inl rfl | exact Or.inr rfl))) (fun _ _ _ _ _ => pts_nil) (fun _ _ _ _ _ => pe_ix ix_seq (pv 2) (pe_wcall c_l_take hr (by decide) (fun σ => passD dead0 σ) (pa_cons (pv 0) (pa_cons (pe_int) pa_nil))) (fun _ _ => rfl))))) pa_nil))))))
    (pss_one (ps_ret (pv 4)))))), pure_l_names T h⟩), T.g_l_names, F.kp, F.bindsN fun _ _ _ _ _ _ us hl => match us, hl with | [_, _], _ => rfl⟩
theorem ok_l_grounds (T : Tx K mg) (c_l_take : Cal P w K mg base CX0 1 "_law_take" ["_law_pot_here", "_law_many"] (sp_l_take K)) (c_l_names : Cal P w K mg base CX0 2 "_law_names" ["_law_pot_here", "_law_many"] (sp_l_names K)) (c_Map_init : Mak P w K mg base (L2N.CX P w) 5 "Map" (He.ga K "Map") ["self", "hosts", "walkers"] (sp_Map_init K)) : Cal P w K mg base CX0 7 "_law_grounds" ["_law_pot_here"] (sp_l_grounds K) := by
  obtain ⟨fd, F⟩ := T.d_l_grounds
  exact ⟨_, fd, F.ok (CX := CX0) (N := N_l_grounds) (ps := ["_law_pot_here"]) (k := 6) (sp := sp_l_grounds K) sc_l_grounds (fun vs H Q E h => len_l_grounds h) (fun cdv A outer s H vs Q E hr h => ⟨t_l_grounds K, PSs.nox (pss_cons (ps_asg (pe_tup (pa_cons (pe_op op_addA (pe_int) (pe_wcall c_l_take hr (by decide) (fun σ => passD dead0 σ) (pa_cons (pv 0) (pa_cons (pe_int) pa_nil)))) (pa_cons (pe_op op_addA (pe_int) (pe_wcall c_l_take hr (by decide) (fun σ => passD dead0 σ) (pa_cons (pv 0) (pa_cons (pe_int) pa_nil)))) pa_nil))) (pg_tup rfl (pgs_cons (pg_name (i := 1) sc_l_grounds.nd rfl (by first | exact Or.inl rfl | exact Or.inr rfl)) (pgs_cons (pg_name (i := 2) sc_l_grounds.nd rfl (by first | exact Or.inl rfl | exact Or.inr rfl)) pgs_nil))))
    (pss_cons (ps_set (i := 3) sc_l_grounds.nd rfl (by first | exact Or.inl rfl | exact Or.inr rfl) (pe_wcall c_l_names hr (by decide) (fun σ => passD dead0 σ) (pa_cons (pv 0) (pa_cons (pe_op op_addA (pv 1) (pv 2)) pa_nil))))
    (pss_cons (ps_setLc (i := 4) (own := [("_law_name", 5)]) (g := (gName 5)) (by rfl) sc_l_grounds.nd rfl rfl (sw_true rfl rfl rfl (by decide +kernel)) (pi_list (pe_slice sl_A (pv 3) (po_some (pv 1)) po_none)) (blkOk_by (own := [("_law_name", 5)]) (N := N_l_grounds) (sc := defScope s_l_grounds) (by decide +kernel)) (fun _ _ _ _ _ => (pg_name (i := 5) sc_l_grounds.nd rfl (by first | exact Or.inl rfl | exact Or.inr rfl))) (fun _ _ _ _ _ => pts_nil) (fun _ _ _ _ _ => pe_tup (pa_cons (pv 5) (pa_cons (pe_ix ix_seq (pv 3) (pe_wcall c_l_take hr (by decide) (fun σ => passD dead0 σ) (pa_cons (pv 0) (pa_cons (pv 1) pa_nil))) (fun _ _ => rfl)) pa_nil))))
    (pss_one (ps_ret (pe_wmake c_Map_init hr (by decide) (fun σ => passD deadN σ) (pa_cons (pe_slice sl_A (pv 3) po_none (po_some (pv 1))) (pa_cons (pv 4) pa_nil)))))))), pure_l_grounds T h⟩), T.g_l_grounds, F.kp, F.bindsN fun _ _ _ _ _ _ us hl => match us, hl with | [_], _ => rfl⟩
theorem ok_l_rows (T : Tx K mg) (c_Map_hosts : Met P w K mg base CX0 1 (He.ga K "Map") "hosts" ["self"] (sp_Map_hosts K)) (c_Map_walkers : Met P w K mg base CX0 1 (He.ga K "Map") "walkers" ["self"] (sp_Map_walkers K)) (c_l_take : Cal P w K mg base CX0 1 "_law_take" ["_law_pot_here", "_law_many"] (sp_l_take K)) : Cal P w K mg base CX0 2 "_law_rows" ["_law_pot_here", "_law_grounds_here", "_law_most"] (sp_l_rows K) := by
  obtain ⟨fd, F⟩ := T.d_l_rows
  exact ⟨_, fd, F.ok (CX := CX0) (N := N_l_rows) (ps := ["_law_pot_here", "_law_grounds_here", "_law_most"]) (k := 1) (sp := sp_l_rows K) sc_l_rows (fun vs H Q E h => len_l_rows h) (fun cdv A outer s H vs Q E hr h => ⟨t_l_rows K, PSs.nox (pss_cons (ps_par (i := 3) (j := 4) (by rfl) sc_l_rows.nd rfl rfl (by decide) rfl rfl (pa_cons (pe_wmeth0 (pv 1) c_Map_walkers hr (by decide) (fun σ => passD dead0 σ)) (pa_cons (pe_wmeth0 (pv 1) c_Map_hosts hr (by decide) (fun σ => passD dead0 σ)) pa_nil)) (by rfl))
    (pss_cons (ps_set (i := 5) sc_l_rows.nd rfl (by first | exact Or.inl rfl | exact Or.inr rfl) (pe_callTy (call_dictPs rfl) rfl T.f_dict (by decide +kernel) (pa_cons (pe_lc (own := [("_law_name", 7)]) (g := (gName 7)) (by rfl) sc_l_rows.nd (pi_list (pv 3)) (blkOk_by (own := [("_law_name", 7)]) (N := N_l_rows) (sc := defScope s_l_rows) (by decide +kernel)) (fun _ _ _ _ _ => (pg_name (i := 7) sc_l_rows.nd rfl (by first | exact Or.inl rfl | exact Or.inr rfl))) (fun _ _ _ _ _ => pts_nil) (fun _ _ _ _ _ => pe_tup (pa_cons (pv 7) (pa_cons (pe_lst pa_nil) pa_nil)))) pa_nil)))
    (pss_cons (ps_for PassesOwn.never rfl (pi_range1 rfl T.f_range (pa_cons (pe_op op_addA (pe_int) (pe_wcall c_l_take hr (by decide) (fun σ => passD dead0 σ) (pa_cons (pv 0) (pa_cons (pv 2) pa_nil)))) pa_nil)) (pg_name (i := 6) sc_l_rows.nd rfl (by first | exact Or.inl rfl | exact Or.inr rfl)) (pss_cons (ps_par (i := 7) (j := 8) (by rfl) sc_l_rows.nd rfl rfl (by decide) rfl rfl (pa_cons (pe_ix ix_seq (pv 3) (pe_wcall c_l_take hr (by decide) (fun σ => passD dead0 σ) (pa_cons (pv 0) (pa_cons (pe_callB call_lenA rfl T.f_len (by decide +kernel) (pa_cons (pv 3) pa_nil)) pa_nil))) (fun _ _ => rfl)) (pa_cons (pe_ix ix_seq (pv 3) (pe_wcall c_l_take hr (by decide) (fun σ => passD dead0 σ) (pa_cons (pv 0) (pa_cons (pe_callB call_lenA rfl T.f_len (by decide +kernel) (pa_cons (pv 3) pa_nil)) pa_nil))) (fun _ _ => rfl)) pa_nil)) (by rfl))
    (pss_cons (ps_set (i := 9) sc_l_rows.nd rfl (by first | exact Or.inl rfl | exact Or.inr rfl) (pe_tup (pa_cons (pe_str) (pa_cons (pv 8) (pa_cons (pe_op op_addA (pe_str) (pe_callTy call_strI rfl T.f_str (by decide +kernel) (pa_cons (pv 6) pa_nil))) pa_nil)))))
    (pss_cons (ps_if (pt_cmpR (op_eqA (hu64 hr)) (pe_wcall c_l_take hr (by decide) (fun σ => passD dead0 σ) (pa_cons (pv 0) (pa_cons (pe_int) pa_nil))) (pe_int) (nomark _)) (pss_one (ps_set (i := 9) sc_l_rows.nd rfl (by first | exact Or.inl rfl | exact Or.inr rfl) (pe_tup (pa_cons (pe_str) (pa_cons (pe_ix ix_seq (pv 4) (pe_wcall c_l_take hr (by decide) (fun σ => passD dead0 σ) (pa_cons (pv 0) (pa_cons (pe_callB call_lenA rfl T.f_len (by decide +kernel) (pa_cons (pv 4) pa_nil)) pa_nil))) (fun _ _ => rfl)) pa_nil))))) (pss_nil))
    (pss_one (ps_expr (pe_bm PySem.F.plainAttrs_list PySem.F.slot_list_append PySem.F.type_list_append mt_append (pe_dget (hu_of hr) (pv 5) (pv 7) (fun _ _ => rfl)) (pa_cons (pv 9) pa_nil))))))))
    (pss_cons (ps_set (i := 10) sc_l_rows.nd rfl (by first | exact Or.inl rfl | exact Or.inr rfl) (pe_callTy call_listSq rfl T.f_list (by decide +kernel) (pa_cons (pv 3) pa_nil)))
    (pss_cons (ps_setLc (i := 11) (own := [("_law_name", 7)]) (g := (gName 7)) (by rfl) sc_l_rows.nd rfl rfl (sw_true rfl rfl rfl (by decide +kernel)) (pi_list (pv 3)) (blkOk_by (own := [("_law_name", 7)]) (N := N_l_rows) (sc := defScope s_l_rows) (by decide +kernel)) (fun _ _ _ _ _ => (pg_name (i := 7) sc_l_rows.nd rfl (by first | exact Or.inl rfl | exact Or.inr rfl))) (fun _ _ _ _ _ => pts_nil) (fun _ _ _ _ _ => pe_bm PySem.F.plainAttrs_list PySem.F.slot_list_pop PySem.F.type_list_pop mt_popAt (pv 10) (pa_cons (pe_wcall c_l_take hr (by decide) (fun σ => passD dead0 σ) (pa_cons (pv 0) (pa_cons (pe_callB call_lenA rfl T.f_len (by decide +kernel) (pa_cons (pv 10) pa_nil)) pa_nil))) pa_nil)))
    (pss_one (ps_ret (pe_lc (own := [("_law_name", 7)]) (g := (gName 7)) (by rfl) sc_l_rows.nd (pi_list (pv 11)) (blkOk_by (own := [("_law_name", 7)]) (N := N_l_rows) (sc := defScope s_l_rows) (by decide +kernel)) (fun _ _ _ _ _ => (pg_name (i := 7) sc_l_rows.nd rfl (by first | exact Or.inl rfl | exact Or.inr rfl))) (fun _ _ _ _ _ => pts_one (PW.pt (pw_or (pt_cmpR (op_neNil (hu64 hr)) (pe_dget (hu_of hr) (pv 5) (pv 7) (fun _ _ => rfl)) (pe_lst pa_nil) (nomark _)) (pw_or1 (pt_cmpR (op_eqA (hu64 hr)) (pe_wcall c_l_take hr (by decide) (fun σ => passD dead0 σ) (pa_cons (pv 0) (pa_cons (pe_int) pa_nil))) (pe_int) (nomark _)))))) (fun _ _ _ _ _ => pe_tup (pa_cons (pv 7) (pa_cons (pe_dget (hu_of hr) (pv 5) (pv 7) (fun _ _ => rfl)) pa_nil))))))))))), pure_l_rows T h⟩), T.g_l_rows, F.kp, F.bindsN fun _ _ _ _ _ _ us hl => match us, hl with | [_, _, _], _ => rfl⟩
theorem ok_l_bad_deed (T : Tx K mg) (c_Map_hosts : Met P w K mg base CX0 1 (He.ga K "Map") "hosts" ["self"] (sp_Map_hosts K)) (c_Map_walkers : Met P w K mg base CX0 1 (He.ga K "Map") "walkers" ["self"] (sp_Map_walkers K)) (c_l_take : Cal P w K mg base CX0 1 "_law_take" ["_law_pot_here", "_law_many"] (sp_l_take K)) : Cal P w K mg base CX0 2 "_law_bad_deed" ["_law_pot_here", "_law_grounds_here"] (sp_l_bad_deed K) := by
  obtain ⟨fd, F⟩ := T.d_l_bad_deed
  exact ⟨_, fd, F.ok (CX := CX0) (N := N_l_bad_deed) (ps := ["_law_pot_here", "_law_grounds_here"]) (k := 1) (sp := sp_l_bad_deed K) sc_l_bad_deed (fun vs H Q E h => len_l_bad_deed h) (fun cdv A outer s H vs Q E hr h => ⟨t_l_bad_deed K, PSs.nox (pss_cons (ps_par (i := 2) (j := 3) (by rfl) sc_l_bad_deed.nd rfl rfl (by decide) rfl rfl (pa_cons (pe_ix ix_seq (pe_wmeth0 (pv 1) c_Map_walkers hr (by decide) (fun σ => passD dead0 σ)) (pe_int) (fun _ _ => rfl)) (pa_cons (pe_ix ix_seq (pe_wmeth0 (pv 1) c_Map_hosts hr (by decide) (fun σ => passD dead0 σ)) (pe_int) (fun _ _ => rfl)) pa_nil)) (by rfl))
    (pss_cons (ps_set (i := 4) sc_l_bad_deed.nd rfl (by first | exact Or.inl rfl | exact Or.inr rfl) (pe_lst (pa_cons (pe_tup (pa_cons (pe_str) (pa_cons (pv 3) (pa_cons (pe_str) pa_nil)))) (pa_cons (pe_tup (pa_cons (pe_str) (pa_cons (pv 2) (pa_cons (pe_str) pa_nil)))) (pa_cons (pe_tup (pa_cons (pe_str) (pa_cons (pv 2) (pa_cons (pe_str) pa_nil)))) (pa_cons (pe_tup (pa_cons (pe_str) (pa_cons (pv 2) (pa_cons (pe_str) pa_nil)))) (pa_cons (pe_non) pa_nil)))))))
    (pss_cons (ps_set (i := 4) sc_l_bad_deed.nd rfl (by first | exact Or.inl rfl | exact Or.inr rfl) (pe_op op_addA (pv 4) (pe_lst (pa_cons (pe_tup (pa_cons (pe_str) (pa_cons (pv 2) pa_nil))) (pa_cons (pe_tup (pa_cons (pe_str) (pa_cons (pv 2) (pa_cons (pe_str) (pa_cons (pe_str) pa_nil))))) (pa_cons (pe_lst (pa_cons (pe_str) (pa_cons (pv 2) (pa_cons (pe_str) pa_nil)))) (pa_cons (pe_tup (pa_cons (pe_str) (pa_cons (pv 2) pa_nil))) (pa_cons (pe_tup (pa_cons (pe_str) pa_nil)) (pa_cons (pe_tup pa_nil) pa_nil)))))))))
    (pss_cons (ps_set (i := 4) sc_l_bad_deed.nd rfl (by first | exact Or.inl rfl | exact Or.inr rfl) (pe_op op_addA (pv 4) (pe_lst (pa_cons (pe_tup (pa_cons (pe_str) (pa_cons (pv 3) (pa_cons (pv 3) pa_nil)))) (pa_cons (pe_tup (pa_cons (pe_str) (pa_cons (pe_lst (pa_cons (pv 3) pa_nil)) pa_nil))) (pa_cons (pe_tup (pa_cons (pe_str) (pa_cons (pv 3) (pa_cons (pv 3) pa_nil)))) (pa_cons (pe_tup (pa_cons (pe_str) (pa_cons (pe_non) (pa_cons (pe_str) pa_nil)))) (pa_cons (pe_int) (pa_cons (pe_str) pa_nil)))))))))
    (pss_cons (ps_set (i := 4) sc_l_bad_deed.nd rfl (by first | exact Or.inl rfl | exact Or.inr rfl) (pe_op op_addA (pv 4) (pe_lst (pa_cons (pe_tup (pa_cons (pe_str) (pa_cons (pv 2) (pa_cons (pe_int) pa_nil)))) (pa_cons (pe_tup (pa_cons (pe_str) (pa_cons (pe_non) pa_nil))) (pa_cons (pe_tup (pa_cons (pe_str) (pa_cons (pv 3) pa_nil))) (pa_cons (pe_tup (pa_cons (pe_lst (pa_cons (pe_str) pa_nil)) (pa_cons (pv 3) pa_nil))) (pa_cons (pe_tup (pa_cons (pe_str) (pa_cons (pe_dnewK) (pa_cons (pe_str) pa_nil)))) (pa_cons (pe_dnewK) pa_nil)))))))))
    (pss_one (ps_ret (pe_ix ix_seq (pv 4) (pe_wcall c_l_take hr (by decide) (fun σ => passD dead0 σ) (pa_cons (pv 0) (pa_cons (pe_callB call_lenA rfl T.f_len (by decide +kernel) (pa_cons (pv 4) pa_nil)) pa_nil))) (fun _ _ => rfl))))))))), pure_l_bad_deed T h⟩), T.g_l_bad_deed, F.kp, F.bindsN fun _ _ _ _ _ _ us hl => match us, hl with | [_, _], _ => rfl⟩
theorem ok_l_spoilt (T : Tx K mg) (c_l_take : Cal P w K mg base CX0 1 "_law_take" ["_law_pot_here", "_law_many"] (sp_l_take K)) (c_Map_hosts : Met P w K mg base CX0 1 (He.ga K "Map") "hosts" ["self"] (sp_Map_hosts K)) (c_l_bad_deed : Cal P w K mg base CX0 2 "_law_bad_deed" ["_law_pot_here", "_law_grounds_here"] (sp_l_bad_deed K)) : Cal P w K mg base CX0 3 "_law_spoilt" ["_law_pot_here", "_law_grounds_here", "_law_rows_here"] (sp_l_spoilt K) := by
  obtain ⟨fd, F⟩ := T.d_l_spoilt
  exact ⟨_, fd, F.ok (CX := CX0) (N := N_l_spoilt) (ps := ["_law_pot_here", "_law_grounds_here", "_law_rows_here"]) (k := 2) (sp := sp_l_spoilt K) sc_l_spoilt (fun vs H Q E h => len_l_spoilt h) (fun cdv A outer s H vs Q E hr h => ⟨t_l_spoilt K, PSs.nox (pss_cons (ps_par (i := 3) (j := 4) (by rfl) sc_l_spoilt.nd rfl rfl (by decide) rfl rfl (pa_cons (pe_wcall c_l_take hr (by decide) (fun σ => passD dead0 σ) (pa_cons (pv 0) (pa_cons (pe_callB call_lenA rfl T.f_len (by decide +kernel) (pa_cons (pv 2) pa_nil)) pa_nil))) (pa_cons (pe_wcall c_l_take hr (by decide) (fun σ => passD dead0 σ) (pa_cons (pv 0) (pa_cons (pe_int) pa_nil))) pa_nil)) (by rfl))
    (pss_cons (ps_par (i := 5) (j := 6) (by rfl) sc_l_spoilt.nd rfl rfl (by decide) rfl rfl (pa_cons (pe_ix ix_seq (pe_ix ix_seq (pv 2) (pv 3) (fun _ _ => rfl)) (pe_int) (fun _ _ => rfl)) (pa_cons (pe_ix ix_seq (pe_ix ix_seq (pv 2) (pv 3) (fun _ _ => rfl)) (pe_int) (fun _ _ => rfl)) pa_nil)) (by rfl))
    (pss_cons (ps_set (i := 7) sc_l_spoilt.nd rfl (by first | exact Or.inl rfl | exact Or.inr rfl) (pe_ix ix_seq (pv 2) (pv 3) (fun _ _ => rfl)))
    (pss_cons (ps_if (pt_cmpR (op_eqA (hu64 hr)) (pv 4) (pe_int) (nomark _)) (pss_one (ps_set (i := 7) sc_l_spoilt.nd rfl (by first | exact Or.inl rfl | exact Or.inr rfl) (pe_ix ix_seq (pe_lst (pa_cons (pe_non) (pa_cons (pe_callTy call_listSq rfl T.f_list (by decide +kernel) (pa_cons (pv 7) pa_nil)) (pa_cons (pe_tup (pa_cons (pv 5) pa_nil)) (pa_cons (pe_tup (pa_cons (pv 5) (pa_cons (pv 6) (pa_cons (pe_int) pa_nil)))) (pa_cons (pe_tup pa_nil) (pa_cons (pv 5) (pa_cons (pe_int) (pa_cons (pe_dnewK) pa_nil))))))))) (pe_wcall c_l_take hr (by decide) (fun σ => passD dead0 σ) (pa_cons (pv 0) (pa_cons (pe_int) pa_nil))) (fun _ _ => rfl)))) (pss_nil))
    (pss_cons (ps_if (pt_cmpR (op_eqA (hu64 hr)) (pv 4) (pe_int) (nomark _)) (pss_one (ps_set (i := 7) sc_l_spoilt.nd rfl (by first | exact Or.inl rfl | exact Or.inr rfl) (pe_tup (pa_cons (pe_ix ix_seq (pe_lst (pa_cons (pe_non) (pa_cons (pe_str) (pa_cons (pe_ix ix_seq (pe_wmeth0 (pv 1) c_Map_hosts hr (by decide) (fun σ => passD dead0 σ)) (pe_int) (fun _ _ => rfl)) (pa_cons (pe_lst (pa_cons (pv 5) pa_nil)) (pa_cons (pe_int) (pa_cons (pe_op op_addA (pv 5) (pe_str)) (pa_cons (pe_ix ix_seq (pe_ix ix_seq (pv 2) (pe_int) (fun _ _ => rfl)) (pe_int) (fun _ _ => rfl)) pa_nil)))))))) (pe_wcall c_l_take hr (by decide) (fun σ => passD dead0 σ) (pa_cons (pv 0) (pa_cons (pe_int) pa_nil))) (fun _ _ => rfl)) (pa_cons (pv 6) pa_nil))))) (pss_nil))
    (pss_cons (ps_if (pt_cmpR (op_eqA (hu64 hr)) (pv 4) (pe_int) (nomark _)) (pss_one (ps_set (i := 7) sc_l_spoilt.nd rfl (by first | exact Or.inl rfl | exact Or.inr rfl) (pe_tup (pa_cons (pv 5) (pa_cons (pe_ix ix_seq (pe_lst (pa_cons (pe_non) (pa_cons (pe_callTy call_tupSq rfl T.f_tuple (by decide +kernel) (pa_cons (pv 6) pa_nil)) (pa_cons (pe_dnewK) (pa_cons (pe_str) (pa_cons (pe_int) (pa_cons (pe_tup (pa_cons (pe_str) (pa_cons (pe_ix ix_seq (pe_wmeth0 (pv 1) c_Map_hosts hr (by decide) (fun σ => passD dead0 σ)) (pe_int) (fun _ _ => rfl)) pa_nil))) pa_nil))))))) (pe_wcall c_l_take hr (by decide) (fun σ => passD dead0 σ) (pa_cons (pv 0) (pa_cons (pe_int) pa_nil))) (fun _ _ => rfl)) pa_nil))))) (pss_nil))
    (pss_cons (ps_if (pt_cmpR (op_gtI) (pv 4) (pe_int) (nomark _)) (pss_cons (ps_set (i := 8) sc_l_spoilt.nd rfl (by first | exact Or.inl rfl | exact Or.inr rfl) (pe_wcall c_l_take hr (by decide) (fun σ => passD dead0 σ) (pa_cons (pv 0) (pa_cons (pe_op op_addA (pe_callB call_lenA rfl T.f_len (by decide +kernel) (pa_cons (pv 6) pa_nil)) (pe_int)) pa_nil))))
    (pss_one (ps_set (i := 7) sc_l_spoilt.nd rfl (by first | exact Or.inl rfl | exact Or.inr rfl) (pe_tup (pa_cons (pv 5) (pa_cons (pe_op op_addA (pe_op op_addA (pe_slice sl_A (pv 6) po_none (po_some (pv 8))) (pe_lst (pa_cons (pe_wcall c_l_bad_deed hr (by decide) (fun σ => passD dead0 σ) (pa_cons (pv 0) (pa_cons (pv 1) pa_nil))) pa_nil))) (pe_slice sl_A (pv 6) (po_some (pv 8)) po_none)) pa_nil)))))) (pss_nil))
    (pss_one (ps_ret (pe_op op_addA (pe_op op_addA (pe_slice sl_A (pv 2) po_none (po_some (pv 3))) (pe_lst (pa_cons (pv 7) pa_nil))) (pe_slice sl_A (pv 2) (po_some (pe_op op_addA (pv 3) (pe_int))) po_none))))))))))), pure_l_spoilt T h⟩), T.g_l_spoilt, F.kp, F.bindsN fun _ _ _ _ _ _ us hl => match us, hl with | [_, _, _], _ => rfl⟩
theorem ok_l_is_row (T : Tx K mg) : Cal P w K mg base CX0 1 "_law_is_row" ["_law_row"] (sp_l_is_row K) := by
  obtain ⟨fd, F⟩ := T.d_l_is_row
  exact ⟨_, fd, F.ok (CX := CX0) (N := N_l_is_row) (ps := ["_law_row"]) (k := 0) (sp := sp_l_is_row K) sc_l_is_row (fun vs H Q E h => len_l_is_row h) (fun cdv A outer s H vs Q E hr h => ⟨t_l_is_row K, PSs.nox (pss_cons (ps_if (PW.pt (pw_or (pt_not (pt_val (pe_callB call_isi rfl T.f_isinstance (by decide +kernel) (pa_cons (pv 0) (pa_cons (pe_bltn rfl T.f_tuple (by decide +kernel) rfl) pa_nil))))) (pw_or1 (pt_cmpR (op_neA (hu64 hr)) (pe_callB call_lenA rfl T.f_len (by decide +kernel) (pa_cons (pv 0) pa_nil)) (pe_int) (nomark _))))) (pss_one (ps_ret (pe_bl))) (pss_nil))
    (pss_one (ps_ret (pe_and (pe_callB call_isi rfl T.f_isinstance (by decide +kernel) (pa_cons (pe_ix ix_seq (pv 0) (pe_int) (fun _ _ => rfl)) (pa_cons (pe_bltn rfl T.f_str (by decide +kernel) rfl) pa_nil))) (pe_one (pe_callB call_isi rfl T.f_isinstance (by decide +kernel) (pa_cons (pe_ix ix_seq (pv 0) (pe_int) (fun _ _ => rfl)) (pa_cons (pe_bltn rfl T.f_list (by decide +kernel) rfl) pa_nil)))))))), pure_l_is_row T h⟩), T.g_l_is_row, F.kp, F.bindsN fun _ _ _ _ _ _ us hl => match us, hl with | [_], _ => rfl⟩
theorem ok_l_is_word (T : Tx K mg) : Cal P w K mg base CX0 1 "_law_is_word" ["_law_thing"] (sp_l_is_word K) := by
  obtain ⟨fd, F⟩ := T.d_l_is_word
  exact ⟨_, fd, F.ok (CX := CX0) (N := N_l_is_word) (ps := ["_law_thing"]) (k := 0) (sp := sp_l_is_word K) sc_l_is_word (fun vs H Q E h => len_l_is_word h) (fun cdv A outer s H vs Q E hr h => ⟨t_l_is_word K, PSs.nox (pss_cons (ps_set (i := 1) sc_l_is_word.nd rfl (by first | exact Or.inl rfl | exact Or.inr rfl) (pe_str))
    (pss_cons (ps_if (PW.pt (pw_or (pt_not (pt_val (pe_callB call_isi rfl T.f_isinstance (by decide +kernel) (pa_cons (pv 0) (pa_cons (pe_bltn rfl T.f_str (by decide +kernel) rfl) pa_nil))))) (pw_or1 (pt_not (pt_chain (op_leI) (op_leI) (pe_int) (pe_callB call_lenA rfl T.f_len (by decide +kernel) (pa_cons (pv 0) pa_nil)) (pe_int)))))) (pss_one (ps_ret (pe_bl))) (pss_nil))
    (pss_one (ps_ret (pe_cmpR (op_eqNil (hu64 hr)) (pe_lc (own := [("_law_sign", 2)]) (g := (gName 2)) (by rfl) sc_l_is_word.nd (pi_str (pv 0)) (blkOk_by (own := [("_law_sign", 2)]) (N := N_l_is_word) (sc := defScope s_l_is_word) (by decide +kernel)) (fun _ _ _ _ _ => (pg_name (i := 2) sc_l_is_word.nd rfl (by first | exact Or.inl rfl | exact Or.inr rfl))) (fun _ _ _ _ _ => pts_one (pt_cmpR op_niSgn (pv 2) (pv 1) rfl)) (fun _ _ _ _ _ => pv 2)) (pe_lst pa_nil) (nomark _)))))), pure_l_is_word T h⟩), T.g_l_is_word, F.kp, F.bindsN fun _ _ _ _ _ _ us hl => match us, hl with | [_], _ => rfl⟩
theorem ok_l_is_deed (T : Tx K mg) (c_Map_hosts : Met P w K mg base CX0 1 (He.ga K "Map") "hosts" ["self"] (sp_Map_hosts K)) (c_Map_walkers : Met P w K mg base CX0 1 (He.ga K "Map") "walkers" ["self"] (sp_Map_walkers K)) (c_l_is_word : Cal P w K mg base CX0 1 "_law_is_word" ["_law_thing"] (sp_l_is_word K)) : Cal P w K mg base CX0 2 "_law_is_deed" ["_law_thing", "_law_grounds_here"] (sp_l_is_deed K) := by
  obtain ⟨fd, F⟩ := T.d_l_is_deed
  exact ⟨_, fd, F.ok (CX := CX0) (N := N_l_is_deed) (ps := ["_law_thing", "_law_grounds_here"]) (k := 1) (sp := sp_l_is_deed K) sc_l_is_deed (fun vs H Q E h => len_l_is_deed h) (fun cdv A outer s H vs Q E hr h => ⟨t_l_is_deed K, PSs.nox (pss_cons (ps_if (PW.pt (pw_or (pt_not (pt_val (pe_callB call_isi rfl T.f_isinstance (by decide +kernel) (pa_cons (pv 0) (pa_cons (pe_bltn rfl T.f_tuple (by decide +kernel) rfl) pa_nil))))) (pw_or1 (pt_cmpR (op_ltI) (pe_callB call_lenA rfl T.f_len (by decide +kernel) (pa_cons (pv 0) pa_nil)) (pe_int) (nomark _))))) (pss_one (ps_ret (pe_bl))) (pss_nil))
    (pss_cons (ps_if (pt_cmpR (op_eqA (hu64 hr)) (pe_callB call_lenA rfl T.f_len (by decide +kernel) (pa_cons (pv 0) pa_nil)) (pe_int) (nomark _)) (pss_one (ps_ret (pe_and (pe_cmpR (op_eqQ (hu64 hr)) (pe_ix ix_seq (pv 0) (pe_int) (fun _ _ => rfl)) (pe_str) (nomark _)) (pe_one (pe_cmpR (op_inQ (hu64 hr)) (pe_ix ix_seq (pv 0) (pe_int) (fun _ _ => rfl)) (pe_wmeth0 (pv 1) c_Map_hosts hr (by decide) (fun σ => passD dead0 σ)) rfl))))) (pss_nil))
    (pss_one (ps_ret (pe_and (pe_cmpR (op_eqA (hu64 hr)) (pe_callB call_lenA rfl T.f_len (by decide +kernel) (pa_cons (pv 0) pa_nil)) (pe_int) (nomark _)) (pe_and (pe_cmpR (op_eqQ (hu64 hr)) (pe_ix ix_seq (pv 0) (pe_int) (fun _ _ => rfl)) (pe_str) (nomark _)) (pe_and (pe_cmpR (op_inQ (hu64 hr)) (pe_ix ix_seq (pv 0) (pe_int) (fun _ _ => rfl)) (pe_wmeth0 (pv 1) c_Map_walkers hr (by decide) (fun σ => passD dead0 σ)) rfl) (pe_one (pe_wcall c_l_is_word hr (by decide) (fun σ => passD dead0 σ) (pa_cons (pe_ix ix_seq (pv 0) (pe_int) (fun _ _ => rfl)) pa_nil)))))))))), pure_l_is_deed T h⟩), T.g_l_is_deed, F.kp, F.bindsN fun _ _ _ _ _ _ us hl => match us, hl with | [_, _], _ => rfl⟩
theorem ok_l_due (T : Tx K mg) (c_Map_walkers : Met P w K mg base CX0 1 (He.ga K "Map") "walkers" ["self"] (sp_Map_walkers K)) (c_l_is_deed : Cal P w K mg base CX0 2 "_law_is_deed" ["_law_thing", "_law_grounds_here"] (sp_l_is_deed K)) : Cal P w K mg base CX0 3 "_law_due" ["_law_rows_here", "_law_grounds_here"] (sp_l_due K) := by
  obtain ⟨fd, F⟩ := T.d_l_due
  exact ⟨_, fd, F.ok (CX := CX0) (N := N_l_due) (ps := ["_law_rows_here", "_law_grounds_here"]) (k := 2) (sp := sp_l_due K) sc_l_due (fun vs H Q E h => len_l_due h) (fun cdv A outer s H vs Q E hr h => ⟨t_l_due K, PSs.nox (pss_cons (ps_if (pt_not (pt_val (pe_callB call_isi rfl T.f_isinstance (by decide +kernel) (pa_cons (pv 0) (pa_cons (pe_bltn rfl T.f_list (by decide +kernel) rfl) pa_nil))))) (pss_one (ps_ret (pe_str))) (pss_nil))
    (pss_cons (ps_set (i := 2) sc_l_due.nd rfl (by first | exact Or.inl rfl | exact Or.inr rfl) (pe_lst pa_nil))
    (pss_cons (ps_for PassesOwn.never rfl (pi_enum rfl T.f_enumerate (pa_cons (pv 0) pa_nil)) (pg_tup rfl (pgs_cons (pg_name (i := 3) sc_l_due.nd rfl (by first | exact Or.inl rfl | exact Or.inr rfl)) (pgs_cons (pg_name (i := 4) sc_l_due.nd rfl (by first | exact Or.inl rfl | exact Or.inr rfl)) pgs_nil))) (pss_cons (ps_if (PW.pt (pw_or (pt_not (pt_val (pe_callB call_isi rfl T.f_isinstance (by decide +kernel) (pa_cons (pv 4) (pa_cons (pe_bltn rfl T.f_tuple (by decide +kernel) rfl) pa_nil))))) (pw_or (pt_cmpR (op_neA (hu64 hr)) (pe_callB call_lenA rfl T.f_len (by decide +kernel) (pa_cons (pv 4) pa_nil)) (pe_int) (nomark _)) (pw_or (pt_cmpR (op_niQ (hu64 hr)) (pe_ix ix_seq (pv 4) (pe_int) (fun _ _ => rfl)) (pe_wmeth0 (pv 1) c_Map_walkers hr (by decide) (fun σ => passD dead0 σ)) rfl) (pw_or1 (pt_cmpR (op_inQ (hu64 hr)) (pe_ix ix_seq (pv 4) (pe_int) (fun _ _ => rfl)) (pv 2) rfl)))))) (pss_one (ps_ret (pe_callTy call_strI rfl T.f_str (by decide +kernel) (pa_cons (pv 3) pa_nil)))) (pss_nil))
    (pss_cons (ps_if (PW.pt (pw_or (pt_not (pt_val (pe_callB call_isi rfl T.f_isinstance (by decide +kernel) (pa_cons (pe_ix ix_seq (pv 4) (pe_int) (fun _ _ => rfl)) (pa_cons (pe_bltn rfl T.f_list (by decide +kernel) rfl) pa_nil))))) (pw_or1 (pt_cmpR (op_neNil (hu64 hr)) (pe_lc (own := [("_law_deed", 5)]) (g := (gName 5)) (by rfl) sc_l_due.nd (pi_list (pe_ix ix_seq (pv 4) (pe_int) (fun _ _ => rfl))) (blkOk_by (own := [("_law_deed", 5)]) (N := N_l_due) (sc := defScope s_l_due) (by decide +kernel)) (fun _ _ _ _ _ => (pg_name (i := 5) sc_l_due.nd rfl (by first | exact Or.inl rfl | exact Or.inr rfl))) (fun _ _ _ _ _ => pts_one (pt_not (pt_val (pe_wcall c_l_is_deed hr (by decide) (fun σ => passD dead0 σ) (pa_cons (pv 5) (pa_cons (pv 1) pa_nil)))))) (fun _ _ _ _ _ => pv 5)) (pe_lst pa_nil) (nomark _))))) (pss_one (ps_ret (pe_ix ix_seq (pv 4) (pe_int) (fun _ _ => rfl)))) (pss_nil))
    (pss_one (ps_expr (pe_bm PySem.F.plainAttrs_list PySem.F.slot_list_append PySem.F.type_list_append mt_append (pv 2) (pa_cons (pe_ix ix_seq (pv 4) (pe_int) (fun _ _ => rfl)) pa_nil)))))))
    (pss_one (ps_ret (pe_non)))))), pure_l_due T h⟩), T.g_l_due, F.kp, F.bindsN fun _ _ _ _ _ _ us hl => match us, hl with | [_, _], _ => rfl⟩
theorem ok_l_right (T : Tx K mg) (c_l_due : Cal P w K mg base CX0 3 "_law_due" ["_law_rows_here", "_law_grounds_here"] (sp_l_due K)) (c_Plan_init : Mak P w K mg base (L2N.CX P w) 5 "Plan" (He.ga K "Plan") ["self", "grounds", "rows"] (sp_Plan_init K)) (c_Plan_rows : Met P w K mg base CX0 1 (He.ga K "Plan") "rows" ["self"] (sp_Plan_rows K)) (c_Plan_grounds : Met P w K mg base CX0 1 (He.ga K "Plan") "grounds" ["self"] (sp_Plan_grounds K)) (c_Map_eq : Met P w K mg base CX0 1 (He.ga K "Map") "__eq__" ["self", "other"] (sp_Map_eq K)) (c_Plan_len : Met P w K mg base CX0 1 (He.ga K "Plan") "__len__" ["self"] (sp_Plan_len K)) : CalG P w K mg base 7 "_law_right" ["_law_grounds_here", "_law_rows_here"] (sp_l_right K) := by
  obtain ⟨fd, F⟩ := T.d_l_right
  exact ⟨_, fd, funG (N := N_l_right) (ps := ["_law_grounds_here", "_law_rows_here"]) (k := 6) (sp := sp_l_right K) F sc_l_right (fun vs H Q E h => len_l_right h) (fun cdv A outer s H vs Q E hg hr h => ⟨t_l_right K, PSs.nox (pss_cons (ps_par (i := 2) (j := 3) (by rfl) sc_l_right.nd rfl rfl (by decide) rfl rfl (pa_cons (pe_wcall c_l_due hr (by decide) (fun σ => passD dead0 σ) (pa_cons (pv 1) (pa_cons (pv 0) pa_nil))) (pa_cons (pe_callB (call_reprQ hg (hu64 hr) T.y_sys) rfl T.f_repr (by decide +kernel) (pa_cons (pv 1) pa_nil)) pa_nil)) (by rfl))
    (pss_cons (ps_set (i := 4) sc_l_right.nd rfl (by first | exact Or.inl rfl | exact Or.inr rfl) (pe_str))
    (pss_cons (ps_try_as (i := 6) (tb := fun W => tSeq (tAsg (tMakeS (He.ga K "Plan") (sp_Plan_init K) (WE W) (tCons (tVar 0) (tCons (tVar 1) tNil))) (gName 5))
    (tAsg (tIf (tTest (tOp rNotNo (tVar 2) (tC .non))) (tC .non) (tVar 5)) (gName 4))) (ts := fun a cls d => tAsg (tIf (tAnd (tB (tCB (rIsEd K (He.ga K "NoPlan") a cls d) (tCons (tVar 6) (tCons (tC (.ref (He.ga K "WalkError"))) tNil)))) (tNot (tB (tCB (rIsEd K (He.ga K "NoPlan") a cls d) (tCons (tVar 6) (tCons (tC (.ref (He.ga K "NoText"))) tNil)))))) (tXf a cls d (He.ga K "NoPlan") "who" (tVar 6)) (tC (.str "odd"))) (gName 4)) (Wout := (fun _ _ _ _ => False)) rfl rfl sc_l_right.nd rfl rfl ⟨rfl, by decide, Or.inl T.g_NoPlan⟩ takes0 (fun W pn xe tkW hpas => pss_cons (ps_set (i := 5) sc_l_right.nd rfl (by first | exact Or.inl rfl | exact Or.inr rfl) (pe_wmake c_Plan_init hr (by decide) (fun σ => L2N.passAt (takesN tkW) σ) (pa_cons (pv 0) (pa_cons (pv 1) pa_nil))))
    (pss_one (ps_set (i := 4) sc_l_right.nd rfl (by first | exact Or.inl rfl | exact Or.inr rfl) (pe_ifExp (pt_cmpR (op_notNn) (pv 2) (pe_non) (nomark _)) (pe_non) (pv 5))))) (fun a oe cls d pn hz hf => pss_one (ps_set (i := 4) sc_l_right.nd rfl (by first | exact Or.inl rfl | exact Or.inr rfl) (pe_ifExp (PW.pt (pw_and (pt_val (pe_callB (call_isEd (excD T.x_NoPlan T.y_obj) hz hf) rfl T.f_isinstance (by decide +kernel) (pa_cons (pv 6) (pa_cons (pe_glob rfl T.g_WalkError rfl) pa_nil)))) (pw_and1 (pt_not (pt_val (pe_callB (call_isEd (excD T.x_NoPlan T.y_obj) hz hf) rfl T.f_isinstance (by decide +kernel) (pa_cons (pv 6) (pa_cons (pe_glob rfl T.g_NoText rfl) pa_nil)))))))) (pe_xf T.x_NoPlan.2.1 T.n_NoPlan_who hz hf (pv 6)) (pe_str)))))
    (pss_cons (ps_if (pt_cmpR (op_neA (hu64 hr)) (pe_callB (call_reprQ hg (hu64 hr) T.y_sys) rfl T.f_repr (by decide +kernel) (pa_cons (pv 1) pa_nil)) (pv 3) (nomark _)) (pss_one (ps_ret (pe_bl))) (pss_nil))
    (pss_cons (ps_if (pt_cmpR (op_notNn) (pv 2) (pe_non) (nomark _)) (pss_one (ps_ret (pe_cmpR (op_eqA (hu64 hr)) (pv 4) (pv 2) (nomark _)))) (pss_nil))
    (pss_cons (ps_if (PW.pt (pw_or (pt_val (pe_callB call_isi rfl T.f_isinstance (by decide +kernel) (pa_cons (pv 4) (pa_cons (pe_bltn rfl T.f_str (by decide +kernel) rfl) pa_nil)))) (pw_or (pt_cmpR (op_neA (hu64 hr)) (pe_callB (call_reprQ hg (hu64 hr) T.y_sys) rfl T.f_repr (by decide +kernel) (pa_cons (pe_wmeth0 (pv 4) c_Plan_rows hr (by decide) (fun σ => passD dead0 σ)) pa_nil)) (pv 3) (nomark _)) (pw_or1 (pt_not (pt_cmpR (op_eqOwn c_Map_eq hr (by decide)) (pe_wmeth0 (pv 4) c_Plan_grounds hr (by decide) (fun σ => passD dead0 σ)) (pv 0) (nomark _))))))) (pss_one (ps_ret (pe_bl))) (pss_nil))
    (pss_one (ps_ret (pe_cmpR (op_eqA (hu64 hr)) (pe_callB (call_lenOwn c_Plan_len hr (by decide)) rfl T.f_len (by decide +kernel) (pa_cons (pv 4) pa_nil)) (pe_callB (cr_sum rfl) rfl T.f_sum (by decide +kernel) (pa_cons (pe_lc (own := [("_law_row", 7)]) (g := (gName 7)) (by rfl) sc_l_right.nd (pi_list (pv 1)) (blkOk_by (own := [("_law_row", 7)]) (N := N_l_right) (sc := defScope s_l_right) (by decide +kernel)) (fun _ _ _ _ _ => (pg_name (i := 7) sc_l_right.nd rfl (by first | exact Or.inl rfl | exact Or.inr rfl))) (fun _ _ _ _ _ => pts_nil) (fun _ _ _ _ _ => pe_callB call_lenA rfl T.f_len (by decide +kernel) (pa_cons (pe_ix ix_seq (pv 7) (pe_int) (fun _ _ => rfl)) pa_nil))) pa_nil)) (nomark _)))))))))), pure_l_right T h⟩), T.g_l_right, F.kp, F.bindsN fun _ _ _ _ _ _ us hl => match us, hl with | [_, _], _ => rfl⟩
theorem okF_law {fd : FuncData} (T : Tx K mg) (F : FunD K "law" "law" (defArgs s_law) (defBody s_law) (defScope s_law) [] [] (He.fAd K ("law", none)) fd) (c_l_grounds : Cal P w K mg base CX0 7 "_law_grounds" ["_law_pot_here"] (sp_l_grounds K)) (c_l_pot : Cal P w K mg base CX0 1 "_law_pot" ["_law_script", "_law_k"] (sp_l_pot K)) (c_l_rows : Cal P w K mg base CX0 2 "_law_rows" ["_law_pot_here", "_law_grounds_here", "_law_most"] (sp_l_rows K)) (c_l_take : Cal P w K mg base CX0 1 "_law_take" ["_law_pot_here", "_law_many"] (sp_l_take K)) (c_l_is_row : Cal P w K mg base CX0 1 "_law_is_row" ["_law_row"] (sp_l_is_row K)) (c_l_spoilt : Cal P w K mg base CX0 3 "_law_spoilt" ["_law_pot_here", "_law_grounds_here", "_law_rows_here"] (sp_l_spoilt K)) (c_l_right : CalG P w K mg base 7 "_law_right" ["_law_grounds_here", "_law_rows_here"] (sp_l_right K)) : FnG P w K mg base 8 (He.ga K "law") fd ["_law_script"] (sp_law K) :=
  funG (N := N_law) (ps := ["_law_script"]) (k := 7) (sp := sp_law K) F sc_law (fun vs H Q E h => len_law h) (fun cdv A outer s H vs Q E hg hr h => ⟨t_law K, PSs.nox (pss_cons (ps_set (i := 1) sc_law.nd rfl (by first | exact Or.inl rfl | exact Or.inr rfl) (pe_wcall c_l_grounds hr (by decide) (fun σ => passD dead0 σ) (pa_cons (pe_wcall c_l_pot hr (by decide) (fun σ => passD dead0 σ) (pa_cons (pv 0) (pa_cons (pe_int) pa_nil))) pa_nil)))
    (pss_cons (ps_for PassesOwn.never rfl (pi_range2 rfl T.f_range (pa_cons (pe_int) (pa_cons (pe_callB (call_max2I rfl) rfl T.f_max (by decide +kernel) (pa_cons (pe_int) (pa_cons (pe_callB (call_min2I rfl) rfl T.f_min (by decide +kernel) (pa_cons (pe_int) (pa_cons (pe_callB call_lenA rfl T.f_len (by decide +kernel) (pa_cons (pv 0) pa_nil)) pa_nil))) pa_nil))) pa_nil))) (pg_name (i := 2) sc_law.nd rfl (by first | exact Or.inl rfl | exact Or.inr rfl)) (pss_cons (ps_set (i := 3) sc_law.nd rfl (by first | exact Or.inl rfl | exact Or.inr rfl) (pe_wcall c_l_pot hr (by decide) (fun σ => passD dead0 σ) (pa_cons (pv 0) (pa_cons (pv 2) pa_nil))))
    (pss_cons (ps_set (i := 4) sc_law.nd rfl (by first | exact Or.inl rfl | exact Or.inr rfl) (pe_wcall c_l_rows hr (by decide) (fun σ => passD dead0 σ) (pa_cons (pv 3) (pa_cons (pv 1) (pa_cons (pe_int) pa_nil)))))
    (pss_cons (ps_for PassesOwn.never rfl (pi_range1 rfl T.f_range (pa_cons (pe_wcall c_l_take hr (by decide) (fun σ => passD dead0 σ) (pa_cons (pv 3) (pa_cons (pe_int) pa_nil))) pa_nil)) (pg_name (i := 5) sc_law.nd rfl (by first | exact Or.inl rfl | exact Or.inr rfl)) (pss_one (ps_if (PW.pt (pw_and (pt_cmpR (op_neNil (hu64 hr)) (pv 4) (pe_lst pa_nil) (nomark _)) (pw_and1 (pt_val (pe_callB (cr_all rfl) rfl T.f_all (by decide +kernel) (pa_cons (pe_lc (own := [("_law_row", 7)]) (g := (gName 7)) (by rfl) sc_law.nd (pi_list (pv 4)) (blkOk_by (own := [("_law_row", 7)]) (N := N_law) (sc := defScope s_law) (by decide +kernel)) (fun _ _ _ _ _ => (pg_name (i := 7) sc_law.nd rfl (by first | exact Or.inl rfl | exact Or.inr rfl))) (fun _ _ _ _ _ => pts_nil) (fun _ _ _ _ _ => pe_wcall c_l_is_row hr (by decide) (fun σ => passD dead0 σ) (pa_cons (pv 7) pa_nil))) pa_nil)))))) (pss_one (ps_set (i := 4) sc_law.nd rfl (by first | exact Or.inl rfl | exact Or.inr rfl) (pe_wcall c_l_spoilt hr (by decide) (fun σ => passD dead0 σ) (pa_cons (pv 3) (pa_cons (pv 1) (pa_cons (pv 4) pa_nil)))))) (pss_nil))))
    (pss_one (ps_if (pt_not (pt_val (pe_wcallG c_l_right hg hr (by decide) (pa_cons (pv 1) (pa_cons (pv 4) pa_nil))))) (pss_one (ps_ret (pe_bl))) (pss_nil)))))))
    (pss_cons (ps_for PassesOwn.never rfl (pi_list (pe_lst (pa_cons (pe_non) (pa_cons (pe_tup pa_nil) (pa_cons (pe_dnewK) (pa_cons (pe_str) (pa_cons (pe_int) (pa_cons (pe_bl) (pa_cons (pe_callTy call_tupSq rfl T.f_tuple (by decide +kernel) (pa_cons (pe_wcall c_l_rows hr (by decide) (fun σ => passD dead0 σ) (pa_cons (pe_wcall c_l_pot hr (by decide) (fun σ => passD dead0 σ) (pa_cons (pv 0) (pa_cons (pe_int) pa_nil))) (pa_cons (pv 1) (pa_cons (pe_int) pa_nil)))) pa_nil)) pa_nil))))))))) (pg_name (i := 6) sc_law.nd rfl (by first | exact Or.inl rfl | exact Or.inr rfl)) (pss_one (ps_if (pt_not (pt_val (pe_wcallG c_l_right hg hr (by decide) (pa_cons (pv 1) (pa_cons (pv 6) pa_nil))))) (pss_one (ps_ret (pe_bl))) (pss_nil))))
    (pss_one (ps_ret (pe_wcallG c_l_right hg hr (by decide) (pa_cons (pv 1) (pa_cons (pe_lst pa_nil) pa_nil)))))))), pure_law T h⟩)
theorem chain_law {fd : FuncData} (T : Tx K mg) (F : FunD K "law" "law" (defArgs s_law) (defBody s_law) (defScope s_law) [] [] (He.fAd K ("law", none)) fd) : FnG P w K mg base 8 (He.ga K "law") fd ["_law_script"] (sp_law K) := by
  have x_NoMap_init := ok_NoMap_init (P := P) (w := w) (base := base) T
  have x_NoPlan_init := ok_NoPlan_init (P := P) (w := w) (base := base) T
  have c_is_made_of := ok_is_made_of (P := P) (w := w) (base := base) T
  have c_is_name := ok_is_name (P := P) (w := w) (base := base) T c_is_made_of
  have c_is_word := ok_is_word (P := P) (w := w) (base := base) T c_is_made_of
  have c_want := ok_want (P := P) (w := w) (base := base) T x_NoMap_init
  have c_want_hosts := ok_want_hosts (P := P) (w := w) (base := base) T c_want c_is_name
  have c_want_walkers := ok_want_walkers (P := P) (w := w) (base := base) T c_want c_is_name
  have c_Map_init := ok_Map_init (P := P) (w := w) (base := base) T c_want_hosts c_want_walkers
  have c_Map_hosts := ok_Map_hosts (P := P) (w := w) (base := base) T
  have c_Map_walkers := ok_Map_walkers (P := P) (w := w) (base := base) T
  have c_Map_has_host := ok_Map_has_host (P := P) (w := w) (base := base) T
  have c_Map_has_walker := ok_Map_has_walker (P := P) (w := w) (base := base) T c_Map_walkers
  have c_Map_eq := ok_Map_eq (P := P) (w := w) (base := base) T
  have c_is_deed := ok_is_deed (P := P) (w := w) (base := base) T c_Map_has_host c_Map_has_walker c_is_word
  have c_want_row := ok_want_row (P := P) (w := w) (base := base) T c_Map_has_walker c_is_deed x_NoPlan_init
  have c_Plan_init := ok_Plan_init (P := P) (w := w) (base := base) T c_want_row x_NoPlan_init
  have c_Plan_grounds := ok_Plan_grounds (P := P) (w := w) (base := base) T
  have c_Plan_rows := ok_Plan_rows (P := P) (w := w) (base := base) T
  have c_Plan_len := ok_Plan_len (P := P) (w := w) (base := base) T
  have c_l_pot := ok_l_pot (P := P) (w := w) (base := base) T
  have c_l_take := ok_l_take (P := P) (w := w) (base := base) T
  have c_l_names := ok_l_names (P := P) (w := w) (base := base) T c_l_take
  have c_l_grounds := ok_l_grounds (P := P) (w := w) (base := base) T c_l_take c_l_names c_Map_init
  have c_l_rows := ok_l_rows (P := P) (w := w) (base := base) T c_Map_hosts c_Map_walkers c_l_take
  have c_l_bad_deed := ok_l_bad_deed (P := P) (w := w) (base := base) T c_Map_hosts c_Map_walkers c_l_take
  have c_l_spoilt := ok_l_spoilt (P := P) (w := w) (base := base) T c_l_take c_Map_hosts c_l_bad_deed
  have c_l_is_row := ok_l_is_row (P := P) (w := w) (base := base) T
  have c_l_is_word := ok_l_is_word (P := P) (w := w) (base := base) T
  have c_l_is_deed := ok_l_is_deed (P := P) (w := w) (base := base) T c_Map_hosts c_Map_walkers c_l_is_word
  have c_l_due := ok_l_due (P := P) (w := w) (base := base) T c_Map_walkers c_l_is_deed
  have c_l_right := ok_l_right (P := P) (w := w) (base := base) T c_l_due c_Plan_init c_Plan_rows c_Plan_grounds c_Map_eq c_Plan_len
  exact okF_law T F c_l_grounds c_l_pot c_l_rows c_l_take c_l_is_row c_l_spoilt c_l_right
end
end W81
namespace W81
open PySem PySem.Spec PyProof.Rows L2 LiI WB
abbrev R : PySem.W.OpenRow := PySem.W.OpenLaw.row PySem.Challenge.rw_walkbox_k81_whole_plans_refused
abbrev hk : PySem.W.Hook := hookW 6 fb fn
def ob (s : PySem.W.SharedT) : AlW := obsWG 6 fb fn (HandSHeadRun.getT s)
theorem ob_eq (s : PySem.W.SharedT) : ob s = hk.obs s.abs := obsWG_eq (HandSHeadRun.getT_eq s)
def nms : List PySem.Str := [("_wall" : PySem.Str), ("WalkError" : PySem.Str), ("NoMap" : PySem.Str), ("NoPlan" : PySem.Str), ("NoText" : PySem.Str), ("NoSuch" : PySem.Str), ("LETTERS" : PySem.Str), ("FIGURES" : PySem.Str), ("MOST_LETTERS" : PySem.Str), ("MOST_SIGNS" : PySem.Str), ("LEAST_HOSTS" : PySem.Str), ("MOST_HOSTS" : PySem.Str), ("MOST_WALKERS" : PySem.Str), ("is_made_of" : PySem.Str), ("is_name" : PySem.Str), ("is_word" : PySem.Str), ("want" : PySem.Str), ("want_hosts" : PySem.Str), ("want_walkers" : PySem.Str), ("Map" : PySem.Str), ("WRITE" : PySem.Str), ("WALK" : PySem.Str), ("is_deed" : PySem.Str), ("want_row" : PySem.Str), ("Plan" : PySem.Str), ("_law_pot" : PySem.Str), ("_law_take" : PySem.Str), ("_law_names" : PySem.Str), ("_law_grounds" : PySem.Str), ("_law_rows" : PySem.Str), ("_law_bad_deed" : PySem.Str), ("_law_spoilt" : PySem.Str), ("_law_is_row" : PySem.Str), ("_law_is_word" : PySem.Str), ("_law_is_deed" : PySem.Str), ("_law_due" : PySem.Str), ("_law_right" : PySem.Str)]
theorem run (w : World) : HandSHeadRun.RunEq R (PySem.W.view R.prog [41]) hk ob 5000 nms w := by
  intro os
  kernel_rfl
theorem facts {P : Program} {w : World} {K : PySem.W.Frag} {h : Heap} {mg : Str → Option Value} {f : Addr} (X : K.In h) (G : h.Ns mainGlobals mg) (hfa : mg ("law" : Str) = some (.ref f)) (c : SaysW fb fn K) :
    ∃ fd : FuncData, (∀ (s : Shared) (v : Value), BindsTo s fd ⟨[v], []⟩ [("_law_script", v)]) ∧ ∀ base : Heap, K.In base → base.Ns mainGlobals mg → FnG P w K mg base 8 f fd ["_law_script"] (sp_law K) := by
  have T := tx_of X G c
  obtain ⟨fd, F⟩ := T.d_law
  have e := hfa.symm.trans T.g_law
  cases e
  have b := FunD.bindsA (ps := ["_law_script"]) F fun _ _ _ _ _ _ us hl => match us, hl with | [_], _ => rfl
  exact ⟨fd, fun s v => b s [v] rfl, fun base _ _ => chain_law T F⟩
end W81
open PySem PySem.W PySem.Calls PyProof.Rows
theorem PySem.Challenge.cw_walkbox_k81_whole_plans_refused_holds : PySem.Challenge.rw_walkbox_k81_whole_plans_refused.Holds := by
  w_on; o_law
  refine HandSHeadRun.head_any (r := OpenLaw.row PySem.Challenge.rw_walkbox_k81_whole_plans_refused) (q := view (OpenLaw.row PySem.Challenge.rw_walkbox_k81_whole_plans_refused).prog [41]) (H := W81.hk) (ob := W81.ob) (M := 5000) (loose := W81.nms) (d := HandSHeadRun.topDef (OpenLaw.row PySem.Challenge.rw_walkbox_k81_whole_plans_refused).prog 41) (kwd := []) W81.ob_eq
    (by kernel_rfl) (fun s => by kernel_rfl) W81.run (by kernel_rfl) (by kernel_rfl) (by kernel_rfl) (by rfl) (by first | assumption | decide +kernel) (by decide +kernel) ⟨rfl, rfl, rfl, rfl, rfl, by decide +kernel⟩ ?hw ?hc
  case hw => w_witness2
  case hc =>
    refine WB.walk_ofG (l := PySem.Challenge.rw_walkbox_k81_whole_plans_refused) (n := 63) (k := 8) (x := "_law_script") rfl (by decide) (by kernel_rfl) ⟨rfl, by decide, by decide⟩ ?F
    intro w mg fa h Y G hmg0
    obtain ⟨K, KX, c⟩ := Y
    have hmg : mg ("law" : PySem.Str) = some (.ref fa) := by
      have e : (HandSHeadRun.topDef (OpenLaw.row PySem.Challenge.rw_walkbox_k81_whole_plans_refused).prog 41).name = ("law" : PySem.Str) := by kernel_rfl
      rw [← e]
      exact hmg0
    obtain ⟨fd, hb, hF⟩ := W81.facts (P := (PySem.Challenge.rw_walkbox_k81_whole_plans_refused).prog) (w := w) KX G hmg c
    exact ⟨K, fd, W81.sp_law K, KX, hb, fun H a ns hl hS => ⟨a, ns, rfl, hS, hl, fun _ => rfl⟩, hF⟩
