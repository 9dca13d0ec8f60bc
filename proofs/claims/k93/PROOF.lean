import PyProof.Rows.All
import Wide.All
import OpenK.AllK
import Wide.FinOn
import KE.KStateDown
import Lean
import PyProof.EqAt
import PyProof.EqKinds
import PyProof.TupleCall
import HandS.ForMost
import HandS.Exc
import HandS.TryOnly
import HandS.ExcOwn
import HandS.WordsExc
import HandS.ExcCtx
import HandS.Hot
import HandS.HotCalls
import HandS.SuiteRaise
import HandS.RaiseFrom
import HandS.ExcInit
import HandS.ExcInitHot
import HandS.ExcField
import HandS.ExcIs
import HandS.IsInst
import HandS.Flow
import HandS.Wide
import HandS.Evl
import HandS.Codes
import HandS.ClsMeth
import HandS.Conv
import HandS.OwnEq
import HandS.Defaults
import HandS.RaiseMore
import HandS.ListItems
import HandS.Head0
import HandS.Head1
import HandS.Head2
import HandS.HeadEnd
import HandS.HeadHook1
import HandS.HeadHook2
import KE.KExcIs
import HandS.MakeKwOnly
import PySem.Challenge.RW_walkbox_k93_whole_map_texts
set_option Elab.async false
set_option linter.all false
set_option maxRecDepth 100000
set_option maxHeartbeats 0
namespace WB
open PySem PySem.Spec PyProof.Rows L2
abbrev Fr := PySem.W.Frag
abbrev AlW : Type := Bool × List He.FnW
def obsW (fb : List (Fr → Bool)) (fn : List He.DefD) (K : Fr) : AlW := ((fb.all fun f => f K) && fn.all fun d => d.ok K, fn.map fun d => He.fnW K d.at_)
def valW (fn : List He.DefD) : AlW := (true, fn.map He.DefD.val)
def SaysW (fb : List (Fr → Bool)) (fn : List He.DefD) (K : Fr) : Prop := obsW fb fn K = valW fn
def obsWG (n : Nat) (fb : List (Fr → Bool)) (fn : List He.DefD) (g : Addr → Option Obj) : AlW := obsW fb fn (He.frG g (cStatics :: He.asD g n))
def hookW (n : Nat) (fb : List (Fr → Bool)) (fn : List He.DefD) : PySem.W.Hook where
  α := AlW
  obs := fun s => obsWG n fb fn s.heap.get?
  val := fun _ => valW fn
  says := fun _ h => ∃ K : Fr, K.In h ∧ SaysW fb fn K
  of := fun _ _ e => ⟨_, He.frG_in, e⟩
  keeps := fun _ _ _ ⟨K, hK, c⟩ k => ⟨K, PySem.W.Frag.In.keeps hK k, c⟩
theorem obsWG_eq {n : Nat} {fb : List (Fr → Bool)} {fn : List He.DefD} {g : Addr → Option Obj} {s : Shared} (h : ∀ a, g a = s.heap.get? a) : obsWG n fb fn g = (hookW n fb fn).obs s := by
  have e : g = s.heap.get? := funext h
  rw [e] <;> rfl
section
variable {fb : List (Fr → Bool)} {fn : List He.DefD} {K : Fr}
theorem SaysW.fact (c : SaysW fb fn K) (i : Nat) {f : Fr → Bool} (h : fb[i]? = some f := by rfl) : f K = true := by
  have c1 := (He.ba (show ((fb.all fun f => f K) && fn.all fun d => d.ok K) = true from congrArg (fun z : AlW => z.1) c)).1
  exact List.all_eq_true.mp c1 f (List.mem_of_getElem? h)
theorem SaysW.def_ (c : SaysW fb fn K) (i : Nat) {d : He.DefD} (h : fn[i]? = some d := by rfl) : ∃ fd, FunD K d.name d.qual d.params d.body d.scope (d.dvs K) (d.kws K) (He.fAd K d.at_) fd := by
  have c2 := (He.ba (show ((fb.all fun f => f K) && fn.all fun d => d.ok K) = true from congrArg (fun z : AlW => z.1) c)).2
  have e : fn.map (fun d => He.fnW K d.at_) = fn.map He.DefD.val := congrArg (fun z : AlW => z.2) c
  have e2 : (fn.map fun d => He.fnW K d.at_)[i]? = (fn.map He.DefD.val)[i]? := by rw [e]
  rw [List.getElem?_map, List.getElem?_map, h] at e2
  exact He.DefD.funD (Option.some.inj e2) (List.all_eq_true.mp c2 d (List.mem_of_getElem? h))
end
def oexB (K : Fr) (C : Addr) : Bool := match K.lookup C with
  | some ⟨.type "type", _, .cls cd, sl⟩ => (match cd.mro, sl.toList with
    | .ref C' :: bm, [_, _, _, _, some (.builtin n), _] => C' == C && n == "ValueError.__new__" && !cd.hasDel && cd.hasDict && PySem.HandSPX.refsVE bm
    | _, _ => false)
  | _ => false
theorem oexB_ok {K : Fr} {C : Addr} (q : oexB K C = true) : ∃ nm qq N bs bm sn sub ab col dd k0 k1 k2 k3 k5, K.lookup C = some (excClassObj nm qq C N bs bm true sn sub ab col dd k0 k1 k2 k3 k5 "ValueError.__new__") ∧ PySem.HandSPX.refsVE bm = true := by
  unfold oexB at q
  split at q
  · rename_i dd cd sl ho
    split at q
    · rename_i C' bm k0 k1 k2 k3 n k5 hm hs
      simp only [Bool.and_eq_true, beq_iff_eq, Bool.not_eq_true'] at q
      obtain ⟨⟨⟨⟨rfl, rfl⟩, hdel⟩, hdc⟩, ht⟩ := q
      obtain ⟨nm, bs, mro, ns, qn, hd, sn, sub, ab, col, del⟩ := cd
      dsimp only at hm hdel hdc
      subst hm hdel hdc
      have hsl : sl = #[k0, k1, k2, k3, some (.builtin "ValueError.__new__"), k5] := by
        obtain ⟨l⟩ := sl
        simp only at hs
        rw [hs]
      subst hsl
      exact ⟨nm, qn, ns, bs, bm, sn, sub, ab, col, dd, k0, k1, k2, k3, k5, ho, ht⟩
    · cases q
  · cases q
def oxB (x : Str) (K : Fr) : Bool := oexB K (He.ga K x) && decide (PySem.W.findIn K (.ref (He.ga K x)) "__setattr__" = some (some (.builtin "object.__setattr__"))) && decide (PySem.W.subIn K (.ref (He.ga K x)) (.type "BaseException") = some true) &&
  decide (PySem.W.typeIn K (.ref (He.ga K x)) = some (.type "type")) && PySem.W.keepIn K (.ref (He.ga K x)) && xfB K (He.ga K x) &&
  decide (PySem.W.findIn K (.ref (He.ga K x)) "__class__" = some (some (.builtin "object.__class__"))) && decide (PySem.W.mroIn K (He.ga K x) (.type "object") = some true)
theorem oxB_ok {x : Str} {K : Fr} (h : oxB x K = true) : OexC K (He.ga K x) ∧ XfC K (He.ga K x) ∧ PySem.W.findIn K (.ref (He.ga K x)) "__class__" = some (some (.builtin "object.__class__")) ∧ PySem.W.mroIn K (He.ga K x) (.type "object") = some true := by
  simp only [oxB, Bool.and_eq_true, decide_eq_true_eq] at h
  obtain ⟨⟨⟨⟨⟨⟨⟨h1, h2⟩, h3⟩, h4⟩, h5⟩, h6⟩, h7⟩, h8⟩ := h
  exact ⟨⟨oexB_ok h1, h2, h3, h4, h5⟩, xfB_ok h6, h7, h8⟩
def binB (x : Str) (K : Fr) : Bool := PySem.W.readsIn K (He.ga K x) (.type "type") && decide (PySem.W.specialIn K (.ref (He.ga K x)) "__getattribute__" = some (some (.builtin "type.__getattribute__"))) &&
  (match PySem.W.findCls K (.ref (He.ga K x)) (.type "type") "__init__" with | some (.val (.builtin "ValueError.__init__")) => true | _ => false)
structure BinC (K : Fr) (C : Addr) : Prop where
  rd : ClX.CRead K C (.type "type")
  fd : PySem.W.findCls K (.ref C) (.type "type") "__init__" = some (.val (.builtin "ValueError.__init__"))
theorem binB_ok {x : Str} {K : Fr} (h : binB x K = true) : BinC K (He.ga K x) := by
  simp only [binB, Bool.and_eq_true, decide_eq_true_eq] at h
  obtain ⟨⟨h1, h2⟩, h3⟩ := h
  refine ⟨⟨h1, h2⟩, ?_⟩
  split at h3
  · assumption
  · cases h3
theorem pe_binit {X : Cx} {C0 : Addr} {x : Str} {e : Expr} {es : List Expr} {ta : TA} {p1 p2 pos : Pos} {pl : Sem Bool} (T0 : BinC X.K C0) (hg : Gl X x) (hm : X.mg x = some (.ref C0)) (ha : PA X (e :: es) ta) (hdb : (x == ("__debug__" : Str)) = false := by decide)
    (hc : eval (.Call (.Attribute (.Name x p1) "__init__" p2) (e :: es) [] pos) X.env = (do
      let ov ← eval (.Name x p1) X.env
      standAt p2.atName
      let (f, first) ← holding [ov] (getMethod ov "__init__" pl)
      callWith pos f first (backTo pos (starEach (e :: es) X.env)) (backToKw pos (keywordEach [] X.env))) := by rfl)
    (he : starEach (e :: es) X.env = (false, eval e X.env) :: starEach es X.env := by rfl) (hpl : (backTo pos (starEach es X.env)).any (·.1) = false := by rfl) :
    PE X (.Call (.Attribute (.Name x p1) "__init__" p2) (e :: es) [] pos) (tVeI X.K ta) := by
  refine ⟨fun pins s σ H Q I h => ?_⟩
  refine PySem.W.methodCall_KW (pl := pl) (ld_glob I hg hm ?_ hdb) hc
  refine PySem.W.method_cls I.kIn T0.rd.ga (PySem.W.cls_value I.kIn T0.rd.rd T0.fd rfl ?_)
  show wpAny _ _ (callWith pos (Value.builtin "ValueError.__init__") [] (backTo pos (starEach (e :: es) X.env)) []) _ _ _
  refine PyProof.Rows.callWith_method1 (thn (ha.run pos pins _ σ H _ (I.tok _) h) fun us s1 ⟨vs, H1, I1, r1, a, C, ws, ev, hl, T, ea, q⟩ => ?_) he hpl
  subst ev
  cases r1 with
  | @cons _ u0 _ ur ra rw' =>
    obtain rfl : u0 = Value.ref a := ra
    have hlen : ur.length ≤ sizeLine := by
      rw [← Paired.length rw', sizeLine_eq]
      omega
    exact oinit_ok T I1 ea hlen fun s' J => ⟨.non, H1, J, rfl, q⟩
theorem skyN {B : Heap} {l : List Env} {a L : Addr} {cls : Value} {d : Option Addr} {h : Heap} (x : Sky B l a (L2N.Zn cls d) L h) : Sky B l a (Zc cls d) L h := by
  rcases x with ⟨h1, h2, h3, oe, vs, e, z, r⟩ | x | x
  · exact .inl ⟨h1, h2, h3, oe, vs, e, z.zc, r⟩
  · exact .inr (.inl (L2H.flyingZ_imp (fun _ z => z.zc) x))
  · exact .inr (.inr ⟨x.1, x.2.1, x.2.2.1, L2H.tracedZ_imp (fun _ z => z.zc) x.2.2.2⟩)
theorem takesN {X : Cx} {W : WX} (t : L2.Takes X W) : L2N.Takes X W := fun u s' ⟨a, B, sI, pins, σ, H, cls, d, e, I, nb, up, sky, r⟩ => t u s' ⟨a, B, sI, pins, σ, H, cls, d, e, I, nb, up, skyN sky, r⟩
theorem takesN0 {X : Cx} : L2N.Takes X (fun _ _ _ _ => False) := fun _ _ ⟨_, _, _, _, _, _, _, _, _, _, _, _, _, _, _, _, w⟩ => w.elim
def Dead (CX : CXT) : Prop := ∀ outer H s u s', CX outer H s E0 u s' → False
theorem dead0 : Dead CX0 := fun _ _ _ _ _ h => h
theorem deadN {P : Program} {w : World} : Dead (L2N.CX P w) := fun _ _ _ _ _ ⟨_, _, _, _, _, _, _, _, _, _, _, _, h⟩ => h
theorem deadX {P : Program} {w : World} : Dead (L2.CX P w) := fun _ _ _ _ _ ⟨_, _, _, _, _, _, _, _, _, _, _, _, h⟩ => h
theorem passD {CX : CXT} {X : Cx} (d : Dead CX) (σ : L2.St) : PassesAt CX X σ E0 := fun _ _ _ _ _ _ h => (d _ _ _ _ _ h).elim
def Cal (P : Program) (w : World) (K : Fr) (mg : Str → Option Value) (base : Heap) (CX : CXT) (k : Nat) (x : Str) (ps : List Str) (sp : Sp) : Prop :=
  ∃ f fd, FnOk P w K mg base CX k f fd ps sp ∧ mg x = some (.ref f) ∧ PySem.W.keepIn K (.ref f) = true ∧ Binds K fd ps []
def Met (P : Program) (w : World) (K : Fr) (mg : Str → Option Value) (base : Heap) (CX : CXT) (k : Nat) (C : Addr) (m : Str) (ps : List Str) (sp : Sp) : Prop :=
  ∃ f fd, FnOk P w K mg base CX k f fd ps sp ∧ Cls K C ∧ Meth K C m f ∧ Binds K fd ps []
def Mak (P : Program) (w : World) (K : Fr) (mg : Str → Option Value) (base : Heap) (CX : CXT) (k : Nat) (x : Str) (C : Addr) (ps : List Str) (sp : Sp) : Prop :=
  ∃ f fd, FnOk P w K mg base CX k f fd ps sp ∧ Mk K C f ∧ mg x = some (.ref C) ∧ Binds K fd ps []
section
variable {X : Cx} {CX : CXT} {k j : Nat} {f C : Addr} {fd : FuncData} {ps : List Str} {sp : Sp} {E : L2.St → XK} {x m : Str} {p pos apos : Pos} {e o : Expr} {es : List Expr} {ta : TE} {t : TA}
theorem pe_wcall (c : Cal X.prog X.w X.K X.mg X.base CX k x ps sp) (hr : Room j X.A) (hk : k ≤ j) (hx : ∀ σ, PassesAt CX X σ (E σ)) (ha : PA X (e :: es) t) (hg : Gl X x := by rfl)
    (hdb : (x == ("__debug__" : Str)) = false := by decide) (he : starEach (e :: es) X.env = (false, eval e X.env) :: starEach es X.env := by rfl) (hpl : (backTo pos (starEach es X.env)).any (·.1) = false := by rfl) :
    PE X (.Call (.Name x p) (e :: es) [] pos) (tCallS sp E t) := by
  obtain ⟨f, fd, F, hm, hkp, hb⟩ := c
  exact pe_callS F (hr.mono hk) hg hm hkp hb hx ha hdb he hpl
def tMethS (C : Addr) (m : Str) (sp : Sp) (E : L2.St → XK) (ta : TE) (t : TA) : TE := fun σ H Q => ta σ H fun x H1 => ∃ a dx fs, x = .ref a ∧ H1 a = some (.ins C dx fs) ∧ fs.lookup m = none ∧ t σ H1 fun vs H2 => sp (x :: vs) H2 Q (E σ)
theorem pe_wmeth {pl : Sem Bool} (he : PE X o ta) (c : Met X.prog X.w X.K X.mg X.base CX k C m ps sp) (hr : Room j X.A) (hk : k ≤ j) (hx : ∀ σ, PassesAt CX X σ (E σ)) (ha : PA X (e :: es) t)
    (hst : starEach (e :: es) X.env = (false, eval e X.env) :: starEach es X.env := by rfl) (hpl : (backTo pos (starEach es X.env)).any (·.1) = false := by rfl)
    (ht : eval (.Call (.Attribute o m apos) (e :: es) [] pos) X.env = (do
      let ov ← eval o X.env
      standAt apos.atName
      let (f, first) ← holding [ov] (getMethod ov m pl)
      callWith pos f first (backTo pos (starEach (e :: es) X.env)) (backToKw pos (keywordEach [] X.env))) := by rfl) :
    PE X (.Call (.Attribute o m apos) (e :: es) [] pos) (tMethS C m sp E ta t) := by
  obtain ⟨f, fd, F, c, hm, hb⟩ := c
  refine ⟨fun pins s σ H Q I h => ?_⟩
  refine PySem.W.methodCall_KW (pl := pl) (thn (he.run pins s σ H _ I h) fun u s1 ⟨x, H1, I1, rx, a, dx, fs, ex, ea, l, q⟩ => ?_) ht
  subst ex
  obtain rfl : u = Value.ref a := rx
  refine getmeth_ok I1 ea c hm l ?_
  refine PySem.W.callWith_K (first := [.ref a]) (h₀ := X.base) I.ok.mod.kin hm.kp (thn (ha.run pos pins s1 σ H1 _ I1 q) fun us s2 ⟨vs, H2, I2, r, q2⟩ => ⟨I2.kIn, ?_⟩) hst hpl
  exact run_fnS (us := .ref a :: us) (vs := .ref a :: vs) F (hr.mono hk) hb (hx σ) I2 (.cons rfl r) q2
theorem pe_wmeth0 {pl : Sem Bool} (he : PE X o ta) (c : Met X.prog X.w X.K X.mg X.base CX k C m ps sp) (hr : Room j X.A) (hk : k ≤ j) (hx : ∀ σ, PassesAt CX X σ (E σ))
    (ht : eval (.Call (.Attribute o m apos) [] [] pos) X.env = (do
      let ov ← eval o X.env
      standAt apos.atName
      let (f, first) ← holding [ov] (getMethod ov m pl)
      callWith pos f first (backTo pos (starEach [] X.env)) (backToKw pos (keywordEach [] X.env))) := by rfl) :
    PE X (.Call (.Attribute o m apos) [] [] pos) (tMethS C m sp E ta tNil) := by
  obtain ⟨f, fd, F, c, hm, hb⟩ := c
  refine ⟨fun pins s σ H Q I h => ?_⟩
  refine PySem.W.methodCall_KW (pl := pl) (thn (he.run pins s σ H _ I h) fun u s1 ⟨x, H1, I1, rx, a, dx, fs, ex, ea, l, q⟩ => ?_) ht
  subst ex
  obtain rfl : u = Value.ref a := rx
  refine getmeth_ok I1 ea c hm l ?_
  exact PySem.W.callWith_K0 (first := [.ref a]) I1.kIn hm.kp (run_fnS (us := [.ref a]) (vs := [.ref a]) F (hr.mono hk) hb (hx σ) I1 (.cons rfl .nil) q)
theorem run_makeS {pins : List (Addr × Obj)} {σ : L2.St} {H : Hp} {s : Shared} {Q : VK} {us : List Value} {vs : List V} (M : Mk X.K C f) (F : FnOk X.prog X.w X.K X.mg X.base CX k f fd ps sp) (hr : Room (k + 1) X.A) (hb : Binds X.K fd ps [])
    (hx : PassesAt CX X σ (E σ)) (I : Inv X pins σ H s) (r : Vals vs us)
    (h : ∀ x dx, H x = none → H dx = none → dx ≠ x → sp (.ref x :: vs) (upd (upd H dx (.own x)) x (.ins C dx [])) (fun v H2 => v = .non ∧ Q (.ref x) H2) (E σ)) :
    wpAny (model X.prog X.w) X.A (call (.ref C) us) (EP X pins σ Q) X.xe s := by
  have hq := h (s.heap.objs.size + 1) s.heap.objs.size (I.hok.fresh (Nat.le_succ _)) (I.hok.fresh (Nat.le_refl _)) (Nat.ne_of_lt (Nat.lt_succ_self _))
  have I2 := Inv.made (C := C) I
  have r2 : Vals (V.ref (s.heap.objs.size + 1) :: vs) (Value.ref (s.heap.objs.size + 1) :: us) := .cons rfl r
  have hl : (Value.ref (s.heap.objs.size + 1) :: us).length = ps.length := by
    have e := r2.length
    rw [F.len _ _ _ _ hq] at e
    exact e.symm
  have b := hb _ (Value.ref (s.heap.objs.size + 1) :: us) I2.kIn (by rw [List.append_nil]; exact hl)
  rw [List.append_nil] at b
  refine wpAny_call (make_map (f := f) I.kIn M.makes M.init (beq_iff_eq.mp M.fn) (codeAny_mono (F.run _ X.stack _ _ ⟨Value.ref (s.heap.objs.size + 1) :: us, []⟩ (Value.ref (s.heap.objs.size + 1) :: us) _ _ (E σ) (hr.make C us [])
    (I2.env0.make C us []) b r2 hq) fun r s' hq' => ?_))
  cases r with
  | error e => exact hx pins _ _ e s' I2 hq'
  | ok fl =>
    cases fl with
    | ret u =>
      obtain ⟨v, H', I3, rv, ev, q3⟩ := I2.after hq'
      subst ev
      exact ⟨rv, ⟨V.ref (s.heap.objs.size + 1), H', I3, rfl, q3⟩⟩
    | next => exact False.elim hq'
    | brk => exact False.elim hq'
    | cont => exact False.elim hq'
def tMakeS (C : Addr) (sp : Sp) (E : L2.St → XK) (t : TA) : TE := fun σ H Q => t σ H fun vs H1 => ∀ x dx, H1 x = none → H1 dx = none → dx ≠ x →
  sp (.ref x :: vs) (upd (upd H1 dx (.own x)) x (.ins C dx [])) (fun v H2 => v = .non ∧ Q (.ref x) H2) (E σ)
theorem pe_wmake (c : Mak X.prog X.w X.K X.mg X.base CX k x C ps sp) (hr : Room j X.A) (hk : k + 1 ≤ j) (hx : ∀ σ, PassesAt CX X σ (E σ)) (ha : PA X (e :: es) t) (hg : Gl X x := by rfl)
    (hdb : (x == ("__debug__" : Str)) = false := by decide) (he : starEach (e :: es) X.env = (false, eval e X.env) :: starEach es X.env := by rfl) (hpl : (backTo pos (starEach es X.env)).any (·.1) = false := by rfl) :
    PE X (.Call (.Name x p) (e :: es) [] pos) (tMakeS C sp E t) := by
  obtain ⟨f, fd, F, M, hm, hb⟩ := c
  refine ⟨fun pins s σ H Q I h => ?_⟩
  refine wpAny_Call_Name_kw (ld_glob I hg hm ?_ hdb)
  refine PySem.W.callWith_K (h₀ := X.base) I.ok.mod.kin M.kp (thn (ha.run pos pins s σ H _ I h) fun us s1 ⟨vs, H1, I1, r, q⟩ => ⟨I1.kIn, ?_⟩) he hpl
  exact run_makeS M F (hr.mono hk) hb (hx σ) I1 r q
end
end WB
namespace WB
open PySem PySem.Spec PyProof.Rows L2
abbrev rAddI : R2 := rI0 fun i j => .int (i + j)
abbrev rSubI : R2 := rI0 fun i j => .int (i - j)
abbrev rMulI : R2 := rI CMul fun i j => .int (i * j)
abbrev rModI : R2 := rI (fun _ j => 0 < j) fun i j => .int (i % j)
abbrev rDivI : R2 := rI CDiv fun i j => .int (i / j)
abbrev rPowI : R2 := rI CPow fun i j => .int (i ^ j.toNat)
abbrev rLtI : R2 := rI0 fun i j => .bl (decide (i < j))
abbrev rLeI : R2 := rI0 fun i j => .bl (decide (i ≤ j))
abbrev rGtI : R2 := rI0 fun i j => .bl (decide (j < i))
abbrev rGeI : R2 := rI0 fun i j => .bl (decide (j ≤ i))
def rAddS : R2 := fun x y H Q => ∃ i j, x = .str i ∧ y = .str j ∧ i.length + j.length ≤ sizeLine ∧ Q (.str (i ++ j)) H
def rAddA (K : Fr) : R2 := fun x y H Q => rAddI x y H Q ∨ (rAddS x y H Q ∨ (rCat x y H Q ∨ rCatT K x y H Q))
def rEqA (K : Fr) : R2 := fun x y H Q => rEq x y H Q ∨ rEqD K x y H Q
def rNeA (K : Fr) : R2 := fun x y H Q => rNe x y H Q ∨ rNeD K x y H Q
def rInSgn : R2 := fun x y H Q => ∃ (c : Nat) (z : Str), x = .str ⟨#[c]⟩ ∧ y = .str z ∧ Q (.bl (decide (c ∈ z.cps.toList))) H
def rNiSgn : R2 := fun x y H Q => ∃ (c : Nat) (z : Str), x = .str ⟨#[c]⟩ ∧ y = .str z ∧ Q (.bl (!decide (c ∈ z.cps.toList))) H
def rInA (K : Fr) : R2 := fun x y H Q => rIn K false x y H Q ∨ rInSgn x y H Q
def rNiA (K : Fr) : R2 := fun x y H Q => rIn K true x y H Q ∨ rNiSgn x y H Q
def rIsNo : R2 := fun x y H Q => y = .non ∧ Q (.bl (decide (x = .non))) H
def rNotNo : R2 := fun x y H Q => y = .non ∧ Q (.bl (!decide (x = .non))) H
def rSlA (K : Fr) : V → Option Int → Option Int → Hp → VK → Prop := fun x lo hi H Q => rSlL K x lo hi H Q ∨ rSlS x lo hi H Q
def rLenSq (K : Fr) : List V → Hp → VK → Prop := fun xs H Q => ∃ p ys, xs = [.ref p] ∧ (SqL K H p ys ∨ SqT K H p ys) ∧ Q (.int ys.length) H
def rLenStr : List V → Hp → VK → Prop := fun xs H Q => ∃ z, xs = [.str z] ∧ z.length ≤ sizeLine ∧ Q (.int z.length) H
def rLenA (K : Fr) : List V → Hp → VK → Prop := fun xs H Q => rLenSq K xs H Q ∨ rLenStr xs H Q
def rAbsI : List V → Hp → VK → Prop := fun xs H Q => ∃ i, xs = [.int i] ∧ Q (.int (if i < 0 then -i else i)) H
def rMax2I : List V → Hp → VK → Prop := fun xs H Q => ∃ i j, xs = [.int i, .int j] ∧ Q (.int (if j > i then j else i)) H
def rMin2I : List V → Hp → VK → Prop := fun xs H Q => ∃ i j, xs = [.int i, .int j] ∧ Q (.int (if j < i then j else i)) H
def rStrI : List V → Hp → VK → Prop := fun xs H Q => ∃ i, xs = [.int i] ∧ i.natAbs.log2 < 1920 ∧ Q (.str (toString i)) H
def rListSq (K : Fr) : List V → Hp → VK → Prop := fun xs H Q => ∃ p ys, xs = [.ref p] ∧ (SqL K H p ys ∨ SqT K H p ys) ∧ ∀ l, H l = none → Q (.ref l) (upd H l (.lst ys))
def rTupSq (K : Fr) : List V → Hp → VK → Prop := fun xs H Q => ∃ p ys, xs = [.ref p] ∧ ((SqL K H p ys ∧ ∀ l, H l = none → Q (.ref l) (upd H l (.tup ys))) ∨ (SqT K H p ys ∧ Q (.ref p) H))
def rDictP (K : Fr) : List V → Hp → VK → Prop := fun xs H Q => ∃ (a : Addr) (ps : List Addr) (kvs : List (Key × V)), xs = [.ref a] ∧ SqL K H a (ps.map V.ref) ∧ Paired (fun p kv => SqT K H p [kV kv.1, kv.2]) ps kvs ∧ ∀ p, H p = none → Q (.ref p) (upd H p (.dK (mergeK [] kvs)))
def rSplit : V → List V → Hp → VK → Prop := fun x xs H Q => ∃ a b, x = .str a ∧ xs = [.str b] ∧ (b.length == 0) = false ∧ a.length + 2 ≤ sizeLine ∧ rNewStrs (Txt.split a b) H Q
def rJoin (K : Fr) : V → List V → Hp → VK → Prop := fun x xs H Q => ∃ a p, ∃ ys : List Str, x = .str a ∧ xs = [.ref p] ∧ (SqL K H p (ys.map V.str) ∨ SqT K H p (ys.map V.str)) ∧ (ys.map (·.length)).sum + ys.length * a.length ≤ 16777216 ∧ Q (.str (Txt.join a ys)) H
section
variable {X : Cx}
theorem op_addS : OpR X (binaryOp .Add) rAddS := op_add_str
theorem op_addA : OpR X (binaryOp .Add) (rAddA X.K) := op_add.or (op_addS.or (op_cat.or op_catT))
theorem op_subI : OpR X (binaryOp .Sub) rSubI := op_sub
theorem op_mulI : OpR X (binaryOp .Mult) rMulI := op_mul
theorem op_modI : OpR X (binaryOp .Mod) rModI := op_mod
theorem op_divI : OpR X (binaryOp .FloorDiv) rDivI := op_fdiv
theorem op_powI : OpR X (binaryOp .Pow) rPowI := op_pow
theorem op_eqA (hu : X.A.units + 64 < cLine) : OpR X (compareOp .Eq) (rEqA X.K) := op_eq.or (op_eqD hu)
theorem op_neA (hu : X.A.units + 64 < cLine) : OpR X (compareOp .NotEq) (rNeA X.K) := op_ne.or (op_neD hu)
theorem op_inSgn : OpR X (compareOp .In) rInSgn := op_in_sign
theorem op_niSgn : OpR X (compareOp .NotIn) rNiSgn := op_notIn_sign
theorem op_inA : OpR X (compareOp .In) (rInA X.K) := op_in_seq.or op_inSgn
theorem op_niA : OpR X (compareOp .NotIn) (rNiA X.K) := op_notIn_seq.or op_niSgn
theorem op_ltI : OpR X (compareOp .Lt) rLtI := op_lt
theorem op_leI : OpR X (compareOp .LtE) rLeI := op_le
theorem op_gtI : OpR X (compareOp .Gt) rGtI := op_gt
theorem op_geI : OpR X (compareOp .GtE) rGeI := op_ge
theorem op_isNn : OpR X (compareOp .Is) rIsNo := op_isN
theorem op_notNn : OpR X (compareOp .IsNot) rNotNo := op_notN
theorem sl_A : SlR X (rSlA X.K) := sl_list.or sl_str
theorem call_lenSq : CallR X (.builtin "len") (rLenSq X.K) := call_len_seq
theorem call_lenStr : CallR X (.builtin "len") rLenStr := call_len_str
theorem call_lenA : CallR X (.builtin "len") (rLenA X.K) := call_lenSq.or call_lenStr
theorem call_absI : CallR X (.builtin "abs") rAbsI := call_abs
theorem call_max2I (hc : X.calm = true) : CallR X (.builtin "max") rMax2I := call_max2 hc
theorem call_min2I (hc : X.calm = true) : CallR X (.builtin "min") rMin2I := call_min2 hc
theorem call_strI : CallR X (.type "str") rStrI := call_str_int
theorem call_listSq : CallR X (.type "list") (rListSq X.K) := call_list_of
theorem call_tupSq : CallR X (.type "tuple") (rTupSq X.K) := call_tuple_of
theorem call_dictPs (hc : X.calm = true) : CallR X (.type "dict") (rDictP X.K) := call_dictP hc
theorem mt_splitS : MtR X "str.split" rSplit := mt_split
theorem mt_joinS : MtR X "str.join" (rJoin X.K) := mt_join
theorem hu64 {A : Around} {k : Nat} (hr : Room k A) : A.units + 64 < cLine := by have := hr.un; omega
end
section
variable {X : Cx} {e : Expr} {es : List Expr} {ta : TA} {p pos : Pos}
theorem pmkN_oex {CX : CXT} {x : Str} {C fI : Addr} {k : Nat} {fd : FuncData} {ps : List Str} {sp : Sp} (T : OexC X.K C) (iC : PySem.W.findIn X.K (.ref C) "__init__" = some (some (.ref fI))) (tI : PySem.W.typeIn X.K (.ref fI) = some (.type "function"))
    (F1 : FnOk X.prog X.w X.K X.mg X.base CX k fI fd ps sp) (hr : Room (k + 1) X.A) (hb : Binds X.K fd ps []) (hx : Passes CX X (fun _ _ _ => False)) (hg : Gl X x) (hm : X.mg x = some (.ref C)) (ha : PA X (e :: es) ta)
    (hdb : (x == ("__debug__" : Str)) = false := by decide) (he : starEach (e :: es) X.env = (false, eval e X.env) :: starEach es X.env := by rfl) (hpl : (backTo pos (starEach es X.env)).any (·.1) = false := by rfl) :
    L2N.PMk X (.Call (.Name x p) (e :: es) [] pos) (tMkO C sp [] ta) := by
  intro pins s σ H Q I h
  obtain ⟨nm, q, N, bs, bm, sn, sub, ab, col, dd, k0, k1, k2, k3, k5, hC, hbm⟩ := T.cls
  refine wpAny_Call_Name_kw (ld_glob I hg hm ?_ hdb)
  refine PySem.W.callWith_K (h₀ := X.base) I.ok.mod.kin T.kC (thn (ha.run pos pins s σ H _ I h) fun us s1 ⟨vs, H1, I1, r1, hz, q1⟩ => ⟨I1.kIn, ?_⟩) he hpl
  show wpAny _ _ (call (.ref C) us) _ _ _
  obtain ⟨hp, g, dr, tk, os⟩ := s1
  have hsz : hp.objs.size ≤ hp.objs.size + 1 := Nat.le_succ _
  have hn : H1 (hp.objs.size + 1) = none := I1.hok.fresh hsz
  have hq := q1 (hp.objs.size + 1) hn
  rw [List.append_nil] at hq
  have kk : ∀ b o, hp.get? b = some o → ((hp.push (PySem.W.kdv_tup us)).push (PySem.HandSPX.excO C hp.objs.size)).get? b = some o := fun b o e => Heap.get?_push_of_some _ (Heap.get?_push_of_some _ e)
  have hget : ((hp.push (PySem.W.kdv_tup us)).push (PySem.HandSPX.excO C hp.objs.size)).get? (hp.objs.size + 1) = some (PySem.HandSPX.excO C hp.objs.size) := by heap_get
  have I2 : Inv X pins σ (upd H1 (hp.objs.size + 1) (exo (hp.objs.size + 1) C none)) ⟨(hp.push (PySem.W.kdv_tup us)).push (PySem.HandSPX.excO C hp.objs.size), g, dr, tk, os⟩ :=
    I1.laid (t' := tk) (a := hp.objs.size + 1) (o := exo (hp.objs.size + 1) C none) (h' := (hp.push (PySem.W.kdv_tup us)).push (PySem.HandSPX.excO C hp.objs.size)) kk hsz (exo_ok hget)
  have r2 : Vals (V.ref (hp.objs.size + 1) :: vs) (Value.ref (hp.objs.size + 1) :: us) := .cons rfl r1
  have hl : (Value.ref (hp.objs.size + 1) :: us ++ []).length = ps.length := by
    have e := r2.length
    rw [F1.len _ _ _ _ hq] at e
    rw [List.append_nil]
    exact e.symm
  have hus : us.length ≤ sizeLine := by
    rw [← Paired.length r1, sizeLine_eq]
    omega
  have b2 := hb _ (Value.ref (hp.objs.size + 1) :: us) I2.kIn hl
  rw [List.append_nil] at b2
  refine wpAny_call (PySem.HandSPX.call_own F.excBase_ValueError (fun Y => PySem.HandSPX.refsVE_contains Y bm hbm) (I1.kIn _ _ hC) (PySem.W.looks_findIn I1.kIn iC) (fun self => PySem.W.bind_fn I1.kIn self tI) hus
    (codeAny_mono (F1.run _ X.stack _ _ ⟨Value.ref (hp.objs.size + 1) :: us, []⟩ (Value.ref (hp.objs.size + 1) :: us) _ _ (fun _ _ _ => False) (hr.make C us []) (I2.env0.make C us []) b2 r2 hq) fun r s' hq' => ?_))
  cases r with
  | error er => exact hx pins σ _ _ er s' I2 hq'
  | ok fl =>
    cases fl with
    | ret u =>
      obtain ⟨v, H2, os2, bare2, un2, hok2, rv, ev, d, fs, ea, ed, hd1, q2⟩ := hq'
      subst ev
      obtain ⟨h2, g2, d2, t2, os'⟩ := s'
      obtain ⟨t0, G, J, kG, ge, hoe, na⟩ := mk_end0 (d2 := d2) (t2 := t2) I1 hsz kk un2 hok2 os2 bare2 ea ed hd1
      refine ⟨rv, ⟨hp.objs.size + 1, _, _, ⟨G, g2, d2, t2, os'⟩, _, .ref C, some d, rfl, J, kG, ge, hoe, ⟨rfl, rfl, fun vs hv => ?_⟩, rfl, rfl, na, rfl, bare2, raises_own T.exC T.tyC, q2⟩⟩
      cases hv
      rfl
    | next => exact False.elim hq'
    | brk => exact False.elim hq'
    | cont => exact False.elim hq'
end
end WB
namespace WB
open PySem PySem.Spec PyProof.Rows L2
section
variable {K : Fr} {h : Heap} {mg : Str → Option Value}
theorem kint {x : Str} {i : Int} (c : (He.Fa.int x i).ok K = true) (X : K.In h) (G : h.Ns mainGlobals mg) : ∃ u, mg x = some u ∧ RelV (.int i) u := by
  obtain ⟨t, e⟩ := He.int_ok X G c
  exact ⟨_, e, ⟨t, rfl⟩⟩
theorem kstr {x z : Str} (c : (He.Fa.str x z).ok K = true) (X : K.In h) (G : h.Ns mainGlobals mg) : ∃ u, mg x = some u ∧ RelV (.str z) u := by
  obtain ⟨t, e⟩ := He.str_ok X G c
  exact ⟨_, e, ⟨t, rfl⟩⟩
end
def exiB (x : Str) (K : Fr) : Bool := decide (PySem.W.findIn K (.ref (He.ga K x)) "__init__" = some (some (.ref (He.ma K (He.ga K x) "__init__")))) && decide (PySem.W.typeIn K (.ref (He.ma K (He.ga K x) "__init__")) = some (.type "function"))
theorem exiB_ok {x : Str} {K : Fr} (h : exiB x K = true) : PySem.W.findIn K (.ref (He.ga K x)) "__init__" = some (some (.ref (He.ma K (He.ga K x) "__init__"))) ∧ PySem.W.typeIn K (.ref (He.ma K (He.ga K x) "__init__")) = some (.type "function") := by
  simp only [exiB, Bool.and_eq_true, decide_eq_true_eq] at h
  exact h
def ExI (P : Program) (w : World) (K : Fr) (mg : Str → Option Value) (base : Heap) (k : Nat) (x : Str) (ps : List Str) (sp : Sp) : Prop :=
  ∃ fd, PySem.W.findIn K (.ref (He.ga K x)) "__init__" = some (some (.ref (He.ma K (He.ga K x) "__init__"))) ∧ PySem.W.typeIn K (.ref (He.ma K (He.ga K x) "__init__")) = some (.type "function") ∧ FnOk P w K mg base CX0 k (He.ma K (He.ga K x) "__init__") fd ps sp ∧ Binds K fd ps []
def ExIH (P : Program) (w : World) (K : Fr) (mg : Str → Option Value) (base : Heap) (k : Nat) (x : Str) (ps : List Str) (sp : Sp) : Prop :=
  ∃ fd, PySem.W.findIn K (.ref (He.ga K x)) "__init__" = some (some (.ref (He.ma K (He.ga K x) "__init__"))) ∧ PySem.W.typeIn K (.ref (He.ma K (He.ga K x) "__init__")) = some (.type "function") ∧ L2H.FnH P w K mg base CX0 k (He.ma K (He.ga K x) "__init__") fd ps sp ∧ Binds K fd ps []
theorem passZ {X : Cx} : Passes CX0 X (fun _ _ _ => False) := fun _ _ _ _ _ _ _ h => h.elim
def CalK (P : Program) (w : World) (K : Fr) (mg : Str → Option Value) (base : Heap) (CX : CXT) (k : Nat) (x : Str) (ps : List Str) (sp : Sp) : Prop :=
  ∃ f fd, FnOk P w K mg base CX k f fd ps sp ∧ mg x = some (.ref f) ∧ PySem.W.keepIn K (.ref f) = true ∧ KBn K fd ps 0 ps (fun _ ws => ws) (fun _ zs => zs)
theorem kbn_of {K : Fr} {x qual : Str} {params : Arguments} {body : List Stmt} {scope : Scope} {kws : List (Str × V)} {f : Addr} {fd : FuncData} {ps : List Str} (F : FunD K x qual params body scope [] kws f fd)
    (h : ∀ (kV doc pm : Value) (an : Option Addr) (cdv ct : Value) (ws : List Value), ws.length = ps.length → bindArgs (PySem.W.fnOf x qual params body scope .none kV doc pm an cdv ct) ⟨[], ps.zip ws⟩ = pure (ps.zip ws)) : KBn K fd ps 0 ps (fun _ ws => ws) (fun _ zs => zs) := by
  obtain ⟨oc, od, dV, kV, doc, pm, an, cdv, ct, osl, rfl, lk, hcd, hD, hK⟩ := F.ex
  rcases hD with ⟨_, rfl⟩ | ⟨e, _⟩
  · refine ⟨fun s us ws _ h1 h2 => ?_, fun _ r => r⟩
    obtain rfl : us = [] := List.length_eq_zero_iff.mp h1
    exact .of_eq (h kV doc pm an cdv ct ws h2)
  · exact absurd rfl e
section
variable {X : Cx} {CX : CXT} {k j : Nat} {f C : Addr} {fd : FuncData} {ps ks : List Str} {sp : Sp} {E : L2.St → XK} {x m : Str} {p pos apos : Pos} {e o : Expr} {es : List Expr} {kws : List Keyword} {ta : TE} {t tk : TA}
theorem pe_wcallK (c : CalK X.prog X.w X.K X.mg X.base CX k x ks sp) (hr : Room j X.A) (hk : k ≤ j) (hx : ∀ σ, PassesAt CX X σ (E σ)) (hkw : PK X kws tk) (hg : Gl X x := by rfl)
    (hall : (backToKw pos (keywordEach kws X.env)).all (·.1.isSome) = true := by rfl) (hks : (backToKw pos (keywordEach kws X.env)).filterMap (·.1) = ks := by rfl) (hdb : (x == ("__debug__" : Str)) = false := by decide)
    (hpl : ((backTo pos (starEach [] X.env)).any (·.1) || (backToKw pos (keywordEach kws X.env)).any (·.1.isNone)) = false := by rfl) :
    PE X (.Call (.Name x p) [] kws pos) (tCallS sp E tk) := by
  obtain ⟨f, fd, F, hm, hkp, hb⟩ := c
  refine ⟨fun pins s σ H Q I h => ?_⟩
  refine wpAny_Call_Name_kw (ld_glob I hg hm ?_ hdb)
  refine PySem.W.callWith_KW0 (h₀ := X.base) I.ok.mod.kin hkp hall ?_ hpl
  refine thn (hkw.run pos pins s σ H _ I h) fun ws s2 ⟨zs, H2, I2, rz, q2⟩ => ⟨I2.kIn, ?_⟩
  rw [hks]
  have hl : ws.length = ks.length := by rw [← rz.length]; exact F.len _ _ _ _ q2
  refine wpAny_call (codeAny_mono (F.run X.A X.stack s2 H2 ⟨[], ks.zip ws⟩ ws zs Q (E σ) (hr.mono hk) I2.env0 (hb.to s2 [] ws I2.kIn rfl hl) rz q2) fun r s' hq => ?_)
  cases r with
  | error e => exact hx σ pins H2 s2 e s' I2 hq
  | ok fl =>
    cases fl with
    | ret u => exact I2.after hq
    | next => exact False.elim hq
    | brk => exact False.elim hq
    | cont => exact False.elim hq
end
theorem funD_okH {P : Program} {w : World} {K : Fr} {mg : Str → Option Value} {base : Heap} {x qual : Str} {params : Arguments} {body : List Stmt} {scope : Scope} {dvs : List V} {kws : List (Str × V)} {f : Addr} {fd : FuncData}
    {CX : CXT} {N ps : List Str} {k : Nat} {sp : Sp} (F : FunD K x qual params body scope dvs kws f fd) (S : FnScope N ps scope) (len : ∀ vs H Q E, sp vs H Q E → vs.length = ps.length)
    (hbody : ∀ (cdv : Value) (A : Around) (outer : List Env) (s : Shared) (H : Hp) (vs : List V) (Q : VK) (E : XK) (p : Addr × Obj), L2H.Hot1 A p → L2H.RoomH k (A.deeper (envOfC qual scope s.heap.objs.size f cdv)) → sp vs H Q E →
      ∃ t, PSs (L2H.cxH CX P w K mg base N qual scope f cdv A outer s H E p) body t ∧ t { nx := fun _ H' => Q .non H', rt := Q } (L2.start N vs) H) : L2H.FnH P w K mg base CX (k + 1) f fd ps sp := by
  obtain ⟨oc, od, dV, kV, doc, pm, an, cdv, ct, osl, rfl, lk, hcd, _, _⟩ := F.ex
  exact L2H.fn_ofH lk hcd S len fun A outer s H vs Q E p hot hr hsp => hbody cdv A outer s H vs Q E p hot hr hsp
def objB (K : Fr) : Bool := decide (PySem.W.specialIn K (.builtin "object.__class__") "__get__" = some (some (.builtin "getset_descriptor.__get__"))) && decide (PySem.W.takesIn K (.builtin "object.__class__") = some true)
theorem objB_ok {K : Fr} (h : objB K = true) : PySem.W.specialIn K (.builtin "object.__class__") "__get__" = some (some (.builtin "getset_descriptor.__get__")) ∧ PySem.W.takesIn K (.builtin "object.__class__") = some true := by
  simp only [objB, Bool.and_eq_true, decide_eq_true_eq] at h
  exact h
theorem excD {K : Fr} {D : Addr} (x : OexC K D ∧ XfC K D ∧ PySem.W.findIn K (.ref D) "__class__" = some (some (.builtin "object.__class__")) ∧ PySem.W.mroIn K D (.type "object") = some true)
    (y : PySem.W.specialIn K (.builtin "object.__class__") "__get__" = some (some (.builtin "getset_descriptor.__get__")) ∧ PySem.W.takesIn K (.builtin "object.__class__") = some true) : ExcC K D :=
  ⟨x.2.1.ga, x.2.1.gg, x.2.1.exC, x.2.1.hdC, x.2.2.1, y.1, y.2, x.2.2.2⟩
def rIsEd (K : Fr) (D a : Addr) (cls : Value) (d : Option Addr) : List V → Hp → VK → Prop := fun xs H Q => ∃ (c : V) (cv : Value) (b : Bool) (dd : Addr) (fs : List (Str × V)), xs = [.ref a, c] ∧ cls = .ref D ∧ d = some dd ∧ H dd = some (.xd fs) ∧ (∀ u, RelV c u → u = cv) ∧ PySem.W.kitOne K (.ref D) cv = some b ∧ Q (.bl b) H
theorem call_isEd {X : Cx} {a D : Addr} {cls : Value} {d : Option Addr} {oe : Obj} {pn : List (Addr × Obj)} (C : ExcC X.K D) (hz : Zc cls d oe) (hf : ∃ vs, oe.data = .fields vs) : CallR (X.suite a ((a, oe) :: pn)) (.builtin "isinstance") (rIsEd X.K D a cls d) := by
  intro pins s σ H xs us Q I r h
  obtain ⟨c, cv, b, dd, fs, rfl, hcl, hdd, ea, hcv, e, q⟩ := h
  cases r with
  | cons rx rr =>
    cases rr with
    | cons rt rr =>
      cases rr
      cases rx
      have ec := hcv _ rt
      subst ec
      obtain ⟨hget, _⟩ := I.pin (a, oe) (List.mem_append.mpr (.inl List.mem_cons_self))
      obtain ⟨vs, hv⟩ := hf
      have hx : ObjOk X.prog X.w H s.heap dd (.xd fs) := I.hok dd _ ea
      obtain ⟨mA, ⟨od, es, ep, ho, _⟩, _⟩ := hx
      have J : PySem.W.InstAt s.heap a oe D (some od) := by
        obtain ⟨oc, od', oda, osl⟩ := oe
        obtain ⟨h1, h2⟩ := hz
        dsimp only at h1 h2 hv
        subst h1 h2 hv hcl hdd
        exact ⟨hget, rfl, rfl, ho⟩
      have hcl2 : (PySem.W.clsIn X.K D).isSome = true := by
        obtain ⟨cd, hc, _⟩ := PySem.W.any_some C.hd
        rw [hc]
        rfl
      exact PySem.W.kia_one (PySem.W.kitx_exc (od := some od) hcl2 C.hg C.hk C.hs C.ha C.hn C.ht C.hm) I.kIn J e (fun z => nomatch z) fun tk => ⟨.bl b, H, I.kept (t' := tk) fun _ _ z => z, rfl, q⟩
theorem op_eqOwn {X : Cx} {C : Addr} {R : Addr → Addr → Hp → Prop} {ps : List Str} {k j : Nat} (c : Met X.prog X.w X.K X.mg X.base CX0 k C "__eq__" ps (spEq R)) (hr : Room j X.A) (hk : k ≤ j) : OpR X (compareOp .Eq) (rEqG (DIns C R)) := by
  obtain ⟨f, fd, F, _, hm, hb⟩ := c
  exact op_eqG (rcG_ins (E := E0) F hm.at_ hm.fn hb pass0) (hr.mono hk)
def rCntV (K : Fr) : V → List V → Hp → VK → Prop := fun x xs H Q => ∃ (p : Addr) (ys : List V) (y : V), x = .ref p ∧ xs = [y] ∧ SqL K H p ys ∧ flatV y = true ∧ ys.all flatV = true ∧ Q (.int (ys.countP fun z => eqV z y : Nat)) H
theorem countP_eqU {x : V} : ∀ {xs : List V} {us : List Value}, Vals xs us → xs.all flatV = true → us.countP (eqU x) = xs.countP fun y => eqV y x
  | _, _, .nil, _ => rfl
  | y :: xs, u :: us, .cons r t, f => by
    rw [List.all_cons, Bool.and_eq_true] at f
    rw [List.countP_cons, List.countP_cons, countP_eqU t f.2, eqU_of r f.1]
theorem mt_countV {X : Cx} : MtR X "list.count" (rCntV X.K) := by
  intro pins s σ H x xs v us Q I rx rxs h
  obtain ⟨p, ys, y, rfl, rfl, hs, fy, fa, q⟩ := h
  cases rx
  obtain ⟨u, rfl, ru⟩ := rxs.one
  obtain ⟨its, rv, ⟨⟨cls, dd, data, sl⟩, n, ho, hc, hdn, hd⟩, hlen⟩ := I.list hs
  simp only at hc hd
  subst hc hd
  refine call_meets PySem.F.slot_list_count ⟨_, ho, rfl⟩ PySem.F.entry_list_count (PySem.F.args_list_count_2 _ _)
    (SeqAt.list_countAt p its.toArray n dd sl u (eqU y)) ⟨ho, fun z hz => mem_eqAt ru fy rv fa z (by simpa using hz), ?_⟩
  have ec : its.toArray.toList.countP (eqU y) = ys.countP fun z => eqV z y := countP_eqU rv fa
  refine ⟨.int (ys.countP fun z => eqV z y : Nat), H, I.tok _, ⟨s.toks, ?_⟩, q⟩
  show Value.int ((its.toArray.toList.countP (eqU y) : Nat) : Int) s.toks = Value.int ((ys.countP fun z => eqV z y : Nat) : Int) s.toks
  rw [ec]
end WB
namespace WB
open PySem PySem.Spec PyProof.Rows L2
abbrev Ex := Evl.Ex
theorem ex_r {H : Hp} : Ex H H := Evl.Ex.refl H
theorem ex_t {H H1 H2 : Hp} (a : Ex H H1) (b : Ex H1 H2) : Ex H H2 := Evl.Ex.trans a b
theorem ex_n {H : Hp} {p : Addr} {o : HO} (h : H p = none) : Ex H (upd H p o) := Evl.Ex.new h
theorem ex_tn {H H1 : Hp} {p : Addr} {o : HO} (a : Ex H H1) (h : H1 p = none) : Ex H (upd H1 p o) := ex_t a (ex_n h)
theorem ex_no {H H' : Hp} {p : Addr} (e : Ex H H') (h : H' p = none) : H p = none := Evl.fresh_back e h
theorem ex_ne {H H' : Hp} {p q : Addr} {o : HO} (h : H p = some o) (e : Ex H H') (n : H' q = none) : p ≠ q := ne_of_none (e p o h) n
def ExP (p : Addr) (H H' : Hp) : Prop := ∀ a o, a ≠ p → H a = some o → H' a = some o
theorem ExP.of {p : Addr} {H H' : Hp} (e : Ex H H') : ExP p H H' := fun a o _ h => e a o h
theorem ExP.refl {p : Addr} {H : Hp} : ExP p H H := fun _ _ _ h => h
theorem ExP.trans {p : Addr} {H H1 H2 : Hp} (a : ExP p H H1) (b : ExP p H1 H2) : ExP p H H2 := fun c o n h => b c o n (a c o n h)
theorem ExP.upd {p : Addr} {H : Hp} {o : HO} : ExP p H (L2.upd H p o) := fun a u n h => by rw [upd_ne n]; exact h
theorem ExP.tx {p : Addr} {H H1 H2 : Hp} (a : ExP p H H1) (b : Ex H1 H2) : ExP p H H2 := a.trans (.of b)
theorem ExP.tu {p : Addr} {H H1 : Hp} {o : HO} (a : ExP p H H1) : ExP p H (L2.upd H1 p o) := a.trans ExP.upd
theorem ExP.ex {p : Addr} {H H' : Hp} (a : ExP p H H') (h : H p = none) : Ex H H' := fun c o e => a c o (ne_of_none e h) e
theorem iteB {b : Bool} {A B : Prop} (h1 : b = true → A) (h2 : b = false → B) : if b = true then A else B := by
  cases b with
  | true => exact h1 rfl
  | false => exact h2 rfl
theorem ite_t {b : Bool} {A B : Prop} (h : b = true) (q : A) : if b = true then A else B := by subst h; exact q
theorem ite_f {b : Bool} {A B : Prop} (h : b = false) (q : B) : if b = true then A else B := by subst h; exact q
theorem small_line {n : Nat} (h : n ≤ 16777216) : n ≤ sizeLine := by rw [sizeLine_eq]; exact h
theorem small_lt {n : Nat} (h : n < 16777216) : n < sizeLine := by rw [sizeLine_eq]; exact h
structure SeqIt (J : It) (xs : List V) (Ok : Hp → Prop) : Prop where
  go : ∀ i H, Ok H → i < xs.length → J.go i H
  yld : ∀ i H x H', Ok H → J.yld i H x H' → H' = H ∧ (i < xs.length → xs[i]? = some x)
  stop : ∀ i H, Ok H → xs.length ≤ i → J.stop i H
theorem seq_list {K : Fr} {a : Addr} {xs : List V} : SeqIt (Itl K a) xs (fun H => SqL K H a xs) where
  go := fun i H h l => ⟨xs, xs[i], h, by simp [l]⟩
  yld := fun i H x H' h y => ⟨y.1, fun _ => y.2 xs h⟩
  stop := fun i H h l => ⟨xs, h, l⟩
theorem seq_tup {K : Fr} {a : Addr} {xs : List V} : SeqIt (Itt K a) xs (fun H => SqT K H a xs) where
  go := fun i H h l => ⟨xs, xs[i], h, by simp [l]⟩
  yld := fun i H x H' h y => ⟨y.1, fun _ => y.2 xs h⟩
  stop := fun i H h l => ⟨xs, h, l⟩
def sgn (c : Nat) : Str := ⟨#[c]⟩
def signsV (z : Str) : List V := z.cps.toList.map fun c => V.str (sgn c)
theorem seq_str {z : Str} : SeqIt (Its z) (signsV z) (fun _ => True) where
  go := fun i H _ l => by
    show i < z.cps.size
    simpa [signsV] using l
  yld := fun i H x H' _ y => by
    obtain ⟨e, c, hc, rfl⟩ := y
    refine ⟨e, fun _ => ?_⟩
    unfold signsV
    rw [List.getElem?_map, Array.getElem?_toList, hc]
    rfl
  stop := fun i H _ l => by
    show z.cps.size ≤ i
    simpa [signsV] using l
def intsV (lo : Int) (n : Nat) : List V := (List.range n).map fun (i : Nat) => V.int (lo + (i : Int))
theorem seq_rng {lo : Int} {n : Nat} : SeqIt (Itr lo n) (intsV lo n) (fun _ => True) where
  go := fun i H _ l => by
    have l2 : i < n := by simpa [intsV] using l
    exact l2
  yld := fun i H x H' _ y => by
    obtain ⟨e, rfl⟩ := y
    refine ⟨e, fun l => ?_⟩
    have l2 : i < n := by simpa [intsV] using l
    unfold intsV
    rw [List.getElem?_map, List.getElem?_range l2]
    rfl
  stop := fun i H _ l => by
    have l2 : n ≤ i := by simpa [intsV] using l
    exact l2
section
variable {J : It} {xs : List V} {Ok : Hp → Prop}
theorem for_seq (S : SeqIt J xs Ok) {g : TG} {tb : TS} {D : Ends} {σ : L2.St} {H : Hp} (Pv : Nat → L2.St → Hp → Prop) (h0 : Pv 0 σ H) (hl : ∀ i σ H, i ≤ xs.length → Pv i σ H → Ok H)
    (hs : ∀ i x σ H, xs[i]? = some x → Pv i σ H → g x σ H fun σ2 H2 => tb { D with nx := Pv (i + 1), ct := Pv (i + 1), bk := D.nx } σ2 H2) (hd : ∀ σ H, Pv xs.length σ H → D.nx σ H) :
    ∃ W : Nat → Nat → L2.St → Hp → Prop, (∃ m, W 0 m σ H) ∧ ∀ i m σ H, W i m σ H →
      (J.stop i H ∧ D.nx σ H) ∨ (J.go i H ∧ ∃ N : L2.St → Hp → Prop, (∀ σ' H', N σ' H' → ∃ m', m' < m ∧ W (i + 1) m' σ' H') ∧ ∀ x H', J.yld i H x H' → g x σ H' fun σ2 H2 => tb { D with nx := N, ct := N, bk := D.nx } σ2 H2) := by
  refine ⟨fun i m σ H => m = xs.length - i ∧ i ≤ xs.length ∧ Pv i σ H, ⟨xs.length, by simp, Nat.zero_le _, h0⟩, ?_⟩
  rintro i m σ H ⟨rfl, hi, p⟩
  have q := hl i σ H hi p
  by_cases hlt : i < xs.length
  · refine .inr ⟨S.go i H q hlt, Pv (i + 1), fun σ' H' p' => ⟨xs.length - (i + 1), by omega, rfl, hlt, p'⟩, fun x H' y => ?_⟩
    obtain ⟨e, y2⟩ := S.yld i H x H' q y
    subst e
    exact hs i x σ _ (y2 hlt) p
  · have e : i = xs.length := by omega
    subst e
    exact .inl ⟨S.stop _ H q (Nat.le_refl _), hd σ H p⟩
theorem lc_seq (S : SeqIt J xs Ok) {g : TG} {tt : TT} {te : TE} {vs : List Nat} {σ : L2.St} {H1 : Hp} {D : Addr} {Qd : Hp → Prop} (Pv : Nat → Hp → Prop) (h0 : Pv 0 (upd H1 D (.lst []))) (hl : ∀ i H, i ≤ xs.length → Pv i H → Ok H)
    (hs : ∀ i x H, xs[i]? = some x → Pv i H → g x (wipe σ vs) H fun σ2 H2 => wipe σ2 vs = wipe σ vs ∧ tt σ2 H2 fun b H3 =>
      if b = true then te σ2 H3 fun y H4 => ∃ acc, H4 D = some (.lst acc) ∧ acc.length < sizeLine ∧ Pv (i + 1) (upd H4 D (.lst (acc ++ [y]))) else Pv (i + 1) H3) (hd : ∀ H, Pv xs.length H → Qd H) :
    ∃ W : Nat → Nat → Hp → Prop, (∃ m, W 0 m (upd H1 D (.lst []))) ∧ ∀ i m H, W i m H →
      (J.stop i H ∧ Qd H) ∨ (J.go i H ∧ ∃ Nx : Hp → Prop, (∀ H', Nx H' → ∃ m', m' < m ∧ W (i + 1) m' H') ∧ ∀ x H', J.yld i H x H' → g x (wipe σ vs) H' fun σ2 H2 => wipe σ2 vs = wipe σ vs ∧ tt σ2 H2 fun b H3 =>
        if b = true then te σ2 H3 fun y H4 => ∃ acc, H4 D = some (.lst acc) ∧ acc.length < sizeLine ∧ Nx (upd H4 D (.lst (acc ++ [y]))) else Nx H3) := by
  refine ⟨fun i m H => m = xs.length - i ∧ i ≤ xs.length ∧ Pv i H, ⟨xs.length, by simp, Nat.zero_le _, h0⟩, ?_⟩
  rintro i m H ⟨rfl, hi, p⟩
  have q := hl i H hi p
  by_cases hlt : i < xs.length
  · refine .inr ⟨S.go i H q hlt, Pv (i + 1), fun H' p' => ⟨xs.length - (i + 1), by omega, rfl, hlt, p'⟩, fun x H' y => ?_⟩
    obtain ⟨e, y2⟩ := S.yld i H x H' q y
    subst e
    exact hs i x _ (y2 hlt) p
  · have e : i = xs.length := by omega
    subst e
    exact .inl ⟨S.stop _ H q (Nat.le_refl _), hd H p⟩
theorem take_succ_of {α : Type} {l : List α} {i : Nat} {x : α} (h : l[i]? = some x) : l.take (i + 1) = l.take i ++ [x] := by
  rw [List.take_add_one, h]
  rfl
theorem lc_rel (S : SeqIt J xs Ok) {g : TG} {tt : TT} {te : TE} {vs : List Nat} {σ : L2.St} {H : Hp} {Q : VK} (keep : V → Bool) (R : V → V → Hp → Prop) (ok : ∀ H1, Ex H H1 → Ok H1) (hlen : xs.length ≤ 1000000)
    (body : ∀ D, H D = none → ∀ x ∈ xs, ∀ H1, Ex H H1 → (∃ acc, H1 D = some (.lst acc)) → ∀ (k : Hp → Prop) (ky : V → Hp → Prop), (keep x = false → ∀ H3, Ex H1 H3 → k H3) →
      (keep x = true → ∀ y H4, Ex H1 H4 → (∀ H5, ExP D H4 H5 → R x y H5) → ky y H4) → g x (wipe σ vs) H1 fun σ2 H2 => wipe σ2 vs = wipe σ vs ∧ tt σ2 H2 fun b H3 => if b = true then te σ2 H3 ky else k H3)
    (q : ∀ D ys H', H D = none → Ex H H' → H' D = some (.lst ys) → Paired (fun x y => R x y H') (xs.filter keep) ys → Q (.ref D) H') :
    ∀ D, H D = none → ∃ W : Nat → Nat → Hp → Prop, (∃ m, W 0 m (upd H D (.lst []))) ∧ ∀ i m H, W i m H →
      (J.stop i H ∧ Q (.ref D) H) ∨ (J.go i H ∧ ∃ Nx : Hp → Prop, (∀ H', Nx H' → ∃ m', m' < m ∧ W (i + 1) m' H') ∧ ∀ x H', J.yld i H x H' → g x (wipe σ vs) H' fun σ2 H2 => wipe σ2 vs = wipe σ vs ∧ tt σ2 H2 fun b H3 =>
        if b = true then te σ2 H3 fun y H4 => ∃ acc, H4 D = some (.lst acc) ∧ acc.length < sizeLine ∧ Nx (upd H4 D (.lst (acc ++ [y]))) else Nx H3) := by
  intro D hD
  refine lc_seq S (fun i H' => Ex H H' ∧ ∃ ys, H' D = some (.lst ys) ∧ ys.length ≤ i ∧ ∀ H5, ExP D H' H5 → Paired (fun x y => R x y H5) ((xs.take i).filter keep) ys) ⟨ex_n hD, [], upd_same, Nat.le_refl _, fun _ _ => .nil⟩ (fun i H' _ h => ok H' h.1) ?_ ?_
  · rintro i x H1 hx ⟨e1, ys, hys, hl, hp⟩
    have hm : x ∈ xs := List.mem_of_getElem? hx
    have hi : i < xs.length := (List.getElem?_eq_some_iff.mp hx).1
    refine body D hD x hm H1 e1 ⟨ys, hys⟩ _ _ (fun h H3 e3 => ?_) (fun h y H4 e4 hr => ?_)
    · refine ⟨ex_t e1 e3, ys, e3 _ _ hys, by omega, fun H5 h5 => ?_⟩
      rw [take_succ_of hx, List.filter_append, List.filter_cons, h, if_neg Bool.false_ne_true, List.filter_nil, List.append_nil]
      exact hp H5 (ExP.trans (.of e3) h5)
    · refine ⟨ys, e4 _ _ hys, small_lt (by omega), fun a o ha => ?_, ys ++ [y], upd_same, by simp; omega, fun H5 h5 => ?_⟩
      · rw [upd_ne (ne_of_none ha hD)]
        exact e4 _ _ (e1 _ _ ha)
      · rw [take_succ_of hx, List.filter_append, List.filter_cons, h, if_pos rfl, List.filter_nil]
        have h6 : ExP D H4 H5 := ExP.trans ExP.upd h5
        exact Paired.snoc (hp H5 (ExP.trans (.of e4) h6)) (hr H5 h6)
  · rintro H1 ⟨e1, ys, hys, _, hp⟩
    have z := hp H1 ExP.refl
    rw [List.take_length] at z
    exact q D ys H1 hD e1 hys z
theorem lc_of (S : SeqIt J xs Ok) {wi : TI} {g : TG} {tt : TT} {te : TE} {vs : List Nat} {σ : L2.St} {H : Hp} {Q : VK} (hwi : ∀ R : It → Hp → Prop, R J H → wi σ H R) (keep : V → Bool) (R : V → V → Hp → Prop) (ok : ∀ H1, Ex H H1 → Ok H1) (hlen : xs.length ≤ 1000000)
    (body : ∀ D, H D = none → ∀ x ∈ xs, ∀ H1, Ex H H1 → (∃ acc, H1 D = some (.lst acc)) → ∀ (k : Hp → Prop) (ky : V → Hp → Prop), (keep x = false → ∀ H3, Ex H1 H3 → k H3) →
      (keep x = true → ∀ y H4, Ex H1 H4 → (∀ H5, ExP D H4 H5 → R x y H5) → ky y H4) → g x (wipe σ vs) H1 fun σ2 H2 => wipe σ2 vs = wipe σ vs ∧ tt σ2 H2 fun b H3 => if b = true then te σ2 H3 ky else k H3)
    (q : ∀ D ys H', H D = none → Ex H H' → H' D = some (.lst ys) → Paired (fun x y => R x y H') (xs.filter keep) ys → Q (.ref D) H') : tLc wi g tt te vs σ H Q :=
  hwi _ (lc_rel S keep R ok hlen body q)
theorem for_of (S : SeqIt J xs Ok) {wi : TI} {g : TG} {tb : TS} {D : Ends} {σ : L2.St} {H : Hp} (hwi : ∀ R : It → Hp → Prop, R J H → wi σ H R) (Pv : Nat → L2.St → Hp → Prop) (h0 : Pv 0 σ H) (hl : ∀ i σ H, i ≤ xs.length → Pv i σ H → Ok H)
    (hs : ∀ i x σ H, xs[i]? = some x → Pv i σ H → g x σ H fun σ2 H2 => tb { D with nx := Pv (i + 1), ct := Pv (i + 1), bk := D.nx } σ2 H2) (hd : ∀ σ H, Pv xs.length σ H → D.nx σ H) : tFor wi g tb D σ H :=
  hwi _ (for_seq S Pv h0 hl hs hd)
theorem lcs_of (S : SeqIt J xs Ok) {wi : TI} {g : TG} {tt : TT} {te : TE} {vs : List Nat} {σ : L2.St} {H : Hp} {Q : VK} (hwi : ∀ R : It → Hp → Prop, R J H → wi σ H R) (Pv : Addr → Nat → Hp → Prop) (h0 : ∀ D, H D = none → Pv D 0 (upd H D (.lst [])))
    (hl : ∀ D i H', H D = none → i ≤ xs.length → Pv D i H' → Ok H')
    (hs : ∀ D i x H', H D = none → xs[i]? = some x → Pv D i H' → g x (wipe σ vs) H' fun σ2 H2 => wipe σ2 vs = wipe σ vs ∧ tt σ2 H2 fun b H3 =>
      if b = true then te σ2 H3 fun y H4 => ∃ acc, H4 D = some (.lst acc) ∧ acc.length < sizeLine ∧ Pv D (i + 1) (upd H4 D (.lst (acc ++ [y]))) else Pv D (i + 1) H3) (hd : ∀ D H', H D = none → Pv D xs.length H' → Q (.ref D) H') : tLc wi g tt te vs σ H Q :=
  hwi _ fun D hD => lc_seq S (Pv D) (h0 D hD) (fun i H' => hl D i H' hD) (fun i x H' => hs D i x H' hD) fun H' => hd D H' hD
end
theorem paired_map {α β : Type} {f : α → β} : ∀ {xs : List α} {ys : List β}, Paired (fun x y => y = f x) xs ys → ys = xs.map f
  | _, _, .nil => rfl
  | _, _, .cons h t => by rw [h, paired_map t]; rfl
theorem v_var {i : Nat} {v : V} {σ : L2.St} {H : Hp} (h : σ[i]? = some (some v)) : ∀ Q : VK, Q v H → tVar i σ H Q := fun _ q => ⟨v, h, q⟩
theorem v_c {v : V} {σ : L2.St} {H : Hp} : ∀ Q : VK, Q v H → tC v σ H Q := fun _ q => q
theorem cb1 {r : List V → Hp → VK → Prop} {te : TE} {σ : L2.St} {H : Hp} {Q : VK} (h : te σ H fun x H1 => r [x] H1 Q) : tCB r (tCons te tNil) σ H Q := h
theorem cb2 {r : List V → Hp → VK → Prop} {te tu : TE} {σ : L2.St} {H : Hp} {Q : VK} (h : te σ H fun x H1 => tu σ H1 fun y H2 => r [x, y] H2 Q) : tCB r (tCons te (tCons tu tNil)) σ H Q := h
structure ClsW (K : Fr) (C : Addr) : Prop where
  ha : PySem.W.findIn K (.ref C) "__class__" = some (some (.builtin "object.__class__"))
  hn : PySem.W.specialIn K (.builtin "object.__class__") "__get__" = some (some (.builtin "getset_descriptor.__get__"))
  ht : PySem.W.takesIn K (.builtin "object.__class__") = some true
  hm : PySem.W.mroIn K C (.type "object") = some true
def clsB (x : Str) (K : Fr) : Bool := decide (PySem.W.findIn K (.ref (He.ga K x)) "__class__" = some (some (.builtin "object.__class__"))) && objB K && decide (PySem.W.mroIn K (He.ga K x) (.type "object") = some true)
theorem clsB_ok {x : Str} {K : Fr} (h : clsB x K = true) : ClsW K (He.ga K x) := by
  simp only [clsB, Bool.and_eq_true, decide_eq_true_eq] at h
  obtain ⟨⟨h1, h2⟩, h3⟩ := h
  obtain ⟨h4, h5⟩ := objB_ok h2
  exact ⟨h1, h4, h5, h3⟩
end WB
namespace WB
open PySem PySem.Spec PyProof.Rows L2 Evl
abbrev SV (l : List Str) : List V := l.map V.str
section
variable {K : Fr} {σ : L2.St} {H : Hp} {D : Ends}
theorem for_enum {a : Addr} {xs : List V} {tl : TE} {s1 s2 : Nat} {tb : TS} (hl0 : ∀ Q' : VK, Q' (.ref a) H → tl σ H Q') (Pv : Nat → L2.St → Hp → Prop) (h0 : Pv 0 σ H) (hl : ∀ i σ' H', i ≤ xs.length → Pv i σ' H' → SqL K H' a xs)
    (hs : ∀ i x σ' H', xs[i]? = some x → Pv i σ' H' → ∀ T, H' T = none → tb { D with nx := Pv (i + 1), ct := Pv (i + 1), bk := D.nx } ((σ'.set s1 (some (.int (i : Int)))).set s2 (some x)) (upd H' T (.tup [.int (i : Int), x])))
    (hd : ∀ σ' H', Pv xs.length σ' H' → D.nx σ' H') : tFor (iEnum K (tCons tl tNil)) (gTup K 2 (gCons (gName s1) (gCons (gName s2) gNil))) tb D σ H := by
  refine hl0 _ ⟨a, xs, rfl, hl 0 σ H (Nat.zero_le _) h0, ?_⟩
  refine ⟨fun i m σ H => m = xs.length - i ∧ i ≤ xs.length ∧ Pv i σ H, ⟨xs.length, by simp, Nat.zero_le _, h0⟩, ?_⟩
  rintro i m σ H ⟨rfl, hi, p⟩
  have q := hl i σ H hi p
  by_cases hlt : i < xs.length
  · refine .inr ⟨⟨xs, xs[i], q, by simp [hlt]⟩, Pv (i + 1), fun σ' H' p' => ⟨xs.length - (i + 1), by omega, rfl, hlt, p'⟩, fun x H' y => ?_⟩
    obtain ⟨T, x', rfl, hT, rfl, hx⟩ := y
    exact ⟨T, _, rfl, SqT.of upd_same, rfl, _, _, rfl, _, _, rfl, rfl, hs i x' σ H (hx xs q) p T hT⟩
  · have e : i = xs.length := by omega
    subst e
    exact .inl ⟨⟨xs, q, Nat.le_refl _⟩, hd σ H p⟩
theorem ev_is' {te : TE} {v w : V} (h : Ev te σ H v) (e : v = w) : Ev te σ H w := e ▸ h
theorem ev_cS {sp : Sp} {E : L2.St → XK} {ta : TA} {vs : List V} {z : V} (h : EvA ta σ H vs) (hs : ∀ H1, Ex H H1 → ∀ Q : VK, (∀ H2, Ex H1 H2 → Q z H2) → sp vs H1 Q (E σ)) : Ev (tCallS sp E ta) σ H z := fun H1 e Q q =>
  h H1 e _ fun H2 e2 => hs H2 (e.trans e2) Q fun H3 e3 => q H3 (e2.trans e3)
theorem ev_mS {C : Addr} {m : Str} {sp : Sp} {E : L2.St → XK} {to : TE} {ta : TA} {a dx : Addr} {fs : List (Str × V)} {vs : List V} {z : V} (ho : Ev to σ H (.ref a)) (ha : H a = some (.ins C dx fs)) (hl : fs.lookup m = none) (h : EvA ta σ H vs)
    (hs : ∀ H1, Ex H H1 → ∀ Q : VK, (∀ H2, Ex H1 H2 → Q z H2) → sp (.ref a :: vs) H1 Q (E σ)) : Ev (tMethS C m sp E to ta) σ H z := fun H1 e Q q =>
  ho H1 e _ fun H2 e2 => ⟨a, dx, fs, rfl, e2 _ _ (e _ _ ha), hl, h H2 (e.trans e2) _ fun H3 e3 => hs H3 ((e.trans e2).trans e3) Q fun H4 e4 => q H4 ((e2.trans e3).trans e4)⟩
theorem ev_isi {ta tb : TE} {x c : V} {t u : Value} {b : Bool} (ha : Ev ta σ H x) (hb : Ev tb σ H c) (k : ClsV c u) (ty : ∀ H1, Ex H H1 → TyX K H1 x t) (e : PySem.W.kitOne K t u = some b) : Ev (tCB (rIsi K) (tCons ta (tCons tb tNil))) σ H (.bl b) := fun H1 e1 Q q =>
  ha H1 e1 _ fun H2 e2 => hb H2 (e1.trans e2) _ fun H3 e3 => ⟨x, c, t, u, b, rfl, k, ty H3 ((e1.trans e2).trans e3), e, q H3 (e2.trans e3)⟩
theorem ev_strI {ta : TE} {i : Int} (ha : Ev ta σ H (.int i)) (hi : i.natAbs < 1000000) : Ev (tCB rStrI (tCons ta tNil)) σ H (.str (toString i)) := fun H1 e1 Q q =>
  ha H1 e1 _ fun H2 e2 => ⟨i, rfl, by
    have h3 : i.natAbs.log2 ≤ i.natAbs := Nat.log2_le_self _
    by_cases h0 : i.natAbs = 0
    · rw [h0]; decide
    · have h4 : i.natAbs < 2 ^ 20 := by omega
      have h5 : i.natAbs.log2 < 20 := (Nat.log2_lt h0).mpr h4
      omega, q H2 e2⟩
theorem ev_lenL {ta : TE} {p : Addr} {xs : List V} (ha : Ev ta σ H (.ref p)) (h : SqL K H p xs) : Ev (tCB (rLenA K) (tCons ta tNil)) σ H (.int (xs.length : Int)) := fun H1 e1 Q q =>
  ha H1 e1 _ fun H2 e2 => .inl ⟨p, xs, rfl, .inl (ex_l (e1.trans e2) h), q H2 e2⟩
theorem ev_lenT {ta : TE} {p : Addr} {xs : List V} (ha : Ev ta σ H (.ref p)) (h : SqT K H p xs) : Ev (tCB (rLenA K) (tCons ta tNil)) σ H (.int (xs.length : Int)) := fun H1 e1 Q q =>
  ha H1 e1 _ fun H2 e2 => .inl ⟨p, xs, rfl, .inr (Evl.ex_t (e1.trans e2) h), q H2 e2⟩
theorem ev_lenS {ta : TE} {z : Str} (ha : Ev ta σ H (.str z)) (h : z.length ≤ 100000) : Ev (tCB (rLenA K) (tCons ta tNil)) σ H (.int (z.length : Int)) := fun H1 e1 Q q =>
  ha H1 e1 _ fun H2 e2 => .inr ⟨z, rfl, small_line (by omega), q H2 e2⟩
theorem ev_chain {ta tb tc : TE} {i j l : Int} (ha : Ev ta σ H (.int i)) (hb : Ev tb σ H (.int j)) (hc : Ev tc σ H (.int l)) : Ev (tChain rLeI rLeI ta tb tc) σ H (.bl (decide (i ≤ j) && decide (j ≤ l))) := fun H1 e1 Q q =>
  ha H1 e1 _ fun H2 e2 => hb H2 (e1.trans e2) _ fun H3 e3 => ⟨i, j, rfl, rfl, _, rfl, by
    by_cases h : i ≤ j
    · rw [decide_eq_true h] at q ⊢
      exact ite_t rfl (hc H3 ((e1.trans e2).trans e3) _ fun H4 e4 => ⟨j, l, rfl, rfl, q H4 ((e2.trans e3).trans e4)⟩)
    · rw [decide_eq_false h] at q ⊢
      exact ite_f rfl (q H3 (e2.trans e3))⟩
theorem ev_eqI {ta tb : TE} {i j : Int} (ha : Ev ta σ H (.int i)) (hb : Ev tb σ H (.int j)) : Ev (tOp (rEqA K) ta tb) σ H (.bl (decide (i = j))) :=
  ev_is' (ev_op (z := .bl (decide (V.int i = V.int j))) ha hb fun H1 e Q q => .inl ⟨rfl, q H1 (Ex.refl _)⟩) (by
    congr 1
    by_cases h : i = j
    · rw [h]; simp
    · rw [decide_eq_false h]; exact decide_eq_false fun z => h (V.int.inj z))
theorem ev_eqS {ta tb : TE} {i j : Str} (ha : Ev ta σ H (.str i)) (hb : Ev tb σ H (.str j)) : Ev (tOp (rEqA K) ta tb) σ H (.bl (decide (i = j))) :=
  ev_is' (ev_op (z := .bl (decide (V.str i = V.str j))) ha hb fun H1 e Q q => .inl ⟨rfl, q H1 (Ex.refl _)⟩) (by
    congr 1
    by_cases h : i = j
    · rw [h]; simp
    · rw [decide_eq_false h]; exact decide_eq_false fun z => h (V.str.inj z))
theorem ev_neS {ta tb : TE} {i j : Str} (ha : Ev ta σ H (.str i)) (hb : Ev tb σ H (.str j)) : Ev (tOp (rNeA K) ta tb) σ H (.bl (!decide (i = j))) :=
  ev_is' (ev_op (z := .bl (!decide (V.str i = V.str j))) ha hb fun H1 e Q q => .inl ⟨rfl, q H1 (Ex.refl _)⟩) (by
    congr 2
    by_cases h : i = j
    · rw [h]; simp
    · rw [decide_eq_false h]; exact decide_eq_false fun z => h (V.str.inj z))
theorem ev_addS {ta tb : TE} {i j : Str} (ha : Ev ta σ H (.str i)) (hb : Ev tb σ H (.str j)) (h : i.length + j.length ≤ 100000) : Ev (tOp (rAddA K) ta tb) σ H (.str (i ++ j)) :=
  ev_op ha hb fun H1 e Q q => .inr (.inl ⟨i, j, rfl, rfl, small_line (by omega), q H1 (Ex.refl _)⟩)
theorem ev_addI {ta tb : TE} {i j : Int} (ha : Ev ta σ H (.int i)) (hb : Ev tb σ H (.int j)) : Ev (tOp (rAddA K) ta tb) σ H (.int (i + j)) :=
  ev_op ha hb fun H1 e Q q => .inl ⟨i, j, rfl, rfl, q H1 (Ex.refl _)⟩
theorem ev_fld {to : TE} {a C dx : Addr} {fs : List (Str × V)} {f : Str} {v : V} (ho : Ev to σ H (.ref a)) (ha : H a = some (.ins C dx fs)) (c : Cls K C) (n : NoAttr K C f) (hl : fs.lookup f = some v) : Ev (tFld K to f) σ H v := fun H1 e Q q =>
  ho H1 e _ fun H2 e2 => ⟨a, C, dx, fs, v, rfl, e2 _ _ (e _ _ ha), c, n, hl, q H2 e2⟩
theorem inV_str {z : Str} : ∀ {l : List Str}, inV (.str z) (SV l) = decide (z ∈ l)
  | [] => rfl
  | y :: l => by
    have ih := inV_str (z := z) (l := l)
    unfold inV at ih ⊢
    show (eqV (V.str y) (V.str z) || (SV l).any fun y => eqV y (V.str z)) = _
    rw [ih]
    by_cases h : y = z
    · subst h
      simp [eqV]
    · have h2 : eqV (V.str y) (V.str z) = false := by simp [eqV, h]
      rw [h2]
      by_cases h3 : z ∈ l
      · rw [decide_eq_true h3, decide_eq_true (List.mem_cons_of_mem _ h3)]; rfl
      · rw [decide_eq_false h3, decide_eq_false (fun q => by rcases List.mem_cons.mp q with q | q; exact h q.symm; exact h3 q)]; rfl
theorem flat_SV (l : List Str) : (SV l).all flatV = true := List.all_eq_true.mpr fun v hv => by
  obtain ⟨z, _, rfl⟩ := List.mem_map.mp hv
  rfl
theorem ev_inL {ta tb : TE} {z : Str} {p : Addr} {l : List Str} (ha : Ev ta σ H (.str z)) (hb : Ev tb σ H (.ref p)) (hx : SqL K H p (SV l)) : Ev (tOp (rInA K) ta tb) σ H (.bl (decide (z ∈ l))) :=
  ev_op ha hb fun H1 e Q q => .inl ⟨p, SV l, rfl, .inl (ex_l e hx), rfl, flat_SV l, by rw [if_neg Bool.false_ne_true, inV_str]; exact q H1 (Ex.refl _)⟩
theorem ev_niL {ta tb : TE} {z : Str} {p : Addr} {l : List Str} (ha : Ev ta σ H (.str z)) (hb : Ev tb σ H (.ref p)) (hx : SqL K H p (SV l)) : Ev (tOp (rNiA K) ta tb) σ H (.bl (!decide (z ∈ l))) :=
  ev_op ha hb fun H1 e Q q => .inl ⟨p, SV l, rfl, .inl (ex_l e hx), rfl, flat_SV l, by rw [if_pos rfl, inV_str]; exact q H1 (Ex.refl _)⟩
theorem ev_niLn {ta tb : TE} {z : Str} {l : List Str} (ha : Ev ta σ H (.str z)) (hb : EvL tb σ H (SV l)) : Ev (tOp (rNiA K) ta tb) σ H (.bl (!decide (z ∈ l))) :=
  ev_opL ha hb fun p H0 hp e0 H1 e Q q => .inl ⟨p, SV l, rfl, .inl (ex_l e (sq_of hp)), rfl, flat_SV l, by rw [if_pos rfl, inV_str]; exact q H1 (Ex.refl _)⟩
theorem ev_inLn {ta tb : TE} {z : Str} {l : List Str} (ha : Ev ta σ H (.str z)) (hb : EvL tb σ H (SV l)) : Ev (tOp (rInA K) ta tb) σ H (.bl (decide (z ∈ l))) :=
  ev_opL ha hb fun p H0 hp e0 H1 e Q q => .inl ⟨p, SV l, rfl, .inl (ex_l e (sq_of hp)), rfl, flat_SV l, by rw [if_neg Bool.false_ne_true, inV_str]; exact q H1 (Ex.refl _)⟩
theorem el_sliceTo {tl th : TE} {p : Addr} {xs : List V} {j : Nat} (h : Ev tl σ H (.ref p)) (hj : Ev th σ H (.int (j : Int))) (hx : SqL K H p xs) : EvL (tSl (rSlA K) tl tNoPart (tPart th)) σ H (xs.take j) := fun H1 e1 Q q =>
  h H1 e1 _ fun H2 e2 => hj H2 (e1.trans e2) _ fun H3 e3 => ⟨(j : Int), rfl, .inl ⟨p, xs, rfl, ex_l ((e1.trans e2).trans e3) hx, fun r hr => by
    have e5 : cutV xs none (some (j : Int)) = xs.take j := by
      unfold cutV
      rw [HT.sIx_none, HT.sIx_nat, List.drop_zero, Nat.sub_zero]
      by_cases hj : j ≤ xs.length
      · rw [Nat.min_eq_left hj]
      · rw [Nat.min_eq_right (by omega), List.take_of_length_le (Nat.le_refl _), List.take_of_length_le (by omega)]
    rw [e5]
    exact q r _ (fresh_back (e2.trans e3) hr) ((e2.trans e3).trans (Ex.new hr)) upd_same⟩⟩
theorem el_sliceFrom {tl th : TE} {p : Addr} {xs : List V} {j : Nat} (h : Ev tl σ H (.ref p)) (hj : Ev th σ H (.int (j : Int))) (hx : SqL K H p xs) : EvL (tSl (rSlA K) tl (tPart th) tNoPart) σ H (xs.drop j) := fun H1 e1 Q q =>
  h H1 e1 _ fun H2 e2 => hj H2 (e1.trans e2) _ fun H3 e3 => ⟨(j : Int), rfl, .inl ⟨p, xs, rfl, ex_l ((e1.trans e2).trans e3) hx, fun r hr => by
    have e5 : cutV xs (some (j : Int)) none = xs.drop j := by
      unfold cutV
      rw [HT.sIx_none, HT.sIx_nat]
      by_cases hj : j ≤ xs.length
      · rw [Nat.min_eq_left hj, List.take_of_length_le (by rw [List.length_drop]; omega)]
      · rw [Nat.min_eq_right (by omega), Nat.sub_self, List.take_zero, List.drop_eq_nil_of_le (by omega)]
    rw [e5]
    exact q r _ (fresh_back (e2.trans e3) hr) ((e2.trans e3).trans (Ex.new hr)) upd_same⟩⟩
theorem el_catL {ta tb : TE} {p : Addr} {xs ys : List V} (ha : Ev ta σ H (.ref p)) (hx : H p = some (.lst xs)) (hb : EvL tb σ H ys) (h : xs.length + ys.length ≤ 100000) : EvL (tOp (rAddA K) ta tb) σ H (xs ++ ys) := fun H1 e1 Q q =>
  ha H1 e1 _ fun H2 e2 => hb H2 (e1.trans e2) _ fun r H3 hr e3 hy => .inr (.inr (.inl ⟨p, r, xs, ys, rfl, rfl, ((e1.trans e2).trans e3) _ _ hx, hy, small_line (by omega), fun s hs => q s _ (fresh_back (e2.trans e3) hs) ((e2.trans e3).trans (Ex.new hs)) upd_same⟩))
theorem el_catRR {ta tb : TE} {p r : Addr} {xs ys : List V} (ha : Ev ta σ H (.ref p)) (hx : H p = some (.lst xs)) (hb : Ev tb σ H (.ref r)) (hy : H r = some (.lst ys)) (h : xs.length + ys.length ≤ 100000) : EvL (tOp (rAddA K) ta tb) σ H (xs ++ ys) := fun H1 e1 Q q =>
  ha H1 e1 _ fun H2 e2 => hb H2 (e1.trans e2) _ fun H3 e3 => .inr (.inr (.inl ⟨p, r, xs, ys, rfl, rfl, ((e1.trans e2).trans e3) _ _ hx, ((e1.trans e2).trans e3) _ _ hy, small_line (by omega), fun s hs => q s _ (fresh_back (e2.trans e3) hs) ((e2.trans e3).trans (Ex.new hs)) upd_same⟩))
theorem el_catLL {ta tb : TE} {xs ys : List V} (ha : EvL ta σ H xs) (hb : EvL tb σ H ys) (h : xs.length + ys.length ≤ 100000) : EvL (tOp (rAddA K) ta tb) σ H (xs ++ ys) := fun H1 e1 Q q =>
  ha H1 e1 _ fun p H2 hp e2 hx => hb H2 (e1.trans e2) _ fun r H3 hr e3 hy => .inr (.inr (.inl ⟨p, r, xs, ys, rfl, rfl, e3 _ _ hx, hy, small_line (by omega), fun s hs => q s _ (fresh_back (e2.trans e3) hs) ((e2.trans e3).trans (Ex.new hs)) upd_same⟩))
theorem el_catLR {ta tb : TE} {r : Addr} {xs ys : List V} (ha : EvL ta σ H xs) (hb : Ev tb σ H (.ref r)) (hy : H r = some (.lst ys)) (h : xs.length + ys.length ≤ 100000) : EvL (tOp (rAddA K) ta tb) σ H (xs ++ ys) := fun H1 e1 Q q =>
  ha H1 e1 _ fun p H2 hp e2 hx => hb H2 (e1.trans e2) _ fun H3 e3 => .inr (.inr (.inl ⟨p, r, xs, ys, rfl, rfl, e3 _ _ hx, ((e1.trans e2).trans e3) _ _ hy, small_line (by omega), fun s hs => q s _ (fresh_back (e2.trans e3) hs) ((e2.trans e3).trans (Ex.new hs)) upd_same⟩))
theorem el_listSq {ta : TE} {p : Addr} {xs : List V} (ha : Ev ta σ H (.ref p)) (hx : SqL K H p xs) : EvL (tCB (rListSq K) (tCons ta tNil)) σ H xs := fun H1 e1 Q q =>
  ha H1 e1 _ fun H2 e2 => ⟨p, xs, rfl, .inl (ex_l (e1.trans e2) hx), fun r hr => q r _ (fresh_back e2 hr) (e2.trans (Ex.new hr)) upd_same⟩
theorem ev_joinE {ta tb : TE} {s : Str} {p : Addr} {l : List Str} (ha : Ev ta σ H (.str s)) (hb : Ev tb σ H (.ref p)) (hx : SqL K H p (SV l)) (hz : (l.map (·.length)).sum + l.length * s.length ≤ 1000000) : Ev (tM1 (rJoin K) ta tb) σ H (.str (Txt.join s l)) := fun H1 e1 Q q =>
  ha H1 e1 _ fun H2 e2 => ⟨⟨s, rfl⟩, hb H2 (e1.trans e2) _ fun H3 e3 => ⟨s, p, l, rfl, rfl, .inl (ex_l ((e1.trans e2).trans e3) hx), by omega, q H3 (e2.trans e3)⟩⟩
theorem ev_joinL {ta tb : TE} {s : Str} {l : List Str} (ha : Ev ta σ H (.str s)) (hb : EvL tb σ H (SV l)) (hz : (l.map (·.length)).sum + l.length * s.length ≤ 1000000) : Ev (tM1 (rJoin K) ta tb) σ H (.str (Txt.join s l)) := fun H1 e1 Q q =>
  ha H1 e1 _ fun H2 e2 => ⟨⟨s, rfl⟩, hb H2 (e1.trans e2) _ fun p H3 hp e3 hx => ⟨s, p, l, rfl, rfl, .inl (sq_of hx), by omega, q H3 (e2.trans e3)⟩⟩
theorem el_split {ta tb : TE} {z s : Str} (ha : Ev ta σ H (.str z)) (hb : Ev tb σ H (.str s)) (hs : (s.length == 0) = false) (hz : z.length ≤ 100000) : EvL (tM1 rSplit ta tb) σ H (SV (Txt.split z s)) := fun H1 e1 Q q =>
  ha H1 e1 _ fun H2 e2 => ⟨⟨z, rfl⟩, hb H2 (e1.trans e2) _ fun H3 e3 => ⟨z, s, rfl, rfl, hs, small_line (by omega), fun r hr => q r _ (fresh_back (e2.trans e3) hr) ((e2.trans e3).trans (Ex.new hr)) upd_same⟩⟩
end
end WB
namespace WB
open PySem PySem.Spec PyProof.Rows L2
open Evl hiding Ex
section
variable {K : Fr} {σ : L2.St} {H : Hp} {Q : VK} {tl te : TE} {tt : TT} {i : Nat} {vs : List Nat} {xs : List V}
abbrev Lt (tt : TT) (te : TE) (σx : L2.St) (H1 : Hp) (keep : Bool) (D : Addr) (R : V → Hp → Prop) : Prop := ∀ (k : Hp → Prop) (ky : VK), (keep = false → ∀ H3, Ex H1 H3 → k H3) →
  (keep = true → ∀ y H4, Ex H1 H4 → (∀ H5, ExP D H4 H5 → R y H5) → ky y H4) → tt σx H1 fun b H3 => if b = true then te σx H3 ky else k H3
theorem lc_listE (hl : EvL tl σ H xs) (keep : V → Bool) (R : V → V → Hp → Prop) (hlen : xs.length ≤ 1000000) (hw : ∀ x, wipe ((wipe σ vs).set i (some x)) vs = wipe σ vs)
    (body : ∀ D H1, H D = none → Ex H H1 → (∃ acc, H1 D = some (.lst acc)) → ∀ x ∈ xs, Lt tt te ((wipe σ vs).set i (some x)) H1 (keep x) D (R x))
    (q : ∀ D ys H', H D = none → Ex H H' → H' D = some (.lst ys) → Paired (fun x y => R x y H') (xs.filter keep) ys → Q (.ref D) H') : tLc (iList K tl) (gName i) tt te vs σ H Q := by
  refine hl H (Evl.Ex.refl H) _ fun p H0 hp e0 h0 => ⟨p, rfl, ⟨xs, sq_of h0⟩, ?_⟩
  refine lc_rel (seq_list (K := K)) keep R (fun H1 e => sq_of (e _ _ h0)) hlen (fun D hD x hx H1 e1 ha k ky h1 h2 => ⟨hw x, body D H1 (fresh_back e0 hD) (e0.trans e1) ha x hx k ky h1 h2⟩) fun D ys H' hD e => q D ys H' (fresh_back e0 hD) (e0.trans e)
theorem lc_listV {a : Addr} (hl : Ev tl σ H (.ref a)) (hx : SqL K H a xs) (keep : V → Bool) (R : V → V → Hp → Prop) (hlen : xs.length ≤ 1000000) (hw : ∀ x, wipe ((wipe σ vs).set i (some x)) vs = wipe σ vs)
    (body : ∀ D H1, H D = none → Ex H H1 → (∃ acc, H1 D = some (.lst acc)) → ∀ x ∈ xs, Lt tt te ((wipe σ vs).set i (some x)) H1 (keep x) D (R x))
    (q : ∀ D ys H', H D = none → Ex H H' → H' D = some (.lst ys) → Paired (fun x y => R x y H') (xs.filter keep) ys → Q (.ref D) H') : tLc (iList K tl) (gName i) tt te vs σ H Q := by
  refine hl H (Evl.Ex.refl H) _ fun H0 e0 => ⟨a, rfl, ⟨xs, ex_l e0 hx⟩, ?_⟩
  refine lc_rel (seq_list (K := K)) keep R (fun H1 e => ex_l (e0.trans e) hx) hlen (fun D hD x hx H1 e1 ha k ky h1 h2 => ⟨hw x, body D H1 (fresh_back e0 hD) (e0.trans e1) ha x hx k ky h1 h2⟩) fun D ys H' hD e => q D ys H' (fresh_back e0 hD) (e0.trans e)
theorem lt_flat {σx : L2.St} {H1 : Hp} {keep : Bool} {D : Addr} {v : V} (ht : EvT tt σx H1 keep) (he : keep = true → ∀ H2, Ex H1 H2 → Ev te σx H2 v) : Lt tt te σx H1 keep D (fun y _ => y = v) := fun k ky h1 h2 =>
  ht H1 (Evl.Ex.refl _) _ fun H2 e2 => iteB (fun h => he h H2 e2 H2 (Evl.Ex.refl _) _ fun H3 e3 => h2 h _ H3 (e2.trans e3) fun _ _ => rfl) fun h => h1 h H2 e2
theorem et_yes : EvT tYes σ H true := fun H1 e Q q => q H1 (Evl.Ex.refl _)
theorem lc_flatV {a : Addr} (hl : Ev tl σ H (.ref a)) (hx : SqL K H a xs) (keep : V → Bool) (f : V → V) (hlen : xs.length ≤ 1000000) (hw : ∀ x, wipe ((wipe σ vs).set i (some x)) vs = wipe σ vs)
    (ht : ∀ x ∈ xs, ∀ H1, Ex H H1 → EvT tt ((wipe σ vs).set i (some x)) H1 (keep x)) (he : ∀ x ∈ xs, keep x = true → ∀ H1, Ex H H1 → Ev te ((wipe σ vs).set i (some x)) H1 (f x)) :
    EvL (tLc (iList K tl) (gName i) tt te vs) σ H ((xs.filter keep).map f) := fun H0 e0 Q q =>
  lc_listV (hl.mono e0) (ex_l e0 hx) keep (fun x y _ => y = f x) hlen hw (fun D H1 _ e1 _ x hx => lt_flat (ht x hx H1 (e0.trans e1)) fun h H2 e2 => he x hx h H2 ((e0.trans e1).trans e2)) fun D ys H' hD e h r => q D H' hD e (by rw [h, paired_map r])
theorem lc_flatE (hl : EvL tl σ H xs) (keep : V → Bool) (f : V → V) (hlen : xs.length ≤ 1000000) (hw : ∀ x, wipe ((wipe σ vs).set i (some x)) vs = wipe σ vs)
    (ht : ∀ x ∈ xs, ∀ H1, Ex H H1 → EvT tt ((wipe σ vs).set i (some x)) H1 (keep x)) (he : ∀ x ∈ xs, keep x = true → ∀ H1, Ex H H1 → Ev te ((wipe σ vs).set i (some x)) H1 (f x)) :
    EvL (tLc (iList K tl) (gName i) tt te vs) σ H ((xs.filter keep).map f) := fun H0 e0 Q q =>
  lc_listE (hl.mono e0) keep (fun x y _ => y = f x) hlen hw (fun D H1 _ e1 _ x hx => lt_flat (ht x hx H1 (e0.trans e1)) fun h H2 e2 => he x hx h H2 ((e0.trans e1).trans e2)) fun D ys H' hD e h r => q D H' hD e (by rw [h, paired_map r])
theorem filter_SV {l : List Str} {p : Str → Bool} {kp : V → Bool} (h : ∀ z ∈ l, kp (.str z) = p z) : (SV l).filter kp = SV (l.filter p) := by
  induction l with
  | nil => rfl
  | cons y l ih =>
    have e1 := h y (by simp)
    have e2 := ih fun z hz => h z (by simp [hz])
    show ((V.str y) :: SV l).filter kp = _
    rw [List.filter_cons, List.filter_cons, e1, e2]
    cases p y <;> rfl
def stV (v : V) : Str := match v with
  | .str z => z
  | _ => ""
theorem lc_strV {a : Addr} {l : List Str} (hl : Ev tl σ H (.ref a)) (hx : SqL K H a (SV l)) (keep : Str → Bool) (f : Str → V) (hlen : l.length ≤ 1000000) (hw : ∀ x, wipe ((wipe σ vs).set i (some x)) vs = wipe σ vs)
    (ht : ∀ z ∈ l, ∀ H1, Ex H H1 → EvT tt ((wipe σ vs).set i (some (.str z))) H1 (keep z)) (he : ∀ z ∈ l, keep z = true → ∀ H1, Ex H H1 → Ev te ((wipe σ vs).set i (some (.str z))) H1 (f z)) :
    EvL (tLc (iList K tl) (gName i) tt te vs) σ H ((l.filter keep).map f) := by
  have h := lc_flatV (K := K) (tt := tt) (te := te) (i := i) (vs := vs) hl hx (fun v => keep (stV v)) (fun v => f (stV v)) (by rw [List.length_map]; exact hlen) hw (fun x hx => by
    obtain ⟨z, hz, rfl⟩ := List.mem_map.mp hx
    exact ht z hz) (fun x hx => by
    obtain ⟨z, hz, rfl⟩ := List.mem_map.mp hx
    exact he z hz)
  rw [filter_SV (p := keep) fun z _ => rfl, List.map_map] at h
  exact h
theorem lc_strE {l : List Str} (hl : EvL tl σ H (SV l)) (keep : Str → Bool) (f : Str → V) (hlen : l.length ≤ 1000000) (hw : ∀ x, wipe ((wipe σ vs).set i (some x)) vs = wipe σ vs)
    (ht : ∀ z ∈ l, ∀ H1, Ex H H1 → EvT tt ((wipe σ vs).set i (some (.str z))) H1 (keep z)) (he : ∀ z ∈ l, keep z = true → ∀ H1, Ex H H1 → Ev te ((wipe σ vs).set i (some (.str z))) H1 (f z)) :
    EvL (tLc (iList K tl) (gName i) tt te vs) σ H ((l.filter keep).map f) := by
  have h := lc_flatE (K := K) (tt := tt) (te := te) (i := i) (vs := vs) hl (fun v => keep (stV v)) (fun v => f (stV v)) (by rw [List.length_map]; exact hlen) hw (fun x hx => by
    obtain ⟨z, hz, rfl⟩ := List.mem_map.mp hx
    exact ht z hz) (fun x hx => by
    obtain ⟨z, hz, rfl⟩ := List.mem_map.mp hx
    exact he z hz)
  rw [filter_SV (p := keep) fun z _ => rfl, List.map_map] at h
  exact h
theorem el_mS {C : Addr} {m : Str} {sp : Sp} {E : L2.St → XK} {to : TE} {ta : TA} {a dx : Addr} {fs : List (Str × V)} {vs zs : List V} (ho : Ev to σ H (.ref a)) (ha : H a = some (.ins C dx fs)) (hl : fs.lookup m = none) (h : EvA ta σ H vs)
    (hs : ∀ H1, Ex H H1 → ∀ Q : VK, (∀ p H2, H1 p = none → Ex H1 H2 → H2 p = some (.lst zs) → Q (.ref p) H2) → sp (.ref a :: vs) H1 Q (E σ)) : EvL (tMethS C m sp E to ta) σ H zs := fun H1 e Q q =>
  ho H1 e _ fun H2 e2 => ⟨a, dx, fs, rfl, e2 _ _ (e _ _ ha), hl, h H2 (e.trans e2) _ fun H3 e3 => hs H3 ((e.trans e2).trans e3) Q fun p H4 hp e4 hz => q p H4 (fresh_back (e2.trans e3) hp) ((e2.trans e3).trans e4) hz⟩
theorem ev_all {tx : TE} {bs : List Bool} (h : EvL tx σ H (bs.map V.bl)) : Ev (tCB (rAll K) (tCons tx tNil)) σ H (.bl (bs.all id)) := fun H1 e Q q =>
  h H1 e _ fun p H2 hp e2 h2 => ⟨p, bs, rfl, sq_of h2, q H2 e2⟩
theorem ev_bl {te : TE} {b c : Bool} (h : Ev te σ H (.bl b)) (e : b = c) : Ev te σ H (.bl c) := e ▸ h
end
theorem mergeK_app : ∀ (more acc : List (Key × V)), ((acc ++ more).map (·.1)).Nodup → mergeK acc more = acc ++ more
  | [], acc, _ => by simp [mergeK]
  | kv :: more, acc, h => by
    have h0 : valV acc kv.1 = none := by
      cases e : valV acc kv.1 with
      | none => rfl
      | some v =>
        have hm := valV_in e
        rw [List.map_append, List.map_cons] at h
        exact absurd rfl ((List.nodup_append.mp h).2.2 kv.1 hm kv.1 List.mem_cons_self)
    have ih := mergeK_app more (acc ++ [kv]) (by rw [List.append_assoc]; exact h)
    show mergeK (putK acc kv.1 kv.2) more = _
    rw [putK_new _ h0]
    show mergeK (acc ++ [kv]) more = _
    rw [ih, List.append_assoc]
    rfl
theorem mergeK_nil {kvs : List (Key × V)} (h : (kvs.map (·.1)).Nodup) : mergeK [] kvs = kvs := mergeK_app kvs [] h
theorem valV_mem : ∀ {kvs : List (Key × V)} {k : Key} {v : V}, (kvs.map (·.1)).Nodup → (k, v) ∈ kvs → valV kvs k = some v
  | [], k, v, _, h => by cases h
  | p :: r, k, v, nd, h => by
    rw [List.map_cons, List.nodup_cons] at nd
    rcases List.mem_cons.mp h with e | h
    · rw [← e]; exact valV_pos rfl
    · rw [valV_neg, valV_mem nd.2 h]
      intro e
      exact nd.1 (by rw [e]; exact List.mem_map.mpr ⟨_, h, rfl⟩)
end WB
namespace W93
open PySem PySem.Spec PyProof.Rows L2 LiI WB
def top (i : Nat) : Stmt := PySem.Challenge.pw_walkbox_k93_whole_map_texts.main.body.getD i (.Pass ⟨0, 0, 0, 0⟩)
abbrev s_NoMap_init : Stmt := inClass (top 3) 0
abbrev N_NoMap_init : List Str := ["self", "what", "who"]
theorem sc_NoMap_init : FnScope N_NoMap_init ["self", "what", "who"] (defScope s_NoMap_init) := ⟨rfl, rfl, rfl, by decide +kernel, rfl, by decide +kernel, by decide +kernel⟩
abbrev s_NoText_init : Stmt := inClass (top 4) 0
abbrev N_NoText_init : List Str := ["self", "row"]
theorem sc_NoText_init : FnScope N_NoText_init ["self", "row"] (defScope s_NoText_init) := ⟨rfl, rfl, rfl, by decide +kernel, rfl, by decide +kernel, by decide +kernel⟩
abbrev s_is_made_of : Stmt := top 12
abbrev N_is_made_of : List Str := ["thing", "signs", "most", "sign"]
theorem sc_is_made_of : FnScope N_is_made_of ["thing", "signs", "most"] (defScope s_is_made_of) := ⟨rfl, rfl, rfl, by decide +kernel, rfl, by decide +kernel, by decide +kernel⟩
abbrev s_is_name : Stmt := top 13
abbrev N_is_name : List Str := ["thing"]
theorem sc_is_name : FnScope N_is_name ["thing"] (defScope s_is_name) := ⟨rfl, rfl, rfl, by decide +kernel, rfl, by decide +kernel, by decide +kernel⟩
abbrev s_want : Stmt := top 14
abbrev N_want : List Str := ["truth", "what", "who"]
theorem sc_want : FnScope N_want ["truth", "what", "who"] (defScope s_want) := ⟨rfl, rfl, rfl, by decide +kernel, rfl, by decide +kernel, by decide +kernel⟩
abbrev s_want_hosts : Stmt := top 15
abbrev N_want_hosts : List Str := ["hosts", "number", "host"]
theorem sc_want_hosts : FnScope N_want_hosts ["hosts"] (defScope s_want_hosts) := ⟨rfl, rfl, rfl, by decide +kernel, rfl, by decide +kernel, by decide +kernel⟩
abbrev s_want_walkers : Stmt := top 16
abbrev N_want_walkers : List Str := ["hosts", "walkers", "names", "number", "walker", "name", "home"]
theorem sc_want_walkers : FnScope N_want_walkers ["hosts", "walkers"] (defScope s_want_walkers) := ⟨rfl, rfl, rfl, by decide +kernel, rfl, by decide +kernel, by decide +kernel⟩
abbrev s_Map_init : Stmt := inClass (top 17) 0
abbrev N_Map_init : List Str := ["self", "hosts", "walkers"]
theorem sc_Map_init : FnScope N_Map_init ["self", "hosts", "walkers"] (defScope s_Map_init) := ⟨rfl, rfl, rfl, by decide +kernel, rfl, by decide +kernel, by decide +kernel⟩
abbrev s_Map_hosts : Stmt := inClass (top 17) 1
abbrev N_Map_hosts : List Str := ["self"]
theorem sc_Map_hosts : FnScope N_Map_hosts ["self"] (defScope s_Map_hosts) := ⟨rfl, rfl, rfl, by decide +kernel, rfl, by decide +kernel, by decide +kernel⟩
abbrev s_Map_walkers : Stmt := inClass (top 17) 2
abbrev N_Map_walkers : List Str := ["self"]
theorem sc_Map_walkers : FnScope N_Map_walkers ["self"] (defScope s_Map_walkers) := ⟨rfl, rfl, rfl, by decide +kernel, rfl, by decide +kernel, by decide +kernel⟩
abbrev s_Map_has_walker : Stmt := inClass (top 17) 4
abbrev N_Map_has_walker : List Str := ["self", "name"]
theorem sc_Map_has_walker : FnScope N_Map_has_walker ["self", "name"] (defScope s_Map_has_walker) := ⟨rfl, rfl, rfl, by decide +kernel, rfl, by decide +kernel, by decide +kernel⟩
abbrev s_Map_want_walker : Stmt := inClass (top 17) 6
abbrev N_Map_want_walker : List Str := ["self", "name"]
theorem sc_Map_want_walker : FnScope N_Map_want_walker ["self", "name"] (defScope s_Map_want_walker) := ⟨rfl, rfl, rfl, by decide +kernel, rfl, by decide +kernel, by decide +kernel⟩
abbrev s_Map_home : Stmt := inClass (top 17) 7
abbrev N_Map_home : List Str := ["self", "walker"]
theorem sc_Map_home : FnScope N_Map_home ["self", "walker"] (defScope s_Map_home) := ⟨rfl, rfl, rfl, by decide +kernel, rfl, by decide +kernel, by decide +kernel⟩
abbrev s_Map_eq : Stmt := inClass (top 17) 10
abbrev N_Map_eq : List Str := ["self", "other"]
theorem sc_Map_eq : FnScope N_Map_eq ["self", "other"] (defScope s_Map_eq) := ⟨rfl, rfl, rfl, by decide +kernel, rfl, by decide +kernel, by decide +kernel⟩
abbrev s_map_text : Stmt := top 19
abbrev N_map_text : List Str := ["grounds", "walkers", "name"]
theorem sc_map_text : FnScope N_map_text ["grounds"] (defScope s_map_text) := ⟨rfl, rfl, rfl, by decide +kernel, rfl, by decide +kernel, by decide +kernel⟩
abbrev s_read_map : Stmt := top 20
abbrev N_read_map : List Str := ["text", "words", "hosts", "walkers", "found", "word"]
theorem sc_read_map : FnScope N_read_map ["text"] (defScope s_read_map) := ⟨rfl, rfl, rfl, by decide +kernel, rfl, by decide +kernel, by decide +kernel⟩
abbrev s_l_pot : Stmt := top 22
abbrev N_l_pot : List Str := ["_law_script", "_law_k", "_law_cell"]
theorem sc_l_pot : FnScope N_l_pot ["_law_script", "_law_k"] (defScope s_l_pot) := ⟨rfl, rfl, rfl, by decide +kernel, rfl, by decide +kernel, by decide +kernel⟩
abbrev s_l_digit : Stmt := top 23
abbrev N_l_digit : List Str := ["_law_pot_here", "_law_many", "_law_digit_here"]
theorem sc_l_digit : FnScope N_l_digit ["_law_pot_here", "_law_many"] (defScope s_l_digit) := ⟨rfl, rfl, rfl, by decide +kernel, rfl, by decide +kernel, by decide +kernel⟩
abbrev s_l_name : Stmt := top 24
abbrev N_l_name : List Str := ["_law_pot_here", "_law_used", "_law_letters", "_law_size", "_law_name_here", "_law_k", "_law_letter"]
theorem sc_l_name : FnScope N_l_name ["_law_pot_here", "_law_used"] (defScope s_l_name) := ⟨rfl, rfl, rfl, by decide +kernel, rfl, by decide +kernel, by decide +kernel⟩
abbrev s_l_names : Stmt := top 25
abbrev N_l_names : List Str := ["_law_pot_here", "_law_many", "_law_used", "_law_found", "_law_k"]
theorem sc_l_names : FnScope N_l_names ["_law_pot_here", "_law_many", "_law_used"] (defScope s_l_names) := ⟨rfl, rfl, rfl, by decide +kernel, rfl, by decide +kernel, by decide +kernel⟩
abbrev s_l_rows : Stmt := top 26
abbrev N_l_rows : List Str := ["_law_pot_here", "_law_hosts", "_law_names_here", "_law_name_here"]
theorem sc_l_rows : FnScope N_l_rows ["_law_pot_here"] (defScope s_l_rows) := ⟨rfl, rfl, rfl, by decide +kernel, rfl, by decide +kernel, by decide +kernel⟩
abbrev s_l_among : Stmt := top 27
abbrev N_l_among : List Str := ["_law_pot_here", "_law_some"]
theorem sc_l_among : FnScope N_l_among ["_law_pot_here", "_law_some"] (defScope s_l_among) := ⟨rfl, rfl, rfl, by decide +kernel, rfl, by decide +kernel, by decide +kernel⟩
abbrev s_l_is_name : Stmt := top 28
abbrev N_l_is_name : List Str := ["_law_word", "_law_sign"]
theorem sc_l_is_name : FnScope N_l_is_name ["_law_word"] (defScope s_l_is_name) := ⟨rfl, rfl, rfl, by decide +kernel, rfl, by decide +kernel, by decide +kernel⟩
abbrev s_l_due : Stmt := top 29
abbrev N_l_due : List Str := ["_law_line", "_law_words", "_law_hosts", "_law_rows_here", "_law_some", "_law_word", "_law_row", "_law_host", "_law_name_here"]
theorem sc_l_due : FnScope N_l_due ["_law_line"] (defScope s_l_due) := ⟨rfl, rfl, rfl, by decide +kernel, rfl, by decide +kernel, by decide +kernel⟩
abbrev s_l_changed : Stmt := top 30
abbrev N_l_changed : List Str := ["_law_pot_here", "_law_line", "_law_words", "_law_at", "_law_other", "_law_way", "_law_spot"]
theorem sc_l_changed : FnScope N_l_changed ["_law_pot_here", "_law_line"] (defScope s_l_changed) := ⟨rfl, rfl, rfl, by decide +kernel, rfl, by decide +kernel, by decide +kernel⟩
abbrev s_l_told : Stmt := top 31
abbrev N_l_told : List Str := ["_law_line", "_law_told_here", "e"]
theorem sc_l_told : FnScope N_l_told ["_law_line"] (defScope s_l_told) := ⟨rfl, rfl, rfl, by decide +kernel, rfl, by decide +kernel, by decide +kernel⟩
abbrev s_l_right : Stmt := top 32
abbrev N_l_right : List Str := ["_law_line", "_law_due_here", "_law_told_here"]
theorem sc_l_right : FnScope N_l_right ["_law_line"] (defScope s_l_right) := ⟨rfl, rfl, rfl, by decide +kernel, rfl, by decide +kernel, by decide +kernel⟩
abbrev s_law : Stmt := top 33
abbrev N_law : List Str := ["_law_script", "_law_k", "_law_pot_here", "_law_turn", "_law_hosts", "_law_rows_here", "_law_line", "_law_change", "_law_name_here", "_law_home"]
theorem sc_law : FnScope N_law ["_law_script"] (defScope s_law) := ⟨rfl, rfl, rfl, by decide +kernel, rfl, by decide +kernel, by decide +kernel⟩
def d_NoMap_init : He.DefD := ⟨("NoMap", some "__init__"), "__init__", "NoMap.__init__", defArgs s_NoMap_init, defBody s_NoMap_init, defScope s_NoMap_init, [], []⟩
def d_NoText_init : He.DefD := ⟨("NoText", some "__init__"), "__init__", "NoText.__init__", defArgs s_NoText_init, defBody s_NoText_init, defScope s_NoText_init, [], []⟩
def d_is_made_of : He.DefD := ⟨("is_made_of", none), "is_made_of", "is_made_of", defArgs s_is_made_of, defBody s_is_made_of, defScope s_is_made_of, [], []⟩
def d_is_name : He.DefD := ⟨("is_name", none), "is_name", "is_name", defArgs s_is_name, defBody s_is_name, defScope s_is_name, [], []⟩
def d_want : He.DefD := ⟨("want", none), "want", "want", defArgs s_want, defBody s_want, defScope s_want, [], []⟩
def d_want_hosts : He.DefD := ⟨("want_hosts", none), "want_hosts", "want_hosts", defArgs s_want_hosts, defBody s_want_hosts, defScope s_want_hosts, [], []⟩
def d_want_walkers : He.DefD := ⟨("want_walkers", none), "want_walkers", "want_walkers", defArgs s_want_walkers, defBody s_want_walkers, defScope s_want_walkers, [], []⟩
def d_Map_init : He.DefD := ⟨("Map", some "__init__"), "__init__", "Map.__init__", defArgs s_Map_init, defBody s_Map_init, defScope s_Map_init, [], []⟩
def d_Map_hosts : He.DefD := ⟨("Map", some "hosts"), "hosts", "Map.hosts", defArgs s_Map_hosts, defBody s_Map_hosts, defScope s_Map_hosts, [], []⟩
def d_Map_walkers : He.DefD := ⟨("Map", some "walkers"), "walkers", "Map.walkers", defArgs s_Map_walkers, defBody s_Map_walkers, defScope s_Map_walkers, [], []⟩
def d_Map_has_walker : He.DefD := ⟨("Map", some "has_walker"), "has_walker", "Map.has_walker", defArgs s_Map_has_walker, defBody s_Map_has_walker, defScope s_Map_has_walker, [], []⟩
def d_Map_want_walker : He.DefD := ⟨("Map", some "want_walker"), "want_walker", "Map.want_walker", defArgs s_Map_want_walker, defBody s_Map_want_walker, defScope s_Map_want_walker, [], []⟩
def d_Map_home : He.DefD := ⟨("Map", some "home"), "home", "Map.home", defArgs s_Map_home, defBody s_Map_home, defScope s_Map_home, [], []⟩
def d_Map_eq : He.DefD := ⟨("Map", some "__eq__"), "__eq__", "Map.__eq__", defArgs s_Map_eq, defBody s_Map_eq, defScope s_Map_eq, [], []⟩
def d_map_text : He.DefD := ⟨("map_text", none), "map_text", "map_text", defArgs s_map_text, defBody s_map_text, defScope s_map_text, [], []⟩
def d_read_map : He.DefD := ⟨("read_map", none), "read_map", "read_map", defArgs s_read_map, defBody s_read_map, defScope s_read_map, [], []⟩
def d_l_pot : He.DefD := ⟨("_law_pot", none), "_law_pot", "_law_pot", defArgs s_l_pot, defBody s_l_pot, defScope s_l_pot, [], []⟩
def d_l_digit : He.DefD := ⟨("_law_digit", none), "_law_digit", "_law_digit", defArgs s_l_digit, defBody s_l_digit, defScope s_l_digit, [], []⟩
def d_l_name : He.DefD := ⟨("_law_name", none), "_law_name", "_law_name", defArgs s_l_name, defBody s_l_name, defScope s_l_name, [], []⟩
def d_l_names : He.DefD := ⟨("_law_names", none), "_law_names", "_law_names", defArgs s_l_names, defBody s_l_names, defScope s_l_names, [], []⟩
def d_l_rows : He.DefD := ⟨("_law_rows", none), "_law_rows", "_law_rows", defArgs s_l_rows, defBody s_l_rows, defScope s_l_rows, [], []⟩
def d_l_among : He.DefD := ⟨("_law_among", none), "_law_among", "_law_among", defArgs s_l_among, defBody s_l_among, defScope s_l_among, [], []⟩
def d_l_is_name : He.DefD := ⟨("_law_is_name", none), "_law_is_name", "_law_is_name", defArgs s_l_is_name, defBody s_l_is_name, defScope s_l_is_name, [], []⟩
def d_l_due : He.DefD := ⟨("_law_due", none), "_law_due", "_law_due", defArgs s_l_due, defBody s_l_due, defScope s_l_due, [], []⟩
def d_l_changed : He.DefD := ⟨("_law_changed", none), "_law_changed", "_law_changed", defArgs s_l_changed, defBody s_l_changed, defScope s_l_changed, [], []⟩
def d_l_told : He.DefD := ⟨("_law_told", none), "_law_told", "_law_told", defArgs s_l_told, defBody s_l_told, defScope s_l_told, [], []⟩
def d_l_right : He.DefD := ⟨("_law_right", none), "_law_right", "_law_right", defArgs s_l_right, defBody s_l_right, defScope s_l_right, [], []⟩
def d_law : He.DefD := ⟨("law", none), "law", "law", defArgs s_law, defBody s_law, defScope s_law, [], []⟩
def fn : List He.DefD := [d_NoMap_init, d_NoText_init, d_is_made_of, d_is_name, d_want, d_want_hosts, d_want_walkers, d_Map_init, d_Map_hosts, d_Map_walkers, d_Map_has_walker, d_Map_want_walker, d_Map_home, d_Map_eq, d_map_text, d_read_map, d_l_pot, d_l_digit, d_l_name, d_l_names, d_l_rows, d_l_among, d_l_is_name, d_l_due, d_l_changed, d_l_told, d_l_right, d_law]
def fb : List (Fr → Bool) := [
  fun K => (He.Fa.free "abs").ok K,
  fun K => (He.Fa.free "all").ok K,
  fun K => (He.Fa.free "dict").ok K,
  fun K => (He.Fa.free "enumerate").ok K,
  fun K => (He.Fa.free "isinstance").ok K,
  fun K => (He.Fa.free "len").ok K,
  fun K => (He.Fa.free "list").ok K,
  fun K => (He.Fa.free "max").ok K,
  fun K => (He.Fa.free "min").ok K,
  fun K => (He.Fa.free "range").ok K,
  fun K => (He.Fa.free "str").ok K,
  fun K => (He.Fa.free "tuple").ok K,
  fun K => (He.Fa.int "LEAST_HOSTS" 2).ok K,
  fun K => (He.Fa.str "LETTERS" "abcdefghijklmnopqrstuvwxyz").ok K,
  fun K => (He.Fa.int "MOST_HOSTS" 6).ok K,
  fun K => (He.Fa.int "MOST_LETTERS" 8).ok K,
  fun K => (He.Fa.int "MOST_WALKERS" 5).ok K,
  fun K => (He.Fa.glo "is_made_of").ok K,
  fun K => (He.Fa.glo "is_name").ok K,
  fun K => (He.Fa.glo "want").ok K,
  fun K => (He.Fa.glo "want_hosts").ok K,
  fun K => (He.Fa.glo "want_walkers").ok K,
  fun K => (He.Fa.glo "map_text").ok K,
  fun K => (He.Fa.glo "read_map").ok K,
  fun K => (He.Fa.glo "_law_pot").ok K,
  fun K => (He.Fa.glo "_law_digit").ok K,
  fun K => (He.Fa.glo "_law_name").ok K,
  fun K => (He.Fa.glo "_law_names").ok K,
  fun K => (He.Fa.glo "_law_rows").ok K,
  fun K => (He.Fa.glo "_law_among").ok K,
  fun K => (He.Fa.glo "_law_is_name").ok K,
  fun K => (He.Fa.glo "_law_due").ok K,
  fun K => (He.Fa.glo "_law_changed").ok K,
  fun K => (He.Fa.glo "_law_told").ok K,
  fun K => (He.Fa.glo "_law_right").ok K,
  fun K => (He.Fa.glo "law").ok K,
  fun K => (He.Fa.glo "WalkError").ok K,
  binB "WalkError",
  fun K => (He.Fa.glo "NoMap").ok K,
  oxB "NoMap",
  fun K => (He.Fa.noat "NoMap" "what").ok K,
  fun K => (He.Fa.noat "NoMap" "who").ok K,
  fun K => (He.Fa.glo "NoText").ok K,
  oxB "NoText",
  fun K => (He.Fa.noat "NoText" "row").ok K,
  fun K => (He.Fa.glo "Map").ok K,
  fun K => (He.Fa.cls "Map").ok K,
  fun K => (He.Fa.mkr "Map").ok K,
  fun K => (He.Fa.noat "Map" "all_hosts").ok K,
  fun K => (He.Fa.noat "Map" "homes").ok K,
  exiB "NoMap",
  exiB "NoText",
  fun K => (He.Fa.meth "Map" "hosts").ok K,
  fun K => (He.Fa.meth "Map" "walkers").ok K,
  fun K => (He.Fa.meth "Map" "has_walker").ok K,
  fun K => (He.Fa.meth "Map" "want_walker").ok K,
  fun K => (He.Fa.meth "Map" "home").ok K,
  fun K => (He.Fa.meth "Map" "__eq__").ok K,
  clsB "Map",
  objB,
  fun K => decide (PySem.W.kitOne K (.ref (He.ga K "NoText")) (.ref (He.ga K "WalkError")) = some true),
  fun K => decide (PySem.W.kitOne K (.ref (He.ga K "NoText")) (.ref (He.ga K "NoMap")) = some false),
  fun K => decide (PySem.W.kitOne K (.ref (He.ga K "Map")) (.ref (He.ga K "Map")) = some true),
  fun K => decide (PySem.W.exmOne K (.ref (He.ga K "NoMap")) (.ref (He.ga K "NoMap")) = some true),
  fun K => decide (PySem.W.exmOne K (.ref (He.ga K "NoText")) (.ref (He.ga K "NoText")) = some true)]
structure Tx (K : Fr) (mg : Str → Option Value) : Prop where
  f_abs : mg "abs" = none
  f_all : mg "all" = none
  f_dict : mg "dict" = none
  f_enumerate : mg "enumerate" = none
  f_isinstance : mg "isinstance" = none
  f_len : mg "len" = none
  f_list : mg "list" = none
  f_max : mg "max" = none
  f_min : mg "min" = none
  f_range : mg "range" = none
  f_str : mg "str" = none
  f_tuple : mg "tuple" = none
  k_LEAST_HOSTS : ∃ u, mg "LEAST_HOSTS" = some u ∧ RelV (.int 2) u
  k_LETTERS : ∃ u, mg "LETTERS" = some u ∧ RelV (.str "abcdefghijklmnopqrstuvwxyz") u
  k_MOST_HOSTS : ∃ u, mg "MOST_HOSTS" = some u ∧ RelV (.int 6) u
  k_MOST_LETTERS : ∃ u, mg "MOST_LETTERS" = some u ∧ RelV (.int 8) u
  k_MOST_WALKERS : ∃ u, mg "MOST_WALKERS" = some u ∧ RelV (.int 5) u
  g_is_made_of : mg "is_made_of" = some (.ref (He.ga K "is_made_of"))
  g_is_name : mg "is_name" = some (.ref (He.ga K "is_name"))
  g_want : mg "want" = some (.ref (He.ga K "want"))
  g_want_hosts : mg "want_hosts" = some (.ref (He.ga K "want_hosts"))
  g_want_walkers : mg "want_walkers" = some (.ref (He.ga K "want_walkers"))
  g_map_text : mg "map_text" = some (.ref (He.ga K "map_text"))
  g_read_map : mg "read_map" = some (.ref (He.ga K "read_map"))
  g_l_pot : mg "_law_pot" = some (.ref (He.ga K "_law_pot"))
  g_l_digit : mg "_law_digit" = some (.ref (He.ga K "_law_digit"))
  g_l_name : mg "_law_name" = some (.ref (He.ga K "_law_name"))
  g_l_names : mg "_law_names" = some (.ref (He.ga K "_law_names"))
  g_l_rows : mg "_law_rows" = some (.ref (He.ga K "_law_rows"))
  g_l_among : mg "_law_among" = some (.ref (He.ga K "_law_among"))
  g_l_is_name : mg "_law_is_name" = some (.ref (He.ga K "_law_is_name"))
  g_l_due : mg "_law_due" = some (.ref (He.ga K "_law_due"))
  g_l_changed : mg "_law_changed" = some (.ref (He.ga K "_law_changed"))
  g_l_told : mg "_law_told" = some (.ref (He.ga K "_law_told"))
  g_l_right : mg "_law_right" = some (.ref (He.ga K "_law_right"))
  g_law : mg "law" = some (.ref (He.ga K "law"))
  g_WalkError : mg "WalkError" = some (.ref (He.ga K "WalkError"))
  b_WalkError : BinC K (He.ga K "WalkError")
  g_NoMap : mg "NoMap" = some (.ref (He.ga K "NoMap"))
  x_NoMap : (OexC K (He.ga K "NoMap") ∧ XfC K (He.ga K "NoMap") ∧ PySem.W.findIn K (.ref (He.ga K "NoMap")) "__class__" = some (some (.builtin "object.__class__")) ∧ PySem.W.mroIn K (He.ga K "NoMap") (.type "object") = some true)
  n_NoMap_what : PySem.W.findIn K (.ref (He.ga K "NoMap")) "what" = some none
  n_NoMap_who : PySem.W.findIn K (.ref (He.ga K "NoMap")) "who" = some none
  g_NoText : mg "NoText" = some (.ref (He.ga K "NoText"))
  x_NoText : (OexC K (He.ga K "NoText") ∧ XfC K (He.ga K "NoText") ∧ PySem.W.findIn K (.ref (He.ga K "NoText")) "__class__" = some (some (.builtin "object.__class__")) ∧ PySem.W.mroIn K (He.ga K "NoText") (.type "object") = some true)
  n_NoText_row : PySem.W.findIn K (.ref (He.ga K "NoText")) "row" = some none
  g_Map : mg "Map" = some (.ref (He.ga K "Map"))
  c_Map : Cls K (He.ga K "Map")
  m_Map : Mk K (He.ga K "Map") (He.ma K (He.ga K "Map") "__init__")
  n_Map_all_hosts : NoAttr K (He.ga K "Map") "all_hosts"
  n_Map_homes : NoAttr K (He.ga K "Map") "homes"
  j_NoMap_init : (PySem.W.findIn K (.ref (He.ga K "NoMap")) "__init__" = some (some (.ref (He.ma K (He.ga K "NoMap") "__init__"))) ∧ PySem.W.typeIn K (.ref (He.ma K (He.ga K "NoMap") "__init__")) = some (.type "function"))
  j_NoText_init : (PySem.W.findIn K (.ref (He.ga K "NoText")) "__init__" = some (some (.ref (He.ma K (He.ga K "NoText") "__init__"))) ∧ PySem.W.typeIn K (.ref (He.ma K (He.ga K "NoText") "__init__")) = some (.type "function"))
  t_Map_hosts : Meth K (He.ga K "Map") "hosts" (He.ma K (He.ga K "Map") "hosts")
  t_Map_walkers : Meth K (He.ga K "Map") "walkers" (He.ma K (He.ga K "Map") "walkers")
  t_Map_has_walker : Meth K (He.ga K "Map") "has_walker" (He.ma K (He.ga K "Map") "has_walker")
  t_Map_want_walker : Meth K (He.ga K "Map") "want_walker" (He.ma K (He.ga K "Map") "want_walker")
  t_Map_home : Meth K (He.ga K "Map") "home" (He.ma K (He.ga K "Map") "home")
  t_Map_eq : Meth K (He.ga K "Map") "__eq__" (He.ma K (He.ga K "Map") "__eq__")
  w_Map : ClsW K (He.ga K "Map")
  y_obj : (PySem.W.specialIn K (.builtin "object.__class__") "__get__" = some (some (.builtin "getset_descriptor.__get__")) ∧ PySem.W.takesIn K (.builtin "object.__class__") = some true)
  q_text_walk : PySem.W.kitOne K (.ref (He.ga K "NoText")) (.ref (He.ga K "WalkError")) = some true
  q_text_map : PySem.W.kitOne K (.ref (He.ga K "NoText")) (.ref (He.ga K "NoMap")) = some false
  q_map_map : PySem.W.kitOne K (.ref (He.ga K "Map")) (.ref (He.ga K "Map")) = some true
  e_map_map : PySem.W.exmOne K (.ref (He.ga K "NoMap")) (.ref (He.ga K "NoMap")) = some true
  e_text_text : PySem.W.exmOne K (.ref (He.ga K "NoText")) (.ref (He.ga K "NoText")) = some true
  d_NoMap_init : ∃ fd, FunD K "__init__" "NoMap.__init__" (defArgs s_NoMap_init) (defBody s_NoMap_init) (defScope s_NoMap_init) [] [] (He.fAd K ("NoMap", some "__init__")) fd
  d_NoText_init : ∃ fd, FunD K "__init__" "NoText.__init__" (defArgs s_NoText_init) (defBody s_NoText_init) (defScope s_NoText_init) [] [] (He.fAd K ("NoText", some "__init__")) fd
  d_is_made_of : ∃ fd, FunD K "is_made_of" "is_made_of" (defArgs s_is_made_of) (defBody s_is_made_of) (defScope s_is_made_of) [] [] (He.fAd K ("is_made_of", none)) fd
  d_is_name : ∃ fd, FunD K "is_name" "is_name" (defArgs s_is_name) (defBody s_is_name) (defScope s_is_name) [] [] (He.fAd K ("is_name", none)) fd
  d_want : ∃ fd, FunD K "want" "want" (defArgs s_want) (defBody s_want) (defScope s_want) [] [] (He.fAd K ("want", none)) fd
  d_want_hosts : ∃ fd, FunD K "want_hosts" "want_hosts" (defArgs s_want_hosts) (defBody s_want_hosts) (defScope s_want_hosts) [] [] (He.fAd K ("want_hosts", none)) fd
  d_want_walkers : ∃ fd, FunD K "want_walkers" "want_walkers" (defArgs s_want_walkers) (defBody s_want_walkers) (defScope s_want_walkers) [] [] (He.fAd K ("want_walkers", none)) fd
  d_Map_init : ∃ fd, FunD K "__init__" "Map.__init__" (defArgs s_Map_init) (defBody s_Map_init) (defScope s_Map_init) [] [] (He.fAd K ("Map", some "__init__")) fd
  d_Map_hosts : ∃ fd, FunD K "hosts" "Map.hosts" (defArgs s_Map_hosts) (defBody s_Map_hosts) (defScope s_Map_hosts) [] [] (He.fAd K ("Map", some "hosts")) fd
  d_Map_walkers : ∃ fd, FunD K "walkers" "Map.walkers" (defArgs s_Map_walkers) (defBody s_Map_walkers) (defScope s_Map_walkers) [] [] (He.fAd K ("Map", some "walkers")) fd
  d_Map_has_walker : ∃ fd, FunD K "has_walker" "Map.has_walker" (defArgs s_Map_has_walker) (defBody s_Map_has_walker) (defScope s_Map_has_walker) [] [] (He.fAd K ("Map", some "has_walker")) fd
  d_Map_want_walker : ∃ fd, FunD K "want_walker" "Map.want_walker" (defArgs s_Map_want_walker) (defBody s_Map_want_walker) (defScope s_Map_want_walker) [] [] (He.fAd K ("Map", some "want_walker")) fd
  d_Map_home : ∃ fd, FunD K "home" "Map.home" (defArgs s_Map_home) (defBody s_Map_home) (defScope s_Map_home) [] [] (He.fAd K ("Map", some "home")) fd
  d_Map_eq : ∃ fd, FunD K "__eq__" "Map.__eq__" (defArgs s_Map_eq) (defBody s_Map_eq) (defScope s_Map_eq) [] [] (He.fAd K ("Map", some "__eq__")) fd
  d_map_text : ∃ fd, FunD K "map_text" "map_text" (defArgs s_map_text) (defBody s_map_text) (defScope s_map_text) [] [] (He.fAd K ("map_text", none)) fd
  d_read_map : ∃ fd, FunD K "read_map" "read_map" (defArgs s_read_map) (defBody s_read_map) (defScope s_read_map) [] [] (He.fAd K ("read_map", none)) fd
  d_l_pot : ∃ fd, FunD K "_law_pot" "_law_pot" (defArgs s_l_pot) (defBody s_l_pot) (defScope s_l_pot) [] [] (He.fAd K ("_law_pot", none)) fd
  d_l_digit : ∃ fd, FunD K "_law_digit" "_law_digit" (defArgs s_l_digit) (defBody s_l_digit) (defScope s_l_digit) [] [] (He.fAd K ("_law_digit", none)) fd
  d_l_name : ∃ fd, FunD K "_law_name" "_law_name" (defArgs s_l_name) (defBody s_l_name) (defScope s_l_name) [] [] (He.fAd K ("_law_name", none)) fd
  d_l_names : ∃ fd, FunD K "_law_names" "_law_names" (defArgs s_l_names) (defBody s_l_names) (defScope s_l_names) [] [] (He.fAd K ("_law_names", none)) fd
  d_l_rows : ∃ fd, FunD K "_law_rows" "_law_rows" (defArgs s_l_rows) (defBody s_l_rows) (defScope s_l_rows) [] [] (He.fAd K ("_law_rows", none)) fd
  d_l_among : ∃ fd, FunD K "_law_among" "_law_among" (defArgs s_l_among) (defBody s_l_among) (defScope s_l_among) [] [] (He.fAd K ("_law_among", none)) fd
  d_l_is_name : ∃ fd, FunD K "_law_is_name" "_law_is_name" (defArgs s_l_is_name) (defBody s_l_is_name) (defScope s_l_is_name) [] [] (He.fAd K ("_law_is_name", none)) fd
  d_l_due : ∃ fd, FunD K "_law_due" "_law_due" (defArgs s_l_due) (defBody s_l_due) (defScope s_l_due) [] [] (He.fAd K ("_law_due", none)) fd
  d_l_changed : ∃ fd, FunD K "_law_changed" "_law_changed" (defArgs s_l_changed) (defBody s_l_changed) (defScope s_l_changed) [] [] (He.fAd K ("_law_changed", none)) fd
  d_l_told : ∃ fd, FunD K "_law_told" "_law_told" (defArgs s_l_told) (defBody s_l_told) (defScope s_l_told) [] [] (He.fAd K ("_law_told", none)) fd
  d_l_right : ∃ fd, FunD K "_law_right" "_law_right" (defArgs s_l_right) (defBody s_l_right) (defScope s_l_right) [] [] (He.fAd K ("_law_right", none)) fd
  d_law : ∃ fd, FunD K "law" "law" (defArgs s_law) (defBody s_law) (defScope s_law) [] [] (He.fAd K ("law", none)) fd
theorem tx_of {K : Fr} {h : Heap} {mg : Str → Option Value} (X : K.In h) (G : h.Ns mainGlobals mg) (c : SaysW fb fn K) : Tx K mg where
  f_abs := He.free_ok X G (c.fact 0 rfl)
  f_all := He.free_ok X G (c.fact 1 rfl)
  f_dict := He.free_ok X G (c.fact 2 rfl)
  f_enumerate := He.free_ok X G (c.fact 3 rfl)
  f_isinstance := He.free_ok X G (c.fact 4 rfl)
  f_len := He.free_ok X G (c.fact 5 rfl)
  f_list := He.free_ok X G (c.fact 6 rfl)
  f_max := He.free_ok X G (c.fact 7 rfl)
  f_min := He.free_ok X G (c.fact 8 rfl)
  f_range := He.free_ok X G (c.fact 9 rfl)
  f_str := He.free_ok X G (c.fact 10 rfl)
  f_tuple := He.free_ok X G (c.fact 11 rfl)
  k_LEAST_HOSTS := kint (c.fact 12 rfl) X G
  k_LETTERS := kstr (c.fact 13 rfl) X G
  k_MOST_HOSTS := kint (c.fact 14 rfl) X G
  k_MOST_LETTERS := kint (c.fact 15 rfl) X G
  k_MOST_WALKERS := kint (c.fact 16 rfl) X G
  g_is_made_of := He.glo_ok X G (c.fact 17 rfl)
  g_is_name := He.glo_ok X G (c.fact 18 rfl)
  g_want := He.glo_ok X G (c.fact 19 rfl)
  g_want_hosts := He.glo_ok X G (c.fact 20 rfl)
  g_want_walkers := He.glo_ok X G (c.fact 21 rfl)
  g_map_text := He.glo_ok X G (c.fact 22 rfl)
  g_read_map := He.glo_ok X G (c.fact 23 rfl)
  g_l_pot := He.glo_ok X G (c.fact 24 rfl)
  g_l_digit := He.glo_ok X G (c.fact 25 rfl)
  g_l_name := He.glo_ok X G (c.fact 26 rfl)
  g_l_names := He.glo_ok X G (c.fact 27 rfl)
  g_l_rows := He.glo_ok X G (c.fact 28 rfl)
  g_l_among := He.glo_ok X G (c.fact 29 rfl)
  g_l_is_name := He.glo_ok X G (c.fact 30 rfl)
  g_l_due := He.glo_ok X G (c.fact 31 rfl)
  g_l_changed := He.glo_ok X G (c.fact 32 rfl)
  g_l_told := He.glo_ok X G (c.fact 33 rfl)
  g_l_right := He.glo_ok X G (c.fact 34 rfl)
  g_law := He.glo_ok X G (c.fact 35 rfl)
  g_WalkError := He.glo_ok X G (c.fact 36 rfl)
  b_WalkError := binB_ok (c.fact 37 rfl)
  g_NoMap := He.glo_ok X G (c.fact 38 rfl)
  x_NoMap := oxB_ok (c.fact 39 rfl)
  n_NoMap_what := He.noat_ok (c.fact 40 rfl)
  n_NoMap_who := He.noat_ok (c.fact 41 rfl)
  g_NoText := He.glo_ok X G (c.fact 42 rfl)
  x_NoText := oxB_ok (c.fact 43 rfl)
  n_NoText_row := He.noat_ok (c.fact 44 rfl)
  g_Map := He.glo_ok X G (c.fact 45 rfl)
  c_Map := He.cls_ok (c.fact 46 rfl)
  m_Map := He.mkr_ok (c.fact 47 rfl)
  n_Map_all_hosts := He.noat_ok (c.fact 48 rfl)
  n_Map_homes := He.noat_ok (c.fact 49 rfl)
  j_NoMap_init := exiB_ok (c.fact 50 rfl)
  j_NoText_init := exiB_ok (c.fact 51 rfl)
  t_Map_hosts := He.meth_ok (c.fact 52 rfl)
  t_Map_walkers := He.meth_ok (c.fact 53 rfl)
  t_Map_has_walker := He.meth_ok (c.fact 54 rfl)
  t_Map_want_walker := He.meth_ok (c.fact 55 rfl)
  t_Map_home := He.meth_ok (c.fact 56 rfl)
  t_Map_eq := He.meth_ok (c.fact 57 rfl)
  w_Map := clsB_ok (c.fact 58 rfl)
  y_obj := objB_ok (c.fact 59 rfl)
  q_text_walk := of_decide_eq_true (c.fact 60 rfl)
  q_text_map := of_decide_eq_true (c.fact 61 rfl)
  q_map_map := of_decide_eq_true (c.fact 62 rfl)
  e_map_map := of_decide_eq_true (c.fact 63 rfl)
  e_text_text := of_decide_eq_true (c.fact 64 rfl)
  d_NoMap_init := c.def_ 0 rfl
  d_NoText_init := c.def_ 1 rfl
  d_is_made_of := c.def_ 2 rfl
  d_is_name := c.def_ 3 rfl
  d_want := c.def_ 4 rfl
  d_want_hosts := c.def_ 5 rfl
  d_want_walkers := c.def_ 6 rfl
  d_Map_init := c.def_ 7 rfl
  d_Map_hosts := c.def_ 8 rfl
  d_Map_walkers := c.def_ 9 rfl
  d_Map_has_walker := c.def_ 10 rfl
  d_Map_want_walker := c.def_ 11 rfl
  d_Map_home := c.def_ 12 rfl
  d_Map_eq := c.def_ 13 rfl
  d_map_text := c.def_ 14 rfl
  d_read_map := c.def_ 15 rfl
  d_l_pot := c.def_ 16 rfl
  d_l_digit := c.def_ 17 rfl
  d_l_name := c.def_ 18 rfl
  d_l_names := c.def_ 19 rfl
  d_l_rows := c.def_ 20 rfl
  d_l_among := c.def_ 21 rfl
  d_l_is_name := c.def_ 22 rfl
  d_l_due := c.def_ 23 rfl
  d_l_changed := c.def_ 24 rfl
  d_l_told := c.def_ 25 rfl
  d_l_right := c.def_ 26 rfl
  d_law := c.def_ 27 rfl
end W93
namespace W93
open PySem PySem.Spec PyProof.Rows L2 WB



def letters : Str := "abcdefghijklmnopqrstuvwxyz"
def isMade (z signs : Str) (n : Int) : Bool := (decide ((1 : Int) ≤ z.length) && decide ((z.length : Int) ≤ n)) && z.cps.toList.all fun c => decide (c ∈ signs.cps.toList)
def isName (z : Str) : Bool := isMade z letters 8
def okHosts (hs : List Str) : Bool := hs.all isName && decide hs.Nodup && decide (2 ≤ hs.length) && decide (hs.length ≤ 6)
def okRow (hs seen : List Str) (r : List Str) : Bool := match r with
  | [n, h] => isName n && decide (n ∉ seen) && decide (h ∈ hs)
  | _ => false
def okRows (hs : List Str) : List Str → List (List Str) → Bool
  | _, [] => true
  | seen, r :: rs => okRow hs seen r && okRows hs (seen ++ [r.headD ""]) rs
def okWalkers (hs : List Str) (rows : List (List Str)) : Bool := okRows hs hs rows && decide (1 ≤ rows.length) && decide (rows.length ≤ 5)
def okMap (hs : List Str) (rows : List (List Str)) : Bool := okHosts hs && okWalkers hs rows
def pairs (rows : List (List Str)) : List (Str × Str) := rows.map fun r => (r.headD "", r.getD 1 "")
def mapF (l d : Addr) : List (Str × V) := putF "homes" (.ref d) (putF "all_hosts" (.ref l) [])
def dkv (ws : List (Str × Str)) : List (Key × V) := ws.map fun w => (Sum.inr w.1, V.str w.2)
def MapAt (K : Fr) (H : Hp) (x : Addr) (hs : List Str) (ws : List (Str × Str)) : Prop := ∃ dx l d, H x = some (.ins (He.ga K "Map") dx (mapF l d)) ∧ H l = some (.lst (SV hs)) ∧ H d = some (.dK (dkv ws))
def RowsAt (H : Hp) (b : Addr) (rows : List (List Str)) : Prop := ∃ ps : List Addr, H b = some (.lst (ps.map V.ref)) ∧ Paired (fun p r => H p = some (.tup (SV r))) ps rows
def mapText (hs : List Str) (ws : List (Str × Str)) : Str := Txt.join " " (hs ++ ws.map fun w => w.1 ++ ("@" : Str) ++ w.2)
def hasAt (z : Str) : Bool := decide (64 ∈ z.cps.toList)
def wordsOf (z : Str) : List Str := Txt.split z " "
def hostsOf (z : Str) : List Str := (wordsOf z).filter fun y => !hasAt y
def rowsOf (z : Str) : List (List Str) := ((wordsOf z).filter hasAt).map fun y => Txt.split y "@"
def readMap (z : Str) : Option (List Str × List (Str × Str)) := if (okMap (hostsOf z) (rowsOf z) && decide (mapText (hostsOf z) (pairs (rowsOf z)) = z)) = true then some (hostsOf z, pairs (rowsOf z)) else none
def lawOk (z : Str) : Bool :=
  let hs := hostsOf z; let rows := rowsOf z; let some_ := hs ++ rows.map (fun r => r.headD "")
  (decide (wordsOf z = hs ++ rows.map (Txt.join "@")) && (decide (2 ≤ hs.length) && decide (hs.length ≤ 6)) && (decide (1 ≤ rows.length) && decide (rows.length ≤ 5))) &&
  (hs.all isName && rows.all fun r => decide (r.length = 2)) && (some_.all fun n => isName n && decide (some_.count n = 1)) && rows.all fun r => decide (r.getD 1 "" ∈ hs)
def lawDue (z : Str) : Option (List Str × List (List Str)) := if lawOk z = true then some (hostsOf z, rowsOf z) else none
def Pot (H : Hp) (p : Addr) : Prop := ∃ a b : Int, H p = some (.lst [.int a, .int b]) ∧ 0 ≤ a ∧ 0 ≤ b ∧ b < 2 ^ 32
def NoStr (K : Fr) (H : Hp) (v : V) : Prop := ∃ t, TyX K H v t ∧ PySem.W.kitOne K t (.type "str") = some false
abbrev cMap (K : Fr) : Addr := He.ga K "Map"
abbrev cNoMap (K : Fr) : Addr := He.ga K "NoMap"
abbrev cNoText (K : Fr) : Addr := He.ga K "NoText"
def sp_NoMap_init (K : Fr) : Sp := fun vs H Q _ => ∃ (e : Addr) (a b : V), vs = [.ref e, a, b] ∧ H e = some (exo e (cNoMap K) none) ∧
  ∀ d H', H d = none → d ≠ e → H' e = some (exo e (cNoMap K) (some d)) → H' d = some (exd d [("who", b), ("what", a)]) → ExP e H H' → Q .non H'
def sp_NoText_init (K : Fr) : Sp := fun vs H Q _ => ∃ (e : Addr) (a : V), vs = [.ref e, a] ∧ H e = some (exo e (cNoText K) none) ∧
  ∀ d H', H d = none → d ≠ e → H' e = some (exo e (cNoText K) (some d)) → H' d = some (exd d [("row", a)]) → ExP e H H' → Q .non H'
def sp_is_made_of (_ : Fr) : Sp := fun vs H Q _ => ∃ (z signs : Str) (n : Int), vs = [.str z, .str signs, .int n] ∧ z.length ≤ 5000 ∧ ∀ H', Ex H H' → Q (.bl (isMade z signs n)) H'
def sp_is_name (_ : Fr) : Sp := fun vs H Q _ => ∃ z : Str, vs = [.str z] ∧ z.length ≤ 5000 ∧ ∀ H', Ex H H' → Q (.bl (isName z)) H'
def sp_want (K : Fr) : Sp := fun vs H Q E => ∃ (b : Bool) (x y : V), vs = [.bl b, x, y] ∧ (b = true → Q .non H) ∧ (b = false → ∀ d H', Ex H H' → E (.ref (cNoMap K)) (some d) H')
def Small (l : List Str) : Prop := l.length ≤ 5000 ∧ ∀ z ∈ l, z.length ≤ 5000
def sp_want_hosts (K : Fr) : Sp := fun vs H Q E => ∃ (a : Addr) (hs : List Str), vs = [.ref a] ∧ H a = some (.lst (SV hs)) ∧ Small hs ∧
  (okHosts hs = true → ∀ H', Ex H H' → Q .non H') ∧ (okHosts hs = false → ∀ d H', Ex H H' → E (.ref (cNoMap K)) (some d) H')
def SmallR (rows : List (List Str)) : Prop := rows.length ≤ 5000 ∧ ∀ r ∈ rows, Small r
def sp_want_walkers (K : Fr) : Sp := fun vs H Q E => ∃ (a : Addr) (hs : List Str) (b : Addr) (rows : List (List Str)), vs = [.ref a, .ref b] ∧ H a = some (.lst (SV hs)) ∧ RowsAt H b rows ∧ Small hs ∧ SmallR rows ∧
  (okWalkers hs rows = true → ∀ H', Ex H H' → Q .non H') ∧ (okWalkers hs rows = false → ∀ d H', Ex H H' → E (.ref (cNoMap K)) (some d) H')
def sp_Map_init (K : Fr) : Sp := fun vs H Q E => ∃ (x dx a : Addr) (hs : List Str) (b : Addr) (rows : List (List Str)), vs = [.ref x, .ref a, .ref b] ∧ H x = some (.ins (cMap K) dx []) ∧ H a = some (.lst (SV hs)) ∧ RowsAt H b rows ∧ Small hs ∧ SmallR rows ∧
  (okMap hs rows = true → ∀ H', MapAt K H' x hs (pairs rows) → ExP x H H' → Q .non H') ∧ (okMap hs rows = false → ∀ d H', ExP x H H' → E (.ref (cNoMap K)) (some d) H')
def sp_Map_hosts (K : Fr) : Sp := fun vs H Q _ => ∃ (x : Addr) (hs : List Str) (ws : List (Str × Str)), vs = [.ref x] ∧ MapAt K H x hs ws ∧ ∀ p H', H p = none → Ex H H' → H' p = some (.lst (SV hs)) → Q (.ref p) H'
def sp_Map_walkers (K : Fr) : Sp := fun vs H Q _ => ∃ (x : Addr) (hs : List Str) (ws : List (Str × Str)), vs = [.ref x] ∧ MapAt K H x hs ws ∧ ∀ p H', H p = none → Ex H H' → H' p = some (.lst (SV (ws.map (·.1)))) → Q (.ref p) H'
def sp_Map_has_walker (K : Fr) : Sp := fun vs H Q _ => ∃ (x : Addr) (hs : List Str) (ws : List (Str × Str)) (n : Str), vs = [.ref x, .str n] ∧ MapAt K H x hs ws ∧ ∀ H', Ex H H' → Q (.bl (decide (n ∈ ws.map (·.1)))) H'
def sp_Map_want_walker (K : Fr) : Sp := fun vs H Q _ => ∃ (x : Addr) (hs : List Str) (ws : List (Str × Str)) (n : Str), vs = [.ref x, .str n] ∧ MapAt K H x hs ws ∧ n ∈ ws.map (·.1) ∧ ∀ H', Ex H H' → Q .non H'
def sp_Map_home (K : Fr) : Sp := fun vs H Q _ => ∃ (x : Addr) (hs : List Str) (ws : List (Str × Str)) (n h : Str), vs = [.ref x, .str n] ∧ MapAt K H x hs ws ∧ (n, h) ∈ ws ∧ (ws.map (·.1)).Nodup ∧ ∀ H', Ex H H' → Q (.str h) H'
def SoundM (hs : List Str) (ws : List (Str × Str)) : Prop := (∀ z ∈ hs, PyData.strOk z = true) ∧ ∀ w ∈ ws, PyData.strOk w.1 = true ∧ PyData.strOk w.2 = true
def R_Map (K : Fr) : Addr → Addr → Hp → Prop := fun a b H => ∃ hs ws, MapAt K H a hs ws ∧ MapAt K H b hs ws ∧ SoundM hs ws
def sp_Map_eq (K : Fr) : Sp := spEq (R_Map K)
def SmallM (hs : List Str) (ws : List (Str × Str)) : Prop := hs.length ≤ 10 ∧ ws.length ≤ 10 ∧ (∀ z ∈ hs, z.length ≤ 5000) ∧ ∀ w ∈ ws, w.1.length ≤ 5000 ∧ w.2.length ≤ 5000
def sp_map_text (K : Fr) : Sp := fun vs H Q _ => ∃ (x : Addr) (hs : List Str) (ws : List (Str × Str)), vs = [.ref x] ∧ MapAt K H x hs ws ∧ (ws.map (·.1)).Nodup ∧ SmallM hs ws ∧ ∀ H', Ex H H' → Q (.str (mapText hs ws)) H'
def sp_read_map (K : Fr) : Sp := fun vs H Q E => ∃ v : V, vs = [v] ∧
  ((NoStr K H v ∧ ∀ d H', Ex H H' → H' d = some (.xd [("row", .int 0)]) → E (.ref (cNoText K)) (some d) H') ∨
   ∃ z : Str, v = .str z ∧ z.length ≤ 1000 ∧ (∀ hs ws x H', readMap z = some (hs, ws) → MapAt K H' x hs ws → Ex H H' → Q (.ref x) H') ∧
     (readMap z = none → ∀ d H', Ex H H' → H' d = some (.xd [("row", .int 1)]) → E (.ref (cNoText K)) (some d) H'))
def sp_l_pot (K : Fr) : Sp := fun vs H Q _ => ∃ (a : Addr) (ns : List Int) (k : Int), vs = [.ref a, .int k] ∧ SqL K H a (ns.map V.int) ∧ ns.length ≤ 63 ∧ 0 ≤ k ∧ k < 4 ∧ ∀ p H', H p = none → Ex H H' → Pot H' p → Q (.ref p) H'
def sp_l_digit (_ : Fr) : Sp := fun vs H Q _ => ∃ (p : Addr) (n : Int), vs = [.ref p, .int n] ∧ Pot H p ∧ 1 ≤ n ∧ n < 1000000 ∧ ∀ d H', 0 ≤ d → d < n → ExP p H H' → Pot H' p → Q (.int d) H'
def sp_l_name (_ : Fr) : Sp := fun vs H Q _ => ∃ (p a : Addr) (us : List Str), vs = [.ref p, .ref a] ∧ Pot H p ∧ H a = some (.lst (SV us)) ∧ us.length ≤ 20 ∧ (∀ u ∈ us, isName u = true) ∧
  ∀ z H', isName z = true → z ∉ us → ExP p H H' → Pot H' p → Q (.str z) H'
def sp_l_names (_ : Fr) : Sp := fun vs H Q _ => ∃ (p : Addr) (n : Int) (a : Addr) (us : List Str), vs = [.ref p, .int n, .ref a] ∧ Pot H p ∧ H a = some (.lst (SV us)) ∧ 0 ≤ n ∧ n ≤ 6 ∧ us.length ≤ 6 ∧ (∀ u ∈ us, isName u = true) ∧ us.Nodup ∧
  ∀ q xs H', xs.length = n.toNat → (∀ u ∈ xs, isName u = true) → (us ++ xs).Nodup → ExP p H H' → Pot H' p → H q = none → H' q = some (.lst (SV xs)) → Q (.ref q) H'
def sp_l_rows (_ : Fr) : Sp := fun vs H Q _ => ∃ p : Addr, vs = [.ref p] ∧ Pot H p ∧
  ∀ t l m hs rows H', okMap hs rows = true → ExP p H H' → Pot H' p → H' t = some (.tup [.ref l, .ref m]) → H' l = some (.lst (SV hs)) → RowsAt H' m rows → Q (.ref t) H'
def sp_l_among (_ : Fr) : Sp := fun vs H Q _ => ∃ (p a : Addr) (xs : List V), vs = [.ref p, .ref a] ∧ Pot H p ∧ H a = some (.lst xs) ∧ 1 ≤ xs.length ∧ xs.length < 1000 ∧ a ≠ p ∧ ∀ v H', v ∈ xs → ExP p H H' → Pot H' p → Q v H'
def sp_l_is_name (_ : Fr) : Sp := fun vs H Q _ => ∃ z : Str, vs = [.str z] ∧ z.length ≤ 5000 ∧ ∀ H', Ex H H' → Q (.bl (isName z)) H'
def sp_l_due (_ : Fr) : Sp := fun vs H Q _ => ∃ z : Str, vs = [.str z] ∧ z.length ≤ 1000 ∧ PyData.strOk z = true ∧ (lawDue z = none → ∀ H', Ex H H' → Q .non H') ∧
  ∀ hs rows t l m H', lawDue z = some (hs, rows) → Ex H H' → H' t = some (.tup [.ref l, .ref m]) → H' l = some (.lst (SV hs)) → RowsAt H' m rows → Q (.ref t) H'
def sp_l_changed (_ : Fr) : Sp := fun vs H Q _ => ∃ (p : Addr) (z : Str), vs = [.ref p, .str z] ∧ Pot H p ∧ z.length ≤ 450 ∧ PyData.strOk z = true ∧ ∀ z' H', z'.length ≤ 2 * z.length + 20 → PyData.strOk z' = true → ExP p H H' → Pot H' p → Q (.str z') H'
def sp_l_told (K : Fr) : Sp := fun vs H Q _ => ∃ v : V, vs = [v] ∧
  ((NoStr K H v ∧ ∀ t H', Ex H H' → H' t = some (.tup [.str "wrong", .int 0, .bl true]) → Q (.ref t) H') ∨
   ∃ z : Str, v = .str z ∧ z.length ≤ 1000 ∧ (∀ hs ws t x H', readMap z = some (hs, ws) → MapAt K H' x hs ws → Ex H H' → H' t = some (.tup [.str "map", .ref x]) → Q (.ref t) H') ∧
     (readMap z = none → ∀ t H', Ex H H' → H' t = some (.tup [.str "wrong", .int 1, .bl true]) → Q (.ref t) H'))
def sp_l_right (_ : Fr) : Sp := fun vs H Q _ => ∃ z : Str, vs = [.str z] ∧ z.length ≤ 1000 ∧ PyData.strOk z = true ∧ ∀ H', Ex H H' → Q (.bl true) H'
def sp_law (K : Fr) : Sp := fun vs H Q _ => ∃ (a : Addr) (ns : List Int), vs = [.ref a] ∧ SqL K H a (ns.map V.int) ∧ ns.length ≤ 63 ∧ ∀ H', Q (.bl true) H'
section
variable {K : Fr} {vs : List V} {H : Hp} {Q : VK} {E : XK}
theorem len_NoMap_init (h : sp_NoMap_init K vs H Q E) : vs.length = 3 := by obtain ⟨_, _, _, rfl, _⟩ := h; rfl
theorem len_NoText_init (h : sp_NoText_init K vs H Q E) : vs.length = 2 := by obtain ⟨_, _, rfl, _⟩ := h; rfl
theorem len_is_made_of (h : sp_is_made_of K vs H Q E) : vs.length = 3 := by obtain ⟨_, _, _, rfl, _⟩ := h; rfl
theorem len_is_name (h : sp_is_name K vs H Q E) : vs.length = 1 := by obtain ⟨_, rfl, _⟩ := h; rfl
theorem len_want (h : sp_want K vs H Q E) : vs.length = 3 := by obtain ⟨_, _, _, rfl, _⟩ := h; rfl
theorem len_want_hosts (h : sp_want_hosts K vs H Q E) : vs.length = 1 := by obtain ⟨_, _, rfl, _⟩ := h; rfl
theorem len_want_walkers (h : sp_want_walkers K vs H Q E) : vs.length = 2 := by obtain ⟨_, _, _, _, rfl, _⟩ := h; rfl
theorem len_Map_init (h : sp_Map_init K vs H Q E) : vs.length = 3 := by obtain ⟨_, _, _, _, _, _, rfl, _⟩ := h; rfl
theorem len_Map_hosts (h : sp_Map_hosts K vs H Q E) : vs.length = 1 := by obtain ⟨_, _, _, rfl, _⟩ := h; rfl
theorem len_Map_walkers (h : sp_Map_walkers K vs H Q E) : vs.length = 1 := by obtain ⟨_, _, _, rfl, _⟩ := h; rfl
theorem len_Map_has_walker (h : sp_Map_has_walker K vs H Q E) : vs.length = 2 := by obtain ⟨_, _, _, _, rfl, _⟩ := h; rfl
theorem len_Map_want_walker (h : sp_Map_want_walker K vs H Q E) : vs.length = 2 := by obtain ⟨_, _, _, _, rfl, _⟩ := h; rfl
theorem len_Map_home (h : sp_Map_home K vs H Q E) : vs.length = 2 := by obtain ⟨_, _, _, _, _, rfl, _⟩ := h; rfl
theorem len_Map_eq (h : sp_Map_eq K vs H Q E) : vs.length = 2 := by obtain ⟨_, _, rfl, _⟩ := h; rfl
theorem len_map_text (h : sp_map_text K vs H Q E) : vs.length = 1 := by obtain ⟨_, _, _, rfl, _⟩ := h; rfl
theorem len_read_map (h : sp_read_map K vs H Q E) : vs.length = 1 := by obtain ⟨_, rfl, _⟩ := h; rfl
theorem len_l_pot (h : sp_l_pot K vs H Q E) : vs.length = 2 := by obtain ⟨_, _, _, rfl, _⟩ := h; rfl
theorem len_l_digit (h : sp_l_digit K vs H Q E) : vs.length = 2 := by obtain ⟨_, _, rfl, _⟩ := h; rfl
theorem len_l_name (h : sp_l_name K vs H Q E) : vs.length = 2 := by obtain ⟨_, _, _, rfl, _⟩ := h; rfl
theorem len_l_names (h : sp_l_names K vs H Q E) : vs.length = 3 := by obtain ⟨_, _, _, _, rfl, _⟩ := h; rfl
theorem len_l_rows (h : sp_l_rows K vs H Q E) : vs.length = 1 := by obtain ⟨_, rfl, _⟩ := h; rfl
theorem len_l_among (h : sp_l_among K vs H Q E) : vs.length = 2 := by obtain ⟨_, _, _, rfl, _⟩ := h; rfl
theorem len_l_is_name (h : sp_l_is_name K vs H Q E) : vs.length = 1 := by obtain ⟨_, rfl, _⟩ := h; rfl
theorem len_l_due (h : sp_l_due K vs H Q E) : vs.length = 1 := by obtain ⟨_, rfl, _⟩ := h; rfl
theorem len_l_changed (h : sp_l_changed K vs H Q E) : vs.length = 2 := by obtain ⟨_, _, rfl, _⟩ := h; rfl
theorem len_l_told (h : sp_l_told K vs H Q E) : vs.length = 1 := by obtain ⟨_, rfl, _⟩ := h; rfl
theorem len_l_right (h : sp_l_right K vs H Q E) : vs.length = 1 := by obtain ⟨_, rfl, _⟩ := h; rfl
theorem len_law (h : sp_law K vs H Q E) : vs.length = 1 := by obtain ⟨_, _, rfl, _⟩ := h; rfl
end
end W93
namespace W93
open PySem PySem.Spec PyProof.Rows L2 LiI WB
def t_NoMap_init (K : Fr) : TS := tSeq (tDrop (tVeI K (tCons (tVar 0) (tCons (tC (.str "no map")) tNil))))
    (tSeq (tOst K "what" (tVar 0) (tVar 1))
    (tOst K "who" (tVar 0) (tVar 2)))
def t_NoText_init (K : Fr) : TS := tSeq (tDrop (tVeI K (tCons (tVar 0) (tCons (tC (.str "no such text")) tNil))))
    (tOst K "row" (tVar 0) (tVar 1))
def t_is_made_of (K : Fr) : TS := tSeq (tIfS (tOr (tNot (tB (tCB (rIsi K) (tCons (tVar 0) (tCons (tC (.ty "str")) tNil))))) (tNot (tTest (tChain rLeI rLeI (tC (.int 1)) (tCB (rLenA K) (tCons (tVar 0) tNil)) (tVar 2))))) (tRet (tC (.bl false))) (tNext))
    (tRet (tCB (rAll K) (tCons (tLc (iStr (tVar 0)) (gName 3) tYes (tOp rInSgn (tVar 3) (tVar 1)) [3]) tNil)))
def t_is_name (K : Fr) : TS := tRet (tCallS (sp_is_made_of K) (fun _ => E0) (tCons (tVar 0) (tCons (tC (.str "abcdefghijklmnopqrstuvwxyz")) (tCons (tC (.int 8)) tNil))))
def t_want (K : Fr) (E : XK) : TS := tIfS (tNot (tB (tVar 0))) (fun _ σ H => tMkO (He.ga K "NoMap") (sp_NoMap_init K) [] (tCons (tVar 1) (tCons (tVar 2) tNil)) σ H fun cls d H' => E cls d H') (tNext)
def t_want_hosts (K : Fr) (E : XK) : TS := tSeq (tDrop (tCallS (sp_want K) (fun _ => E) (tCons (tCB (rIsi K) (tCons (tVar 0) (tCons (tC (.ty "list")) tNil))) (tCons (tC (.str "hosts")) (tCons (tC (.str "")) tNil)))))
    (tSeq (tFor (iEnum K (tCons (tVar 0) tNil)) (gTup K 2 (gCons (gName 1) (gCons (gName 2) gNil))) (tSeq (tDrop (tCallS (sp_want K) (fun _ => E) (tCons (tCallS (sp_is_name K) (fun _ => E0) (tCons (tVar 2) tNil)) (tCons (tC (.str "name")) (tCons (tCB (rStrI) (tCons (tVar 1) tNil)) tNil)))))
    (tDrop (tCallS (sp_want K) (fun _ => E) (tCons (tOp (rNiA K) (tVar 2) (tSl (rSlA K) (tVar 0) tNoPart (tPart (tVar 1)))) (tCons (tC (.str "again")) (tCons (tVar 2) tNil)))))))
    (tDrop (tCallS (sp_want K) (fun _ => E) (tCons (tChain rLeI rLeI (tC (.int 2)) (tCB (rLenA K) (tCons (tVar 0) tNil)) (tC (.int 6))) (tCons (tC (.str "many")) (tCons (tC (.str "hosts")) tNil))))))
def t_want_walkers (K : Fr) (E : XK) : TS := tSeq (tDrop (tCallS (sp_want K) (fun _ => E) (tCons (tCB (rIsi K) (tCons (tVar 1) (tCons (tC (.ty "list")) tNil))) (tCons (tC (.str "walkers")) (tCons (tC (.str "")) tNil)))))
    (tSeq (tAsg (tCB (rListSq K) (tCons (tVar 0) tNil)) (gName 2))
    (tSeq (tFor (iEnum K (tCons (tVar 1) tNil)) (gTup K 2 (gCons (gName 3) (gCons (gName 4) gNil))) (tSeq (tDrop (tCallS (sp_want K) (fun _ => E) (tCons (tAndV (tCB (rIsi K) (tCons (tVar 4) (tCons (tC (.ty "tuple")) tNil))) (tOp (rEqA K) (tCB (rLenA K) (tCons (tVar 4) tNil)) (tC (.int 2)))) (tCons (tC (.str "walker")) (tCons (tCB (rStrI) (tCons (tVar 3) tNil)) tNil)))))
    (tSeq (tAsg (tVar 4) (gTup K 2 (gCons (gName 5) (gCons (gName 6) gNil))))
    (tSeq (tDrop (tCallS (sp_want K) (fun _ => E) (tCons (tCallS (sp_is_name K) (fun _ => E0) (tCons (tVar 5) tNil)) (tCons (tC (.str "name")) (tCons (tCB (rStrI) (tCons (tVar 3) tNil)) tNil)))))
    (tSeq (tDrop (tCallS (sp_want K) (fun _ => E) (tCons (tOp (rNiA K) (tVar 5) (tVar 2)) (tCons (tC (.str "again")) (tCons (tVar 5) tNil)))))
    (tSeq (tDrop (tCallS (sp_want K) (fun _ => E) (tCons (tOp (rInA K) (tVar 6) (tVar 0)) (tCons (tC (.str "home")) (tCons (tVar 5) tNil)))))
    (tDrop (tBM K "list" (rAppend) (tVar 2) (tCons (tVar 5) tNil)))))))))
    (tDrop (tCallS (sp_want K) (fun _ => E) (tCons (tChain rLeI rLeI (tC (.int 1)) (tCB (rLenA K) (tCons (tVar 1) tNil)) (tC (.int 5))) (tCons (tC (.str "many")) (tCons (tC (.str "walkers")) tNil)))))))
def t_Map_init (K : Fr) (E : XK) : TS := tSeq (tDrop (tCallS (sp_want_hosts K) (fun _ => E) (tCons (tVar 1) tNil)))
    (tSeq (tDrop (tCallS (sp_want_walkers K) (fun _ => E) (tCons (tVar 1) (tCons (tVar 2) tNil))))
    (tSeq (sFld K (tVar 0) (tCB (rListSq K) (tCons (tVar 1) tNil)) "all_hosts")
    (sFld K (tVar 0) (tCB (rDictP K) (tCons (tVar 2) tNil)) "homes")))
def t_Map_hosts (K : Fr) : TS := tRet (tCB (rListSq K) (tCons (tFld K (tVar 0) "all_hosts") tNil))
def t_Map_walkers (K : Fr) : TS := tRet (tCB (rListD) (tCons (tFld K (tVar 0) "homes") tNil))
def t_Map_has_walker (K : Fr) : TS := tRet (tOp (rInA K) (tVar 1) (tMethS (He.ga K "Map") "walkers" (sp_Map_walkers K) (fun _ => E0) (tVar 0) tNil))
def t_Map_want_walker (K : Fr) : TS := tIfS (tNot (tB (tMethS (He.ga K "Map") "has_walker" (sp_Map_has_walker K) (fun _ => E0) (tVar 0) (tCons (tVar 1) tNil)))) (tNever) (tNext)
def t_Map_home (K : Fr) : TS := tSeq (tDrop (tMethS (He.ga K "Map") "want_walker" (sp_Map_want_walker K) (fun _ => E0) (tVar 0) (tCons (tVar 1) tNil)))
    (tRet (tDGet (tFld K (tVar 0) "homes") (tVar 1)))
def t_Map_eq (K : Fr) : TS := tSeq (tIfS (tNot (tB (tCB (rIsi K) (tCons (tVar 1) (tCons (tC (.ref (He.ga K "Map"))) tNil))))) (tRet (tC (.bl false))) (tNext))
    (tRet (tAndV (tOp (rEqA K) (tFld K (tVar 0) "all_hosts") (tFld K (tVar 1) "all_hosts")) (tOp (rEqA K) (tListItems (tFld K (tVar 0) "homes")) (tListItems (tFld K (tVar 1) "homes")))))
def t_map_text (K : Fr) : TS := tSeq (tAsg (tLc (iList K (tMethS (He.ga K "Map") "walkers" (sp_Map_walkers K) (fun _ => E0) (tVar 0) tNil)) (gName 2) tYes (tOp (rAddA K) (tOp (rAddA K) (tVar 2) (tC (.str "@"))) (tMethS (He.ga K "Map") "home" (sp_Map_home K) (fun _ => E0) (tVar 0) (tCons (tVar 2) tNil))) [2]) (gName 1))
    (tRet (tM1 (rJoin K) (tC (.str " ")) (tOp (rAddA K) (tMethS (He.ga K "Map") "hosts" (sp_Map_hosts K) (fun _ => E0) (tVar 0) tNil) (tVar 1))))
def t_read_map (K : Fr) (E : XK) : TS := tSeq (tIfS (tNot (tB (tCB (rIsi K) (tCons (tVar 0) (tCons (tC (.ty "str")) tNil))))) (fun _ σ H => tMkO (He.ga K "NoText") (sp_NoText_init K) [] (tCons (tC (.int 0)) tNil) σ H fun cls d H' => E cls d H') (tNext))
    (tSeq (tAsg (tM1 (rSplit) (tVar 0) (tC (.str " "))) (gName 1))
    (tSeq (tAsg (tLc (iList K (tVar 1)) (gName 5) (tTest (tOp rNiSgn (tC (.str "@")) (tVar 5))) (tVar 5) [5]) (gName 2))
    (tSeq (tAsg (tLc (iList K (tVar 1)) (gName 5) (tTest (tOp rInSgn (tC (.str "@")) (tVar 5))) (tCB (rTupSq K) (tCons (tM1 (rSplit) (tVar 5) (tC (.str "@"))) tNil)) [5]) (gName 3))
    (tSeq (fun D σ H => (fun W : WX => tAsg (tMakeS (He.ga K "Map") (sp_Map_init K) (WE W) (tCons (tVar 2) (tCons (tVar 3) tNil))) (gName 4)) (wOnly K (.ref (He.ga K "NoMap")) (fun a cls d => fun _ σ H => tMkO (He.ga K "NoText") (sp_NoText_init K) [] (tCons (tC (.int 1)) tNil) σ H fun cls d H' => E cls d H') (fun cls d _ H => E cls d H) D) D σ H)
    (tSeq (tIfS (tTest (tOp (rNeA K) (tCallS (sp_map_text K) (fun _ => E0) (tCons (tVar 4) tNil)) (tVar 0))) (fun _ σ H => tMkO (He.ga K "NoText") (sp_NoText_init K) [] (tCons (tC (.int 1)) tNil) σ H fun cls d H' => E cls d H') (tNext))
    (tRet (tVar 4)))))))
def t_l_pot (K : Fr) : TS := tSeq (tAsg (tIf (tTest (tOp rLtI (tVar 1) (tCB (rLenA K) (tCons (tVar 0) tNil)))) (tOp (rIx K) (tVar 0) (tVar 1)) (tC (.int 0))) (gName 2))
    (tRet (tLst (tCons (tCB (rMax2I) (tCons (tC (.int 0)) (tCons (tOp rSubI (tCB (rAbsI) (tCons (tVar 2) tNil)) (tOp rPowI (tC (.int 10)) (tC (.int 18)))) tNil))) (tCons (tOp (rAddA K) (tOp (rAddA K) (tOp rModI (tCB (rAbsI) (tCons (tVar 2) tNil)) (tC (.int 2147483587))) (tOp rMulI (tC (.int 101)) (tVar 1))) (tC (.int 3))) tNil))))
def t_l_digit (K : Fr) : TS := tSeq (tIfS (tTest (tOp rGtI (tOp (rIx K) (tVar 0) (tC (.int 0))) (tC (.int 0)))) (tSeq (tAsg (tOp rModI (tOp (rIx K) (tVar 0) (tC (.int 0))) (tVar 1)) (gName 2))
    (tSeq (tAsg (tOp rDivI (tOp (rIx K) (tVar 0) (tC (.int 0))) (tVar 1)) (gSub (tVar 0) (tC (.int 0)) rSetL))
    (tRet (tVar 2)))) (tNext))
    (tSeq (tAsg (tOp rModI (tOp (rAddA K) (tOp rMulI (tOp (rIx K) (tVar 0) (tC (.int 1))) (tC (.int 39373))) (tC (.int 20011))) (tC (.int 2147483647))) (gSub (tVar 0) (tC (.int 1)) rSetL))
    (tRet (tOp rModI (tOp rDivI (tOp rModI (tOp rMulI (tOp (rIx K) (tVar 0) (tC (.int 1))) (tOp (rIx K) (tVar 0) (tC (.int 1)))) (tC (.int 2147483563))) (tC (.int 11))) (tVar 1))))
def t_l_name (K : Fr) : TS := tSeq (tAsg (tC (.str "abcdefghijklmnopqrstuvwxyz")) (gName 2))
    (tSeq (tAsg (tOp (rAddA K) (tC (.int 1)) (tCallS (sp_l_digit K) (fun _ => E0) (tCons (tVar 0) (tCons (tOp (rIx K) (tLst (tCons (tC (.int 1)) (tCons (tC (.int 3)) (tCons (tC (.int 8)) tNil)))) (tCallS (sp_l_digit K) (fun _ => E0) (tCons (tVar 0) (tCons (tC (.int 3)) tNil)))) tNil)))) (gName 3))
    (tSeq (tAsg (tM1 (rJoin K) (tC (.str "")) (tLc (iRng1 (tCons (tVar 3) tNil)) (gName 5) tYes (tOp (rIx K) (tVar 2) (tCallS (sp_l_digit K) (fun _ => E0) (tCons (tVar 0) (tCons (tC (.int 26)) tNil)))) [5])) (gName 4))
    (tSeq (tIfS (tAnd (tTest (tOp (rNeA K) (tVar 1) (tLst tNil))) (tTest (tOp (rEqA K) (tCallS (sp_l_digit K) (fun _ => E0) (tCons (tVar 0) (tCons (tC (.int 6)) tNil))) (tC (.int 0))))) (tAsg (tSl (rSlA K) (tOp (rAddA K) (tOp (rIx K) (tVar 1) (tUn (rU fun i => .int (-i)) (tC (.int 1)))) (tVar 4)) tNoPart (tPart (tC (.int 8)))) (gName 4)) (tNext))
    (tSeq (tIfS (tTest (tOp (rInA K) (tVar 4) (tVar 1))) (tAsg (tOp (rIx K) (tLc (iStr (tVar 2)) (gName 6) (tTest (tOp (rNiA K) (tVar 6) (tVar 1))) (tVar 6) [6]) (tC (.int 0))) (gName 4)) (tNext))
    (tRet (tVar 4))))))
def t_l_names (K : Fr) : TS := tSeq (tAsg (tLst tNil) (gName 3))
    (tSeq (tFor (iRng1 (tCons (tVar 1) tNil)) (gName 4) (tDrop (tBM K "list" (rAppend) (tVar 3) (tCons (tCallS (sp_l_name K) (fun _ => E0) (tCons (tVar 0) (tCons (tOp (rAddA K) (tVar 2) (tVar 3)) tNil))) tNil))))
    (tRet (tVar 3)))
def t_l_rows (K : Fr) : TS := tSeq (tAsg (tCallS (sp_l_names K) (fun _ => E0) (tCons (tVar 0) (tCons (tOp (rAddA K) (tC (.int 2)) (tCallS (sp_l_digit K) (fun _ => E0) (tCons (tVar 0) (tCons (tC (.int 5)) tNil)))) (tCons (tLst tNil) tNil)))) (gName 1))
    (tSeq (tAsg (tCallS (sp_l_names K) (fun _ => E0) (tCons (tVar 0) (tCons (tOp (rAddA K) (tC (.int 1)) (tCallS (sp_l_digit K) (fun _ => E0) (tCons (tVar 0) (tCons (tC (.int 5)) tNil)))) (tCons (tVar 1) tNil)))) (gName 2))
    (tRet (tTup (tCons (tVar 1) (tCons (tLc (iList K (tVar 2)) (gName 3) tYes (tTup (tCons (tVar 3) (tCons (tOp (rIx K) (tVar 1) (tCallS (sp_l_digit K) (fun _ => E0) (tCons (tVar 0) (tCons (tCB (rLenA K) (tCons (tVar 1) tNil)) tNil)))) tNil))) [3]) tNil)))))
def t_l_among (K : Fr) : TS := tRet (tOp (rIx K) (tVar 1) (tCallS (sp_l_digit K) (fun _ => E0) (tCons (tVar 0) (tCons (tCB (rLenA K) (tCons (tVar 1) tNil)) tNil))))
def t_l_is_name (K : Fr) : TS := tRet (tAndV (tChain rLeI rLeI (tC (.int 1)) (tCB (rLenA K) (tCons (tVar 0) tNil)) (tC (.int 8))) (tCB (rAll K) (tCons (tLc (iStr (tVar 0)) (gName 1) tYes (tOp rInSgn (tVar 1) (tC (.str "abcdefghijklmnopqrstuvwxyz"))) [1]) tNil)))
def t_l_due (K : Fr) : TS := tSeq (tAsg (tM1 (rSplit) (tVar 0) (tC (.str " "))) (gName 1))
    (tSeq (tAsg (tLc (iList K (tVar 1)) (gName 5) (tTest (tOp rNiSgn (tC (.str "@")) (tVar 5))) (tVar 5) [5]) (gName 2))
    (tSeq (tAsg (tLc (iList K (tVar 1)) (gName 5) (tTest (tOp rInSgn (tC (.str "@")) (tVar 5))) (tM1 (rSplit) (tVar 5) (tC (.str "@"))) [5]) (gName 3))
    (tSeq (tIfS (tOr (tTest (tOp (rNeA K) (tVar 1) (tOp (rAddA K) (tVar 2) (tLc (iList K (tVar 3)) (gName 6) tYes (tM1 (rJoin K) (tC (.str "@")) (tVar 6)) [6])))) (tOr (tNot (tTest (tChain rLeI rLeI (tC (.int 2)) (tCB (rLenA K) (tCons (tVar 2) tNil)) (tC (.int 6))))) (tNot (tTest (tChain rLeI rLeI (tC (.int 1)) (tCB (rLenA K) (tCons (tVar 3) tNil)) (tC (.int 5))))))) (tRet (tC .non)) (tNext))
    (tSeq (tIfS (tOr (tNot (tB (tCB (rAll K) (tCons (tLc (iList K (tVar 2)) (gName 7) tYes (tCallS (sp_l_is_name K) (fun _ => E0) (tCons (tVar 7) tNil)) [7]) tNil)))) (tNot (tB (tCB (rAll K) (tCons (tLc (iList K (tVar 3)) (gName 6) tYes (tOp (rEqA K) (tCB (rLenA K) (tCons (tVar 6) tNil)) (tC (.int 2))) [6]) tNil))))) (tRet (tC .non)) (tNext))
    (tSeq (tAsg (tOp (rAddA K) (tVar 2) (tLc (iList K (tVar 3)) (gName 6) tYes (tOp (rIx K) (tVar 6) (tC (.int 0))) [6])) (gName 4))
    (tSeq (tIfS (tNot (tB (tCB (rAll K) (tCons (tLc (iList K (tVar 4)) (gName 8) tYes (tAndV (tCallS (sp_l_is_name K) (fun _ => E0) (tCons (tVar 8) tNil)) (tOp (rEqA K) (tBM K "list" (rCntV K) (tVar 4) (tCons (tVar 8) tNil)) (tC (.int 1)))) [8]) tNil)))) (tRet (tC .non)) (tNext))
    (tSeq (tIfS (tNot (tB (tCB (rAll K) (tCons (tLc (iList K (tVar 3)) (gName 6) tYes (tOp (rInA K) (tOp (rIx K) (tVar 6) (tC (.int 1))) (tVar 2)) [6]) tNil)))) (tRet (tC .non)) (tNext))
    (tRet (tTup (tCons (tVar 2) (tCons (tLc (iList K (tVar 3)) (gName 6) tYes (tTup (tCons (tOp (rIx K) (tVar 6) (tC (.int 0))) (tCons (tOp (rIx K) (tVar 6) (tC (.int 1))) tNil))) [6]) tNil)))))))))))
def t_l_changed (K : Fr) : TS := tSeq (tAsg (tM1 (rSplit) (tVar 1) (tC (.str " "))) (gName 2))
    (tSeq (tPar 3 4 (tCons (tCallS (sp_l_digit K) (fun _ => E0) (tCons (tVar 0) (tCons (tCB (rLenA K) (tCons (tVar 2) tNil)) tNil))) (tCons (tCallS (sp_l_digit K) (fun _ => E0) (tCons (tVar 0) (tCons (tCB (rLenA K) (tCons (tVar 2) tNil)) tNil))) tNil)))
    (tSeq (tAsg (tCallS (sp_l_digit K) (fun _ => E0) (tCons (tVar 0) (tCons (tC (.int 7)) tNil))) (gName 5))
    (tSeq (tIfS (tTest (tOp (rEqA K) (tVar 5) (tC (.int 0)))) (tRet (tM1 (rJoin K) (tC (.str " ")) (tOp (rAddA K) (tSl (rSlA K) (tVar 2) tNoPart (tPart (tVar 3))) (tSl (rSlA K) (tVar 2) (tPart (tOp (rAddA K) (tVar 3) (tC (.int 1)))) tNoPart)))) (tNext))
    (tSeq (tIfS (tTest (tOp (rEqA K) (tVar 5) (tC (.int 1)))) (tRet (tM1 (rJoin K) (tC (.str " ")) (tOp (rAddA K) (tOp (rAddA K) (tSl (rSlA K) (tVar 2) tNoPart (tPart (tVar 3))) (tLst (tCons (tOp (rIx K) (tVar 2) (tVar 4)) tNil))) (tSl (rSlA K) (tVar 2) (tPart (tVar 3)) tNoPart)))) (tNext))
    (tSeq (tIfS (tTest (tOp (rEqA K) (tVar 5) (tC (.int 2)))) (tSeq (tAsg (tTup (tCons (tOp (rIx K) (tVar 2) (tVar 4)) (tCons (tOp (rIx K) (tVar 2) (tVar 3)) tNil))) (gTup K 2 (gCons (gSub (tVar 2) (tVar 3) rSetL) (gCons (gSub (tVar 2) (tVar 4) rSetL) gNil))))
    (tRet (tM1 (rJoin K) (tC (.str " ")) (tVar 2)))) (tNext))
    (tSeq (tIfS (tTest (tOp (rEqA K) (tVar 5) (tC (.int 3)))) (tSeq (tAsg (tCallS (sp_l_among K) (fun _ => E0) (tCons (tVar 0) (tCons (tLst (tCons (tC (.str "")) (tCons (tC (.str "a")) (tCons (tC (.str "zz")) (tCons (tC (.str "a@a")) (tCons (tC (.str "@")) (tCons (tC (.str "a@")) (tCons (tC (.str "@a")) (tCons (tC (.str "a@b@a")) (tCons (tC (.str "A")) (tCons (tOp (rAddA K) (tC (.str "a@")) (tOp (rIx K) (tVar 2) (tC (.int 0)))) (tCons (tC (.str "abcdefghi")) tNil)))))))))))) tNil))) (gSub (tVar 2) (tVar 3) rSetL))
    (tRet (tM1 (rJoin K) (tC (.str " ")) (tVar 2)))) (tNext))
    (tSeq (tAsg (tCallS (sp_l_digit K) (fun _ => E0) (tCons (tVar 0) (tCons (tOp (rAddA K) (tCB (rLenA K) (tCons (tVar 1) tNil)) (tC (.int 1))) tNil))) (gName 6))
    (tSeq (tIfS (tTest (tOp rLtI (tVar 5) (tC (.int 6)))) (tRet (tOp (rAddA K) (tOp (rAddA K) (tSl (rSlA K) (tVar 1) tNoPart (tPart (tVar 6))) (tOp (rIx K) (tC (.str " @\nabA1")) (tCallS (sp_l_digit K) (fun _ => E0) (tCons (tVar 0) (tCons (tC (.int 7)) tNil))))) (tSl (rSlA K) (tVar 1) (tPart (tVar 6)) tNoPart))) (tNext))
    (tRet (tOp (rAddA K) (tSl (rSlA K) (tVar 1) tNoPart (tPart (tVar 6))) (tSl (rSlA K) (tVar 1) (tPart (tOp (rAddA K) (tVar 6) (tC (.int 1)))) tNoPart)))))))))))
def t_l_told (K : Fr) : TS := tSeq (tAsg (tC .non) (gName 1))
    (tSeq (fun D σ H => (fun W : WX => tAsg (tTup (tCons (tC (.str "map")) (tCons (tCallS (sp_read_map K) (WE W) (tCons (tVar 0) tNil)) tNil))) (gName 1)) (wAs K (.ref (He.ga K "NoText")) 2 (fun a cls d => tAsg (tTup (tCons (tC (.str "wrong")) (tCons (tXf a cls d (He.ga K "NoText") "row" (tVar 2)) (tCons (tAndV (tCB (rIsEd K (He.ga K "NoText") a cls d) (tCons (tVar 2) (tCons (tC (.ref (He.ga K "WalkError"))) tNil))) (tNotV (tCB (rIsEd K (He.ga K "NoText") a cls d) (tCons (tVar 2) (tCons (tC (.ref (He.ga K "NoMap"))) tNil))))) tNil)))) (gName 1)) (fun _ _ _ _ => False) D) D σ H)
    (tRet (tVar 1)))
def t_l_right (K : Fr) : TS := tSeq (tPar 1 2 (tCons (tCallS (sp_l_due K) (fun _ => E0) (tCons (tVar 0) tNil)) (tCons (tCallS (sp_l_told K) (fun _ => E0) (tCons (tVar 0) tNil)) tNil)))
    (tSeq (tIfS (tTest (tOp rIsNo (tVar 1) (tC .non))) (tRet (tOp (rEqA K) (tVar 2) (tTup (tCons (tC (.str "wrong")) (tCons (tC (.int 1)) (tCons (tC (.bl true)) tNil)))))) (tNext))
    (tRet (tAndV (tOp (rEqA K) (tOp (rIx K) (tVar 2) (tC (.int 0))) (tC (.str "map"))) (tAndV (tOp (rEqG (DIns (He.ga K "Map") (R_Map K))) (tOp (rIx K) (tVar 2) (tC (.int 1))) (tMakeS (He.ga K "Map") (sp_Map_init K) (fun _ => E0) (tCons (tOp (rIx K) (tVar 1) (tC (.int 0))) (tCons (tOp (rIx K) (tVar 1) (tC (.int 1))) tNil)))) (tOp (rEqA K) (tCallS (sp_map_text K) (fun _ => E0) (tCons (tOp (rIx K) (tVar 2) (tC (.int 1))) tNil)) (tVar 0))))))
def t_law (K : Fr) : TS := tSeq (tFor (iRng1 (tCons (tCB (rMax2I) (tCons (tC (.int 1)) (tCons (tCB (rMin2I) (tCons (tC (.int 4)) (tCons (tCB (rLenA K) (tCons (tVar 0) tNil)) tNil))) tNil))) tNil)) (gName 1) (tSeq (tAsg (tCallS (sp_l_pot K) (fun _ => E0) (tCons (tVar 0) (tCons (tVar 1) tNil))) (gName 2))
    (tSeq (tFor (iRng1 (tCons (tC (.int 2)) tNil)) (gName 3) (tSeq (tAsg (tCallS (sp_l_rows K) (fun _ => E0) (tCons (tVar 2) tNil)) (gTup K 2 (gCons (gName 4) (gCons (gName 5) gNil))))
    (tSeq (tAsg (tCallS (sp_map_text K) (fun _ => E0) (tCons (tMakeS (He.ga K "Map") (sp_Map_init K) (fun _ => E0) (tCons (tVar 4) (tCons (tVar 5) tNil))) tNil)) (gName 6))
    (tSeq (tIfS (tTest (tOp (rNeA K) (tVar 6) (tM1 (rJoin K) (tC (.str " ")) (tOp (rAddA K) (tVar 4) (tLc (iList K (tVar 5)) (gTup K 2 (gCons (gName 8) (gCons (gName 9) gNil))) tYes (tOp (rAddA K) (tOp (rAddA K) (tVar 8) (tC (.str "@"))) (tVar 9)) [8, 9]))))) (tRet (tC (.bl false))) (tNext))
    (tSeq (tIfS (tNot (tTest (tOp (rEqG (DIns (He.ga K "Map") (R_Map K))) (tCallS (sp_read_map K) (fun _ => E0) (tCons (tVar 6) tNil)) (tMakeS (He.ga K "Map") (sp_Map_init K) (fun _ => E0) (tCons (tVar 4) (tCons (tVar 5) tNil)))))) (tRet (tC (.bl false))) (tNext))
    (tSeq (tFor (iRng1 (tCons (tCallS (sp_l_digit K) (fun _ => E0) (tCons (tVar 2) (tCons (tC (.int 3)) tNil))) tNil)) (gName 7) (tAsg (tCallS (sp_l_changed K) (fun _ => E0) (tCons (tVar 2) (tCons (tVar 6) tNil))) (gName 6)))
    (tIfS (tNot (tB (tCallS (sp_l_right K) (fun _ => E0) (tCons (tVar 6) tNil)))) (tRet (tC (.bl false))) (tNext))))))))
    (tIfS (tTest (tOp (rNeA K) (tCallS (sp_l_told K) (fun _ => E0) (tCons (tCallS (sp_l_among K) (fun _ => E0) (tCons (tVar 2) (tCons (tLst (tCons (tC .non) (tCons (tC (.int 1)) (tCons (tLst (tCons (tC (.str "a")) tNil)) (tCons (tTup (tCons (tC (.str "a")) (tCons (tC (.str "b")) tNil))) (tCons (tDNewK) (tCons (tC (.bl true)) tNil))))))) tNil))) tNil)) (tTup (tCons (tC (.str "wrong")) (tCons (tC (.int 0)) (tCons (tC (.bl true)) tNil)))))) (tRet (tC (.bl false))) (tNext)))))
    (tRet (tC (.bl true)))
end W93
namespace W93
open PySem PySem.Spec PyProof.Rows L2 LiI WB
local macro_rules | `(tactic| walk_at "o") => `(tactic| dsimp only [tSeq, tIfS, tNext, tRet, tRetN, tDrop, tAsg, gName, tNever])
section
variable {K : Fr} {mg : Str → Option Value} {vs : List V} {H : Hp} {Q : VK} {E : XK}
theorem pure_NoMap_init (T : Tx K mg) (h : sp_NoMap_init K vs H Q E) : t_NoMap_init K { nx := fun _ H' => Q .non H', rt := Q } (start N_NoMap_init vs) H := by
  obtain ⟨e, a, b, rfl, he, k⟩ := h
  refine ⟨_, rfl, e, _, _, rfl, (by decide), T.x_NoMap.1, he, ?_⟩
  refine ⟨_, rfl, _, rfl, e, _, rfl, T.x_NoMap.1, T.n_NoMap_what, .inl ⟨he, fun dx hdx hne => ?_⟩⟩
  refine ⟨_, rfl, _, rfl, e, _, rfl, T.x_NoMap.1, T.n_NoMap_who, .inr ⟨dx, _, upd_same, (by rw [upd_ne hne]; exact upd_same), (by show 1 ≤ 900; decide), ?_⟩⟩
  refine k dx _ hdx hne ?_ upd_same fun c o hc e1 => ?_
  · rw [upd_ne (Ne.symm hne), upd_same]
  · rw [upd_ne (ne_of_none e1 hdx), upd_ne hc, upd_ne (ne_of_none e1 hdx)]
    exact e1
theorem pure_NoText_init (T : Tx K mg) (h : sp_NoText_init K vs H Q E) : t_NoText_init K { nx := fun _ H' => Q .non H', rt := Q } (start N_NoText_init vs) H := by
  obtain ⟨e, a, rfl, he, k⟩ := h
  refine ⟨_, rfl, e, _, _, rfl, (by decide), T.x_NoText.1, he, ?_⟩
  refine ⟨_, rfl, _, rfl, e, _, rfl, T.x_NoText.1, T.n_NoText_row, .inl ⟨he, fun dx hdx hne => ?_⟩⟩
  refine k dx _ hdx hne upd_same (by rw [upd_ne hne]; exact upd_same) fun c o hc e1 => ?_
  rw [upd_ne hc, upd_ne (ne_of_none e1 hdx)]
  exact e1
theorem all_signs {z : Str} {i : Nat} {te : TE} {tl : TE} {σ : L2.St} {vs : List Nat} (p : Nat → Bool) (hz : z.length ≤ 5000) (hl : ∀ Q' : VK, Q' (.str z) H → tl σ H Q')
    (hw : ∀ v, wipe ((wipe σ vs).set i (some v)) vs = wipe σ vs) (hb : ∀ c H1 (Q' : VK), Ex H H1 → Q' (.bl (p c)) H1 → te ((wipe σ vs).set i (some (.str (sgn c)))) H1 Q')
    (q : ∀ H', Ex H H' → Q (.bl (z.cps.toList.all p)) H') : tCB (rAll K) (tCons (tLc (iStr tl) (gName i) tYes te vs) tNil) σ H Q := by
  refine cb1 (lc_of (seq_str (z := z)) (fun R r => hl _ ⟨z, rfl, r⟩) (fun _ => true) (fun x y _ => ∀ c, x = .str (sgn c) → y = .bl (p c)) (fun _ _ => trivial) (by simp [signsV]; have : z.cps.size = z.length := rfl; omega) ?_ ?_)
  · intro D hD x hx H1 e1 _ k ky _ hy
    obtain ⟨c, _, rfl⟩ := List.mem_map.mp hx
    refine ⟨hw _, ?_⟩
    refine hb c H1 _ e1 (hy rfl _ _ ex_r fun H5 _ d hd => ?_)
    have e2 : c = d := by
      have h3 : sgn c = sgn d := V.str.inj hd
      simpa [sgn] using h3
    rw [e2]
  · intro D ys H' hD e hy r
    refine ⟨D, z.cps.toList.map p, rfl, SqL.of ?_, ?_⟩
    · rw [hy]
      have h2 : ∀ (l : List Nat) (ys : List V), Paired (fun x y => ∀ c, x = V.str (sgn c) → y = V.bl (p c)) (l.map fun c => V.str (sgn c)) ys → ys = (l.map p).map V.bl := by
        intro l
        induction l with
        | nil => intro ys h; cases h; rfl
        | cons c l ih =>
          intro ys h
          cases h with
          | cons h t => rw [h c rfl, ih _ t]; rfl
      have h3 : (signsV z).filter (fun _ => true) = signsV z := List.filter_eq_self.mpr fun _ _ => rfl
      rw [h3] at r
      rw [h2 _ _ r]
    · have h4 : (z.cps.toList.map p).all id = z.cps.toList.all p := by rw [List.all_map]; rfl
      rw [h4]
      exact q H' e
theorem isi_any {x c : V} {t u : Value} {b : Bool} {σ : L2.St} {ta tb : TE} {Q : VK} (ha : ∀ Q' : VK, Q' x H → ta σ H Q') (hb : ∀ Q' : VK, Q' c H → tb σ H Q') (k : ClsV c u) (ty : TyX K H x t) (e : PySem.W.kitOne K t u = some b) (q : Q (.bl b) H) :
    tCB (rIsi K) (tCons ta (tCons tb tNil)) σ H Q := ha _ (hb _ ⟨x, c, t, u, b, rfl, k, ty, e, q⟩)
theorem isi_str {z : Str} {σ : L2.St} {ta : TE} {Q : VK} (ha : ∀ Q' : VK, Q' (.str z) H → ta σ H Q') (q : Q (.bl true) H) : tCB (rIsi K) (tCons ta (tCons (tC (.ty "str")) tNil)) σ H Q :=
  isi_any ha v_c (.ty "str") (.base (.str z)) (kit_ty (by decide +kernel)) q
theorem chain_len {z : Str} {σ : L2.St} {lo hi : Int} {ta tb tc : TE} {Q : VK} (hz : z.length ≤ 5000) (ha : ∀ Q' : VK, Q' (.int lo) H → ta σ H Q') (hb : ∀ Q' : VK, Q' (.str z) H → tb σ H Q') (hc : ∀ Q' : VK, Q' (.int hi) H → tc σ H Q')
    (q : Q (.bl (decide (lo ≤ z.length) && decide ((z.length : Int) ≤ hi))) H) : tChain rLeI rLeI ta (tCB (rLenA K) (tCons tb tNil)) tc σ H Q := by
  refine ha _ (hb _ (.inr ⟨z, rfl, small_line (by omega), lo, _, rfl, rfl, _, rfl, ?_⟩))
  by_cases h : lo ≤ z.length
  · rw [decide_eq_true h] at q ⊢
    exact ite_t rfl (hc _ ⟨_, hi, rfl, rfl, q⟩)
  · rw [decide_eq_false h] at q ⊢
    exact ite_f rfl q
theorem pure_is_made_of (T : Tx K mg) (h : sp_is_made_of K vs H Q E) : t_is_made_of K { nx := fun _ H' => Q .non H', rt := Q } (start N_is_made_of vs) H := by
  obtain ⟨z, signs, n, rfl, hz, k⟩ := h
  unfold t_is_made_of; walk_at "o"
  refine isi_str (v_var rfl) ⟨_, rfl, iteF ?_⟩
  refine chain_len hz v_c (v_var rfl) (v_var rfl) ⟨_, rfl, ?_⟩
  cases hb : (decide ((1 : Int) ≤ z.length) && decide ((z.length : Int) ≤ n)) with
  | false =>
    refine ite_t rfl ?_
    have e : isMade z signs n = false := by unfold isMade; rw [hb]; rfl
    have := k H ex_r
    rw [e] at this
    exact this
  | true =>
    refine ite_f rfl ?_
    have e : isMade z signs n = z.cps.toList.all fun c => decide (c ∈ signs.cps.toList) := by unfold isMade; rw [hb]; rfl
    rw [e] at k
    exact all_signs _ hz (v_var rfl) (fun _ => rfl) (fun c H1 Q' e1 q => ⟨_, rfl, _, rfl, c, signs, rfl, rfl, q⟩) k
theorem pure_is_name (T : Tx K mg) (h : sp_is_name K vs H Q E) : t_is_name K { nx := fun _ H' => Q .non H', rt := Q } (start N_is_name vs) H := by
  obtain ⟨z, rfl, hz, k⟩ := h
  exact ⟨_, rfl, z, _, _, rfl, hz, k⟩
theorem pure_l_is_name (T : Tx K mg) (h : sp_l_is_name K vs H Q E) : t_l_is_name K { nx := fun _ H' => Q .non H', rt := Q } (start N_l_is_name vs) H := by
  obtain ⟨z, rfl, hz, k⟩ := h
  refine chain_len hz v_c (v_var rfl) v_c ⟨_, rfl, iteB (fun hb => ?_) fun hb => ?_⟩
  · have e : isName z = z.cps.toList.all fun c => decide (c ∈ letters.cps.toList) := by unfold isName isMade; rw [hb]; rfl
    rw [e] at k
    exact all_signs _ hz (v_var rfl) (fun _ => rfl) (fun c H1 Q' e1 q => ⟨_, rfl, c, letters, rfl, rfl, q⟩) k
  · have e : isName z = false := by unfold isName isMade; rw [hb]; rfl
    have := k H ex_r
    rw [e] at this
    exact this
theorem made_NoMap (T : Tx K mg) {x y : V} {Q : XK} (q : ∀ d H', Ex H H' → Q (.ref (cNoMap K)) (some d) H') (ta : TA) (σ : L2.St) (ht : ∀ Q' : List V → Hp → Prop, Q' [x, y] H → ta σ H Q') : tMkO (cNoMap K) (sp_NoMap_init K) [] ta σ H Q := by
  refine ht _ ⟨(by show 2 ≤ 1000; decide), fun a ha => ⟨a, x, y, rfl, upd_same, fun d H' hd hne h1 h2 e1 => ⟨rfl, d, _, h1, h2, ?_, ?_⟩⟩⟩
  · rw [upd_ne hne] at hd
    exact hd
  · refine q d _ fun c o hc => ?_
    have n1 : c ≠ a := ne_of_none hc ha
    have n2 : c ≠ d := by
      rw [upd_ne hne] at hd
      exact ne_of_none hc hd
    rw [upd_ne n2, del_ne n1]
    exact e1 c o n1 (by rw [upd_ne n1]; exact hc)
theorem made_NoText (T : Tx K mg) {x : V} {Q : XK} (q : ∀ d H', Ex H H' → H' d = some (.xd [("row", x)]) → Q (.ref (cNoText K)) (some d) H') (ta : TA) (σ : L2.St) (ht : ∀ Q' : List V → Hp → Prop, Q' [x] H → ta σ H Q') : tMkO (cNoText K) (sp_NoText_init K) [] ta σ H Q := by
  refine ht _ ⟨(by show 1 ≤ 1000; decide), fun a ha => ⟨a, x, rfl, upd_same, fun d H' hd hne h1 h2 e1 => ⟨rfl, d, _, h1, h2, ?_, ?_⟩⟩⟩
  · rw [upd_ne hne] at hd
    exact hd
  · refine q d _ (fun c o hc => ?_) upd_same
    have n1 : c ≠ a := ne_of_none hc ha
    have n2 : c ≠ d := by
      rw [upd_ne hne] at hd
      exact ne_of_none hc hd
    rw [upd_ne n2, del_ne n1]
    exact e1 c o n1 (by rw [upd_ne n1]; exact hc)
theorem pure_want (T : Tx K mg) (h : sp_want K vs H Q E) : t_want K E { nx := fun _ H' => Q .non H', rt := Q } (start N_want vs) H := by
  obtain ⟨b, x, y, rfl, k1, k2⟩ := h
  refine ⟨_, rfl, _, rfl, ?_⟩
  cases b with
  | true => exact iteF (k1 rfl)
  | false => exact iteT (made_NoMap T (fun d H' e => k2 rfl d H' e) _ _ fun Q' q => ⟨_, rfl, _, rfl, q⟩)
end
end W93
namespace W93
open PySem PySem.Spec PyProof.Rows L2 LiI WB
open Evl hiding Ex
local macro_rules | `(tactic| walk_at "o") => `(tactic| dsimp only [tSeq, tIfS, tNext, tRet, tRetN, tDrop, tAsg, gName, tNever])
section
variable {K : Fr} {mg : Str → Option Value} {vs : List V} {H : Hp} {Q : VK} {E : XK}
theorem want_ {tb tx ty : TE} {σ : L2.St} {b : Bool} {x y : V} (hb : Ev tb σ H (.bl b)) (hx : Ev tx σ H x) (hy : Ev ty σ H y) (q1 : b = true → ∀ H1, Ex H H1 → Q .non H1) (q2 : b = false → ∀ d H', Ex H H' → E (.ref (cNoMap K)) (some d) H') :
    tCallS (sp_want K) (fun _ => E) (tCons tb (tCons tx (tCons ty tNil))) σ H Q :=
  hb H (Evl.Ex.refl _) _ fun H1 e1 => hx H1 e1 _ fun H2 e2 => hy H2 (e1.trans e2) _ fun H3 e3 => ⟨b, x, y, rfl, fun h => q1 h H3 ((e1.trans e2).trans e3), fun h d H' e => q2 h d H' (((e1.trans e2).trans e3).trans e)⟩
theorem ev_isn {te : TE} {σ : L2.St} {z : Str} (h : Ev te σ H (.str z)) (hz : z.length ≤ 5000) {f : L2.St → XK} : Ev (tCallS (sp_is_name K) f (tCons te tNil)) σ H (.bl (isName z)) :=
  ev_cS (ea_cons h ea_nil) fun H1 e Q q => ⟨z, rfl, hz, q⟩
theorem ev_isL {te : TE} {σ : L2.St} {a : Addr} {xs : List V} (h : Ev te σ H (.ref a)) (ha : H a = some (.lst xs)) : Ev (tCB (rIsi K) (tCons te (tCons (tC (.ty "list")) tNil))) σ H (.bl true) :=
  ev_isi h ev_c (.ty "list") (fun H1 e => .base (.lst (e _ _ ha))) (kit_ty (by decide +kernel))
theorem ev_isT {te : TE} {σ : L2.St} {a : Addr} {xs : List V} (h : Ev te σ H (.ref a)) (ha : H a = some (.tup xs)) : Ev (tCB (rIsi K) (tCons te (tCons (tC (.ty "tuple")) tNil))) σ H (.bl true) :=
  ev_isi h ev_c (.ty "tuple") (fun H1 e => .base (.tup (e _ _ ha))) (kit_ty (by decide +kernel))
theorem sv_at {l : List Str} {i : Nat} {x : V} (h : (SV l)[i]? = some x) : ∃ z, l[i]? = some z ∧ x = .str z := by
  rw [List.getElem?_map] at h
  cases e : l[i]? with
  | none => rw [e] at h; cases h
  | some z => rw [e] at h; exact ⟨z, rfl, (Option.some.inj h).symm⟩
theorem pure_want_hosts (T : Tx K mg) (h : sp_want_hosts K vs H Q E) : t_want_hosts K E { nx := fun _ H' => Q .non H', rt := Q } (start N_want_hosts vs) H := by
  obtain ⟨a, hs, rfl, ha, ⟨hl, hz⟩, k1, k2⟩ := h
  have k2' : ∀ {b : Bool}, (b = true → okHosts hs = false) → b = true → ∀ d H', Ex H H' → E (.ref (cNoMap K)) (some d) H' := fun h1 h2 => k2 (h1 h2)
  unfold t_want_hosts; walk_at "o"
  refine want_ (ev_isL (ev_var rfl) ha) ev_c ev_c (fun _ H1 e1 => ?_) (fun h => by cases h)
  refine for_enum (a := a) (xs := SV hs) (v_var rfl) (fun i σ' H' => ∃ v1 v2, σ' = [some (.ref a), v1, v2] ∧ Ex H H' ∧ (hs.take i).all isName = true ∧ (hs.take i).Nodup) ⟨none, none, rfl, e1, rfl, List.nodup_nil⟩
    (fun i σ' H' _ ⟨_, _, _, e, _⟩ => sq_of (e _ _ ha)) ?_ ?_
  · rintro i x σ' H2 hx ⟨v1, v2, rfl, e2, hn, hd⟩ T0 hT
    obtain ⟨z, hzi, rfl⟩ := sv_at hx
    have hm : z ∈ hs := List.mem_of_getElem? hzi
    have hi : i < hs.length := (List.getElem?_eq_some_iff.mp hzi).1
    have e3 : Ex H (upd H2 T0 (.tup [.int (i : Int), .str z])) := e2.trans (Evl.Ex.new hT)
    refine want_ (ev_isn (ev_var rfl) (hz z hm)) ev_c (ev_strI (ev_var rfl) (by omega)) (fun hz1 H4 e4 => ?_) (fun hf d H' e => k2 ?_ d H' (e3.trans e))
    · refine want_ (ev_niLn (ev_var rfl) (by rw [show SV (hs.take i) = (SV hs).take i from List.map_take]; exact el_sliceTo (ev_var rfl) (ev_var rfl) (sq_of ((e3.trans e4) _ _ ha)))) ev_c (ev_var rfl) (fun h5 H5 e5 => ?_) (fun h5 d H' e => k2 ?_ d H' ((e3.trans e4).trans e))
      · have nm : z ∉ hs.take i := by simpa using h5
        refine ⟨_, _, rfl, (e3.trans e4).trans e5, ?_, ?_⟩
        · rw [take_succ_of hzi, List.all_append, hn]
          simp [hz1]
        · rw [take_succ_of hzi]
          exact List.nodup_append.mpr ⟨hd, by simp, fun u hu w hw => by
            rw [List.mem_singleton] at hw
            rintro rfl
            rw [hw] at hu
            exact nm hu⟩
      · have hm2 : z ∈ hs.take i := by simpa using h5
        have nd : ¬ hs.Nodup := fun nd => by
          rw [← List.take_append_drop i hs] at nd
          have h7 : z ∈ hs.drop i := by
            rw [List.drop_eq_getElem_cons hi]
            have h8 : hs[i] = z := (List.getElem?_eq_some_iff.mp hzi).2
            rw [h8]
            exact List.mem_cons_self
          exact (List.nodup_append.mp nd).2.2 z hm2 z h7 rfl
        unfold okHosts
        rw [decide_eq_false nd]
        simp
    · have h9 : hs.all isName = false := List.all_eq_false.mpr ⟨z, hm, by rw [hf]; exact Bool.false_ne_true⟩
      unfold okHosts
      rw [h9]
      rfl
  · rintro σ' H2 ⟨v1, v2, rfl, e2, hn, hd⟩
    have hlen : (SV hs).length = hs.length := List.length_map _
    rw [hlen, List.take_length] at hn hd
    refine want_ (ev_chain ev_c (ev_lenL (ev_var rfl) (sq_of (e2 _ _ ha))) ev_c) ev_c ev_c (fun h3 H3 e3 => k1 ?_ H3 (e2.trans e3)) (fun h3 d H3 e3 => k2 ?_ d H3 (e2.trans e3))
    · rw [hlen] at h3
      simp only [Bool.and_eq_true, decide_eq_true_eq] at h3
      unfold okHosts
      rw [hn, decide_eq_true hd, decide_eq_true (by omega), decide_eq_true (by omega)]
      rfl
    · rw [hlen] at h3
      unfold okHosts
      cases h4 : decide (2 ≤ hs.length) with
      | false => simp
      | true =>
        cases h5 : decide (hs.length ≤ 6) with
        | false => simp
        | true =>
          have h6 := of_decide_eq_true h4
          have h7 := of_decide_eq_true h5
          rw [decide_eq_true (by omega), decide_eq_true (by omega)] at h3
          cases h3
end
end W93
namespace W93
open PySem PySem.Spec PyProof.Rows L2 LiI WB
open Evl hiding Ex
local macro_rules | `(tactic| walk_at "o") => `(tactic| dsimp only [tSeq, tIfS, tNext, tRet, tRetN, tDrop, tAsg, gName, tNever])
theorem okRows_app (hs : List Str) : ∀ (l m : List (List Str)) (seen : List Str), okRows hs seen (l ++ m) = (okRows hs seen l && okRows hs (seen ++ l.map (·.headD "")) m)
  | [], m, seen => by simp [okRows]
  | r :: l, m, seen => by
    have ih := okRows_app hs l m (seen ++ [r.headD ""])
    show (okRow hs seen r && okRows hs (seen ++ [r.headD ""]) (l ++ m)) = _
    rw [ih]
    show _ = ((okRow hs seen r && okRows hs (seen ++ [r.headD ""]) l) && _)
    rw [Bool.and_assoc, List.append_assoc]
    rfl
theorem okRows_take {hs seen : List Str} {rows : List (List Str)} {i : Nat} {r : List Str} (h : rows[i]? = some r) : okRows hs seen (rows.take (i + 1)) = (okRows hs seen (rows.take i) && okRow hs (seen ++ (rows.take i).map (·.headD "")) r) := by
  rw [take_succ_of h, okRows_app]
  show (_ && (okRow hs _ r && true)) = _
  rw [Bool.and_true]
theorem okRow2 {hs seen : List Str} {n h : Str} : okRow hs seen [n, h] = (isName n && decide (n ∉ seen) && decide (h ∈ hs)) := rfl
theorem okRows_bad {hs seen : List Str} {rows : List (List Str)} {i : Nat} {r : List Str} (h : rows[i]? = some r) (b : okRow hs (seen ++ (rows.take i).map (·.headD "")) r = false) : okRows hs seen rows = false := by
  have e := okRows_app hs (rows.take (i + 1)) (rows.drop (i + 1)) seen
  rw [List.take_append_drop, okRows_take h, b, Bool.and_false, Bool.false_and] at e
  exact e
section
variable {K : Fr} {mg : Str → Option Value} {vs : List V} {H : Hp} {Q : VK} {E : XK}
theorem ev_andV2 {ta tb : TE} {σ : L2.St} {a b : Bool} (h1 : Ev ta σ H (.bl a)) (h2 : a = true → Ev tb σ H (.bl b)) : Ev (tAndV ta tb) σ H (.bl (a && b)) := ev_andV h1 h2
theorem pure_want_walkers (T : Tx K mg) (h : sp_want_walkers K vs H Q E) : t_want_walkers K E { nx := fun _ H' => Q .non H', rt := Q } (start N_want_walkers vs) H := by
  obtain ⟨a, hs, b, rows, rfl, ha, ⟨ps, hb, hp⟩, ⟨hl, hz⟩, ⟨hrl, hrs⟩, k1, k2⟩ := h
  have bad : okRows hs hs rows = false → okWalkers hs rows = false := fun e => by unfold okWalkers; rw [e]; rfl
  have plen : ps.length = rows.length := Paired.length hp
  unfold t_want_walkers; walk_at "o"
  refine want_ (ev_isL (ev_var rfl) hb) ev_c ev_c (fun _ H1 e1 => ?_) (fun h => by cases h)
  refine el_listSq (ev_var rfl) (sq_of (e1 _ _ ha)) H1 (Evl.Ex.refl _) _ fun nm H2 hn2 e2 hnm => ?_
  have nn : H nm = none := fresh_back e1 hn2
  refine for_enum (a := b) (xs := ps.map V.ref) (v_var rfl) (fun i σ' H' => ∃ v1 v2 v3 v4, σ' = [some (.ref a), some (.ref b), some (.ref nm), v1, v2, v3, v4] ∧ Ex H H' ∧ H' nm = some (.lst (SV (hs ++ (rows.take i).map (·.headD "")))) ∧ okRows hs hs (rows.take i) = true)
    ⟨none, none, none, none, rfl, e1.trans e2, by rw [hnm, List.take_zero]; simp, rfl⟩ (fun i σ' H' _ ⟨_, _, _, _, _, e, _⟩ => sq_of (e _ _ hb)) ?_ ?_
  · rintro i x σ' H3 hx ⟨v1, v2, v3, v4, rfl, e3, hnm3, hok⟩ T0 hT
    rw [List.getElem?_map] at hx
    obtain ⟨p, hpi, rfl⟩ : ∃ p, ps[i]? = some p ∧ x = .ref p := by
      cases e : ps[i]? with
      | none => rw [e] at hx; cases hx
      | some z => rw [e] at hx; exact ⟨z, rfl, (Option.some.inj hx).symm⟩
    obtain ⟨r, hri, hr⟩ := L2.paired_get hp hpi
    have hi : i < rows.length := (List.getElem?_eq_some_iff.mp hri).1
    have hrm : r ∈ rows := List.mem_of_getElem? hri
    obtain ⟨hr1, hr2⟩ := hrs r hrm
    have e4 : Ex H (upd H3 T0 (.tup [.int (i : Int), .ref p])) := e3.trans (Evl.Ex.new hT)
    have hnm4 : (upd H3 T0 (.tup [.int (i : Int), .ref p])) nm = some (.lst (SV (hs ++ (rows.take i).map (·.headD "")))) := by rw [upd_ne (ne_of_none hnm3 hT)]; exact hnm3
    generalize upd H3 T0 (.tup [.int (i : Int), .ref p]) = H4 at e4 hnm4
    have blen : ((SV r).length : Int) = (r.length : Int) := by rw [List.length_map]
    refine want_ (ev_andV2 (ev_isT (ev_var rfl) (e4 _ _ hr)) fun _ => ev_eqI (ev_lenT (ev_var rfl) (st_of (e4 _ _ hr))) ev_c) ev_c (ev_strI (ev_var rfl) (by omega)) (fun h2 H5 e5 => ?_) (fun h2 d H' e => k2 (bad (okRows_bad hri ?_)) d H' (e4.trans e))
    · have h2' : r.length = 2 := by
        rw [Bool.true_and, blen] at h2
        have := of_decide_eq_true h2
        omega
      obtain ⟨n, hm, rfl⟩ : ∃ n h, r = [n, h] := by
        match r, h2' with
        | [n, h], _ => exact ⟨n, h, rfl⟩
      have e45 := e4.trans e5
      refine ⟨_, rfl, p, SV [n, hm], rfl, st_of (e45 _ _ hr), rfl, _, _, rfl, _, _, rfl, rfl, ?_⟩
      walk_at "o"
      refine want_ (ev_isn (ev_var rfl) (hr2 n (by simp))) ev_c (ev_strI (ev_var rfl) (by omega)) (fun hn1 H6 e6 => ?_) (fun hf d H' e => k2 (bad (okRows_bad hri (by rw [okRow2, hf]; rfl))) d H' (e45.trans e))
      have e46 := e45.trans e6
      have hnm6 := e6 _ _ (e5 _ _ hnm4)
      refine want_ (ev_niL (ev_var rfl) (ev_var rfl) (sq_of hnm6)) ev_c (ev_var rfl) (fun hn2 H7 e7 => ?_) (fun hf d H' e => k2 (bad (okRows_bad hri ?_)) d H' (e46.trans e))
      · have hn2' : n ∉ hs ++ (rows.take i).map (·.headD "") := by
          intro hm
          rw [decide_eq_true hm] at hn2
          cases hn2
        have e47 := e46.trans e7
        refine want_ (ev_inL (ev_var rfl) (ev_var rfl) (sq_of (e47 _ _ ha))) ev_c (ev_var rfl) (fun hh H8 e8 => ?_) (fun hf d H' e => k2 (bad (okRows_bad hri ?_)) d H' (e47.trans e))
        · have hh' : hm ∈ hs := of_decide_eq_true hh
          have hnm8 := e8 _ _ (e7 _ _ hnm6)
          refine ⟨_, rfl, .inl ⟨rfl, _, sq_of hnm8⟩, _, rfl, nm, _, _, rfl, rfl, hnm8, small_lt (by simp; omega), ?_⟩
          refine ⟨_, _, _, _, rfl, Evl.Ex.mut (e47.trans e8) nn, ?_, ?_⟩
          · rw [upd_same, take_succ_of hri, List.map_append]
            simp
          · rw [okRows_take hri, hok]
            rw [okRow2, hn1, decide_eq_true hn2', decide_eq_true hh']
            rfl
        · rw [okRow2, hf]
          simp
      · have hm2 : n ∈ hs ++ (rows.take i).map (·.headD "") := by
          cases h : decide (n ∈ hs ++ (rows.take i).map (·.headD "")) with
          | true => exact of_decide_eq_true h
          | false => rw [h] at hf; cases hf
        rw [okRow2, decide_eq_false (fun z => z hm2)]
        simp
    · rw [Bool.true_and, blen] at h2
      have h3 := of_decide_eq_false h2
      match r, h3 with
      | [], _ => rfl
      | [_], _ => rfl
      | [_, _], h3 => exact absurd rfl h3
      | _ :: _ :: _ :: _, _ => rfl
  · rintro σ' H3 ⟨v1, v2, v3, v4, rfl, e3, hnm3, hok⟩
    have hlen : (ps.map V.ref).length = rows.length := by rw [List.length_map]; exact plen
    rw [hlen, List.take_length] at hok
    refine want_ (ev_chain ev_c (ev_lenL (ev_var rfl) (sq_of (e3 _ _ hb))) ev_c) ev_c ev_c (fun h3 H4 e4 => k1 ?_ H4 (e3.trans e4)) (fun h3 d H4 e4 => k2 ?_ d H4 (e3.trans e4))
    · rw [hlen] at h3
      simp only [Bool.and_eq_true, decide_eq_true_eq] at h3
      unfold okWalkers
      rw [hok, decide_eq_true (by omega), decide_eq_true (by omega)]
      rfl
    · rw [hlen] at h3
      unfold okWalkers
      cases h4 : decide (1 ≤ rows.length) with
      | false => simp
      | true =>
        cases h5 : decide (rows.length ≤ 5) with
        | false => simp
        | true =>
          have h6 := of_decide_eq_true h4
          have h7 := of_decide_eq_true h5
          rw [decide_eq_true (by omega), decide_eq_true (by omega)] at h3
          cases h3
end
end W93
namespace W93
open PySem PySem.Spec PyProof.Rows L2 LiI WB
open Evl hiding Ex
local macro_rules | `(tactic| walk_at "o") => `(tactic| dsimp only [tSeq, tIfS, tNext, tRet, tRetN, tDrop, tAsg, gName, tNever])
theorem okRows_all {hs : List Str} : ∀ {rows : List (List Str)} {seen : List Str}, okRows hs seen rows = true → (∀ r ∈ rows, ∃ n h, r = [n, h] ∧ isName n = true ∧ h ∈ hs) ∧ (seen.Nodup → (seen ++ rows.map (·.headD "")).Nodup)
  | [], seen, _ => by
    refine ⟨fun r hr => ?_, fun h => ?_⟩
    · cases hr
    · rw [List.map_nil, List.append_nil]; exact h
  | r :: rows, seen, h => by
    obtain ⟨h1, h2⟩ := Bool.and_eq_true_iff.mp (show (okRow hs seen r && okRows hs (seen ++ [r.headD ""]) rows) = true from h)
    obtain ⟨i1, i2⟩ := okRows_all h2
    obtain ⟨n, hm, rfl⟩ : ∃ n hm, r = [n, hm] := by
      match r, h1 with
      | [n, hm], _ => exact ⟨n, hm, rfl⟩
    rw [okRow2] at h1
    simp only [Bool.and_eq_true, decide_eq_true_eq] at h1
    obtain ⟨⟨a1, a2⟩, a3⟩ := h1
    refine ⟨fun r' hr => ?_, fun nd => ?_⟩
    · rcases List.mem_cons.mp hr with e | hr
      · exact ⟨n, hm, e, a1, a3⟩
      · exact i1 r' hr
    · have z := i2 (List.nodup_append.mpr ⟨nd, by simp, fun u hu w hw => by
        have hw2 : w = n := by simpa using hw
        rintro rfl
        rw [hw2] at hu
        exact a2 hu⟩)
      rw [List.append_assoc] at z
      exact z
theorem okMap_of {hs : List Str} {rows : List (List Str)} (h : okMap hs rows = true) : (∀ z ∈ hs, isName z = true) ∧ hs.Nodup ∧ 2 ≤ hs.length ∧ hs.length ≤ 6 ∧ (∀ r ∈ rows, ∃ n h, r = [n, h] ∧ isName n = true ∧ h ∈ hs) ∧ (hs ++ rows.map (·.headD "")).Nodup ∧ 1 ≤ rows.length ∧ rows.length ≤ 5 := by
  unfold okMap okHosts okWalkers at h
  simp only [Bool.and_eq_true, decide_eq_true_eq, List.all_eq_true] at h
  obtain ⟨⟨⟨⟨h1, h2⟩, h3⟩, h4⟩, ⟨h5, h6⟩, h7⟩ := h
  obtain ⟨i1, i2⟩ := okRows_all h5
  exact ⟨h1, h2, h3, h4, i1, i2 h2, h6, h7⟩
theorem pairs_fst (rows : List (List Str)) : (pairs rows).map (·.1) = rows.map (·.headD "") := by unfold pairs; rw [List.map_map]; rfl
theorem okMap_keys {hs : List Str} {rows : List (List Str)} (h : okMap hs rows = true) : ((pairs rows).map (·.1)).Nodup := by
  rw [pairs_fst]
  exact (List.nodup_append.mp (okMap_of h).2.2.2.2.2.1).2.1
theorem dkv_keys {ws : List (Str × Str)} (h : (ws.map (·.1)).Nodup) : ((dkv ws).map (·.1)).Nodup := by
  unfold dkv
  rw [List.map_map]
  have e : (ws.map ((·.1) ∘ fun w => ((Sum.inr w.1 : Key), V.str w.2))) = (ws.map (·.1)).map (fun z => (Sum.inr z : Key)) := by rw [List.map_map]; rfl
  rw [e]
  exact List.Pairwise.map _ (fun a b hab h => hab (Sum.inr.inj h)) h
section
variable {K : Fr} {mg : Str → Option Value} {vs : List V} {H : Hp} {Q : VK} {E : XK}
theorem mapF_hosts {l d : Addr} : (mapF l d).lookup ("all_hosts" : Str) = some (.ref l) := by
  unfold mapF
  rw [lookup_putF, if_neg (by decide +kernel), lookup_putF, if_pos rfl]
theorem mapF_homes {l d : Addr} : (mapF l d).lookup ("homes" : Str) = some (.ref d) := by
  unfold mapF
  rw [lookup_putF, if_pos rfl]
theorem mapF_no {l d : Addr} {m : Str} (h1 : ¬ m = "homes") (h2 : ¬ m = "all_hosts") : (mapF l d).lookup m = none := by
  unfold mapF
  rw [lookup_putF, if_neg h1, lookup_putF, if_neg h2]
  rfl
theorem MapAt.mono {H H' : Hp} {x : Addr} {hs : List Str} {ws : List (Str × Str)} (e : Ex H H') (h : MapAt K H x hs ws) : MapAt K H' x hs ws := by
  obtain ⟨dx, l, d, h1, h2, h3⟩ := h
  exact ⟨dx, l, d, e _ _ h1, e _ _ h2, e _ _ h3⟩
theorem RowsAt.mono {H H' : Hp} {b : Addr} {rows : List (List Str)} (e : Ex H H') (h : RowsAt H b rows) : RowsAt H' b rows := by
  obtain ⟨ps, h1, h2⟩ := h
  exact ⟨ps, e _ _ h1, L2.Paired.mapP h2 fun p r z => e _ _ z⟩
theorem pure_Map_init (T : Tx K mg) (h : sp_Map_init K vs H Q E) : t_Map_init K E { nx := fun _ H' => Q .non H', rt := Q } (start N_Map_init vs) H := by
  obtain ⟨x, dx, a, hs, b, rows, rfl, hx, ha, hb, hsm, hrm, k1, k2⟩ := h
  unfold t_Map_init; walk_at "o"
  refine ⟨_, rfl, a, hs, rfl, ha, hsm, fun ok1 H1 e1 => ?_, fun bad d H' e => k2 (by unfold okMap; rw [bad]; rfl) d H' (.of e)⟩
  refine ⟨_, rfl, _, rfl, a, hs, b, rows, rfl, e1 _ _ ha, hb.mono e1, hsm, hrm, fun ok2 H2 e2 => ?_, fun bad d H' e => k2 (by unfold okMap; rw [bad, Bool.and_false]) d H' (.of (e1.trans e))⟩
  have ok : okMap hs rows = true := by unfold okMap; rw [ok1, ok2]; rfl
  have e12 := e1.trans e2
  refine ⟨_, rfl, a, SV hs, rfl, .inl (sq_of (e12 _ _ ha)), fun l hl => ?_⟩
  have xl : x ≠ l := ex_ne hx e12 hl
  refine ⟨_, rfl, x, _, dx, [], rfl, by rw [upd_ne xl]; exact e12 _ _ hx, T.c_Map, T.n_Map_all_hosts, (by show 0 < 1000; decide), ?_⟩
  have e3 : ExP x H (upd (upd H2 l (.lst (SV hs))) x (.ins (cMap K) dx (putF "all_hosts" (.ref l) []))) := (ExP.of (e12.trans (Evl.Ex.new hl))).tu
  obtain ⟨ps, hps, hp⟩ := hb
  have bx : b ≠ x := ne_of hps hx (by intro z; cases z)
  have h3 : ∀ r ∈ rows, ∃ n h, r = [n, h] := fun r hr => by
    obtain ⟨n, h, e, _⟩ := (okMap_of ok).2.2.2.2.1 r hr
    exact ⟨n, h, e⟩
  have px : Paired (fun p kv => SqT K (upd (upd H2 l (.lst (SV hs))) x (.ins (cMap K) dx (putF "all_hosts" (.ref l) []))) p [kV kv.1, kv.2]) ps (dkv (pairs rows)) := by
    clear hps ok k1 k2 ok1 ok2 hrm
    induction hp with
    | nil => exact .nil
    | @cons p r ps rows h t ih =>
      obtain ⟨n, hm, rfl⟩ := h3 r (by simp)
      exact .cons (st_of (e3 _ _ (ne_of h hx (by intro z; cases z)) h)) (ih fun r hr => h3 r (by simp [hr]))
  refine ⟨_, rfl, b, ps, _, rfl, sq_of (e3 _ _ bx hps), px, fun d hd => ?_⟩
  rw [mergeK_nil (dkv_keys (okMap_keys ok))]
  have xd : x ≠ d := ne_of_none upd_same hd
  refine ⟨_, rfl, x, _, dx, _, rfl, by rw [upd_ne xd, upd_same], T.c_Map, T.n_Map_homes, (by show 1 < 1000; decide), ?_⟩
  have hl3 : (upd (upd H2 l (.lst (SV hs))) x (.ins (cMap K) dx (putF "all_hosts" (.ref l) []))) l = some (.lst (SV hs)) := by rw [upd_ne (Ne.symm xl), upd_same]
  refine k1 ok _ ⟨dx, l, d, upd_same, ?_, ?_⟩ (ExP.tu (e3.tx (Evl.Ex.new hd)))
  · rw [upd_ne (Ne.symm xl), upd_ne (ne_of_none hl3 hd)]
    exact hl3
  · rw [upd_ne (Ne.symm xd), upd_same]
theorem pure_Map_hosts (T : Tx K mg) (h : sp_Map_hosts K vs H Q E) : t_Map_hosts K { nx := fun _ H' => Q .non H', rt := Q } (start N_Map_hosts vs) H := by
  obtain ⟨x, hs, ws, rfl, ⟨dx, l, d, hx, hl, hd⟩, k⟩ := h
  exact el_listSq (ev_fld (ev_var rfl) hx T.c_Map T.n_Map_all_hosts mapF_hosts) (sq_of hl) H (Evl.Ex.refl _) _ fun p H2 hp e h => k p H2 hp e h
theorem pure_Map_walkers (T : Tx K mg) (h : sp_Map_walkers K vs H Q E) : t_Map_walkers K { nx := fun _ H' => Q .non H', rt := Q } (start N_Map_walkers vs) H := by
  obtain ⟨x, hs, ws, rfl, ⟨dx, l, d, hx, hl, hd⟩, k⟩ := h
  refine ⟨_, rfl, x, _, dx, _, _, rfl, hx, T.c_Map, T.n_Map_homes, mapF_homes, d, _, rfl, hd, fun p hp => k p _ hp (Evl.Ex.new hp) ?_⟩
  rw [upd_same]
  unfold dkv SV
  rw [List.map_map, List.map_map]
  rfl
theorem el_hosts (T : Tx K mg) {σ : L2.St} {to : TE} {f : L2.St → XK} {x : Addr} {hs : List Str} {ws : List (Str × Str)} (ho : Ev to σ H (.ref x)) (m : MapAt K H x hs ws) : EvL (tMethS (cMap K) "hosts" (sp_Map_hosts K) f to tNil) σ H (SV hs) := by
  obtain ⟨dx, l, d, hx, hl, hd⟩ := m
  exact el_mS ho hx (mapF_no (by decide +kernel) (by decide +kernel)) ea_nil fun H1 e Q q => ⟨x, hs, ws, rfl, ⟨dx, l, d, e _ _ hx, e _ _ hl, e _ _ hd⟩, q⟩
theorem el_walkers (T : Tx K mg) {σ : L2.St} {to : TE} {f : L2.St → XK} {x : Addr} {hs : List Str} {ws : List (Str × Str)} (ho : Ev to σ H (.ref x)) (m : MapAt K H x hs ws) : EvL (tMethS (cMap K) "walkers" (sp_Map_walkers K) f to tNil) σ H (SV (ws.map (·.1))) := by
  obtain ⟨dx, l, d, hx, hl, hd⟩ := m
  exact el_mS ho hx (mapF_no (by decide +kernel) (by decide +kernel)) ea_nil fun H1 e Q q => ⟨x, hs, ws, rfl, ⟨dx, l, d, e _ _ hx, e _ _ hl, e _ _ hd⟩, q⟩
theorem pure_Map_has_walker (T : Tx K mg) (h : sp_Map_has_walker K vs H Q E) : t_Map_has_walker K { nx := fun _ H' => Q .non H', rt := Q } (start N_Map_has_walker vs) H := by
  obtain ⟨x, hs, ws, n, rfl, m, k⟩ := h
  exact ev_inLn (ev_var rfl) (el_walkers T (ev_var rfl) m) H (Evl.Ex.refl _) _ k
theorem pure_Map_want_walker (T : Tx K mg) (h : sp_Map_want_walker K vs H Q E) : t_Map_want_walker K { nx := fun _ H' => Q .non H', rt := Q } (start N_Map_want_walker vs) H := by
  obtain ⟨x, hs, ws, n, rfl, m, hn, k⟩ := h
  obtain ⟨dx, l, d, hx, hl, hd⟩ := id m
  refine ⟨_, rfl, x, dx, _, rfl, hx, mapF_no (by decide +kernel) (by decide +kernel), _, rfl, x, hs, ws, n, rfl, m, fun H' e => ⟨_, rfl, ?_⟩⟩
  rw [decide_eq_true hn]
  exact iteF (k H' e)
theorem pure_Map_home (T : Tx K mg) (h : sp_Map_home K vs H Q E) : t_Map_home K { nx := fun _ H' => Q .non H', rt := Q } (start N_Map_home vs) H := by
  obtain ⟨x, hs, ws, n, hm, rfl, m, hn, nd, k⟩ := h
  obtain ⟨dx, l, d, hx, hl, hd⟩ := id m
  refine ⟨_, rfl, x, dx, _, rfl, hx, mapF_no (by decide +kernel) (by decide +kernel), _, rfl, x, hs, ws, n, rfl, m, List.mem_map.mpr ⟨_, hn, rfl⟩, fun H' e => ?_⟩
  refine ⟨_, rfl, x, _, dx, _, _, rfl, e _ _ hx, T.c_Map, T.n_Map_homes, mapF_homes, _, rfl, d, _, rfl, ?_, k H' e⟩
  have g := DGet.k (k := Sum.inr n) (e _ _ hd)
  rw [valV_mem (dkv_keys nd) (List.mem_map.mpr ⟨_, hn, rfl⟩)] at g
  exact g
theorem ev_home (T : Tx K mg) {σ : L2.St} {to tn : TE} {f : L2.St → XK} {x : Addr} {hs : List Str} {ws : List (Str × Str)} {n h : Str} (ho : Ev to σ H (.ref x)) (hn : Ev tn σ H (.str n)) (m : MapAt K H x hs ws) (hm : (n, h) ∈ ws) (nd : (ws.map (·.1)).Nodup) :
    Ev (tMethS (cMap K) "home" (sp_Map_home K) f to (tCons tn tNil)) σ H (.str h) := by
  obtain ⟨dx, l, d, hx, hl, hd⟩ := m
  exact ev_mS ho hx (mapF_no (by decide +kernel) (by decide +kernel)) (ea_cons hn ea_nil) fun H1 e Q q => ⟨x, hs, ws, n, h, rfl, ⟨dx, l, d, e _ _ hx, e _ _ hl, e _ _ hd⟩, hm, nd, q⟩
end
end W93
namespace W93
open PySem PySem.Spec PyProof.Rows L2 LiI WB
open Evl hiding Ex
local macro_rules | `(tactic| walk_at "o") => `(tactic| dsimp only [tSeq, tIfS, tNext, tRet, tRetN, tDrop, tAsg, gName, tNever])
def dS (l : List Str) : List PyData := l.map PyData.str
def dW (ws : List (Str × Str)) : List PyData := ws.map fun w => .tuple [.str w.1, .str w.2]
theorem lay_dS : ∀ l : List Str, (∀ z ∈ l, PyData.strOk z = true) → PyData.canLayAll0 (dS l) = true
  | [], _ => rfl
  | z :: l, h => by
    show PyData.canLayAll0 (PyData.str z :: dS l) = true
    rw [PyData.canLayAll0, lay_dS l fun y hy => h y (by simp [hy])]; simp [PyData.canLay0, h z]
theorem dep_dS : ∀ l : List Str, PyData.depthAll (dS l) ≤ 1
  | [] => by simp [dS, PyData.depthAll]
  | z :: l => by
    have := dep_dS l
    show PyData.depthAll (PyData.str z :: dS l) ≤ 1
    simp only [PyData.depthAll, PyData.depth]
    omega
theorem lay_dW : ∀ l : List (Str × Str), (∀ w ∈ l, PyData.strOk w.1 = true ∧ PyData.strOk w.2 = true) → PyData.canLayAll0 (dW l) = true
  | [], _ => rfl
  | z :: l, h => by
    have h0 := h z (by simp)
    show PyData.canLayAll0 (PyData.tuple [.str z.1, .str z.2] :: dW l) = true
    rw [PyData.canLayAll0, lay_dW l fun y hy => h y (by simp [hy])]; simp [PyData.canLay0, PyData.canLayAll0, h0]
theorem dep_dW : ∀ l : List (Str × Str), PyData.depthAll (dW l) ≤ 3
  | [] => by simp [dW, PyData.depthAll]
  | z :: l => by
    have := dep_dW l
    show PyData.depthAll (PyData.tuple [.str z.1, .str z.2] :: dW l) ≤ 3
    simp only [PyData.depthAll, PyData.depth]
    omega
theorem sh_dS {l : List Str} (h : ∀ z ∈ l, PyData.strOk z = true) : SeqAt.shaped (.list (dS l)) = true := by
  have := dep_dS l
  unfold SeqAt.shaped
  rw [Bool.and_eq_true]
  exact ⟨lay_dS l h, decide_eq_true (by simp only [PyData.depth]; omega)⟩
theorem sh_dW {l : List (Str × Str)} (h : ∀ w ∈ l, PyData.strOk w.1 = true ∧ PyData.strOk w.2 = true) : SeqAt.shaped (.list (dW l)) = true := by
  have := dep_dW l
  unfold SeqAt.shaped
  rw [Bool.and_eq_true]
  exact ⟨lay_dW l h, decide_eq_true (by simp only [PyData.depth]; omega)⟩
section
variable {K : Fr} {mg : Str → Option Value} {vs : List V} {H : Hp} {Q : VK} {E : XK}
theorem dp_SV : ∀ l : List Str, DpAll K H (SV l) (dS l)
  | [] => .nil
  | z :: l => .cons (.str z) (dp_SV l)
theorem dp_W : ∀ {ts : List Addr} {ws : List (Str × Str)}, Paired (fun (t : Addr) (q : Key × V) => H t = some (.tup [kV q.1, q.2])) ts (dkv ws) → DpAll K H (ts.map V.ref) (dW ws)
  | [], [], _ => .nil
  | t :: ts, w :: ws, .cons h r => .cons (.tup (st_of h) (.cons (.str _) (.cons (.str _) .nil))) (dp_W r)
theorem pure_Map_eq (T : Tx K mg) (h : sp_Map_eq K vs H Q E) : t_Map_eq K { nx := fun _ H' => Q .non H', rt := Q } (start N_Map_eq vs) H := by
  obtain ⟨a, b, rfl, ⟨hs, ws, ma, mb, l1, l2⟩, k⟩ := h
  obtain ⟨dx, la, da, ha, hla, hda⟩ := ma
  obtain ⟨dy, lb, db, hb, hlb, hdb⟩ := mb
  unfold t_Map_eq; walk_at "o"
  refine isi_any (v_var rfl) v_c (.own (cMap K)) (.base (.ins hb T.c_Map T.w_Map.ha T.w_Map.hn T.w_Map.ht T.w_Map.hm)) T.q_map_map ⟨_, rfl, ?_⟩
  refine iteF ?_
  refine ⟨_, rfl, a, _, dx, _, _, rfl, ha, T.c_Map, T.n_Map_all_hosts, mapF_hosts, _, rfl, b, _, dy, _, _, rfl, hb, T.c_Map, T.n_Map_all_hosts, mapF_hosts, ?_⟩
  refine .inr ⟨_, _, .lst (sq_of hla) (dp_SV hs), .lst (sq_of hlb) (dp_SV hs), sh_dS l1, sh_dS l1, _, rfl, ?_⟩
  rw [SeqAt.eqv_refl _ (SeqAt.canLay_of_shaped (sh_dS l1))]
  refine iteT ?_
  refine ⟨_, rfl, a, _, dx, _, _, rfl, ha, T.c_Map, T.n_Map_homes, mapF_homes, da, _, rfl, hda, fun H1 p ts e1 hp hts hpt hp1 h1 => ?_⟩
  refine ⟨_, rfl, b, _, dy, _, _, rfl, e1 _ _ hb, T.c_Map, T.n_Map_homes, mapF_homes, db, _, rfl, e1 _ _ hdb, fun H2 p2 ts2 e2 hp2 hts2 hpt2 hp3 h2 => ?_⟩
  refine .inr ⟨_, _, .lst (sq_of (e2 _ _ hp1)) (dp_W (L2.Paired.mapP h1 fun _ _ z => e2 _ _ z)), .lst (sq_of hp3) (dp_W h2), sh_dW l2, sh_dW l2, ?_⟩
  rw [SeqAt.eqv_refl _ (SeqAt.canLay_of_shaped (sh_dW l2))]
  exact k H2 fun x o z => e2 _ _ (e1 _ _ z)
theorem ev_mapText (T : Tx K mg) {σ : L2.St} {tx : TE} {f : L2.St → XK} {x : Addr} {hs : List Str} {ws : List (Str × Str)} (hx : Ev tx σ H (.ref x)) (m : MapAt K H x hs ws) (nd : (ws.map (·.1)).Nodup) (sm : SmallM hs ws) :
    Ev (tCallS (sp_map_text K) f (tCons tx tNil)) σ H (.str (mapText hs ws)) := ev_cS (ea_cons hx ea_nil) fun H1 e Q q => ⟨x, hs, ws, rfl, m.mono e, nd, sm, q⟩
theorem home_of {ws : List (Str × Str)} (nd : (ws.map (·.1)).Nodup) : ∀ n ∈ ws.map (·.1), ∃ h, (n, h) ∈ ws := fun n hn => by
  obtain ⟨w, hw, rfl⟩ := List.mem_map.mp hn
  exact ⟨w.2, hw⟩
def homeOf (ws : List (Str × Str)) (n : Str) : Str := ((ws.find? fun w => w.1 == n).map (·.2)).getD ""
theorem homeOf_mem : ∀ {ws : List (Str × Str)} {w : Str × Str}, (ws.map (·.1)).Nodup → w ∈ ws → homeOf ws w.1 = w.2
  | [], _, _, h => by cases h
  | v :: ws, w, nd, h => by
    rw [List.map_cons, List.nodup_cons] at nd
    unfold homeOf
    rcases List.mem_cons.mp h with e | h
    · subst e
      rw [List.find?_cons_of_pos (by simp)]
      rfl
    · have ne : ¬ (v.1 == w.1) = true := fun e => nd.1 (List.mem_map.mpr ⟨w, h, (beq_iff_eq.mp e).symm⟩)
      rw [List.find?_cons_of_neg (by simpa using ne)]
      exact homeOf_mem nd.2 h
theorem sum_le {l : List Str} {n : Nat} (h : ∀ z ∈ l, z.length ≤ n) : (l.map (·.length)).sum ≤ l.length * n := by
  induction l with
  | nil => simp
  | cons z l ih =>
    have h1 := h z (by simp)
    have h2 := ih fun y hy => h y (by simp [hy])
    simp only [List.map_cons, List.sum_cons, List.length_cons, Nat.add_mul, Nat.one_mul]
    omega
def wtx (w : Str × Str) : Str := w.1 ++ ("@" : Str) ++ w.2
theorem wtx_len (w : Str × Str) : (wtx w).length = w.1.length + 1 + w.2.length := by
  unfold wtx
  rw [Str.length_append, Str.length_append]
  rfl
theorem pure_map_text (T : Tx K mg) (h : sp_map_text K vs H Q E) : t_map_text K { nx := fun _ H' => Q .non H', rt := Q } (start N_map_text vs) H := by
  obtain ⟨x, hs, ws, rfl, m, nd, ⟨s1, s2, s3, s4⟩, k⟩ := h
  unfold t_map_text; walk_at "o"
  have hl := lc_strE (K := K) (te := (tOp (rAddA K) (tOp (rAddA K) (tVar 2) (tC (.str "@"))) (tMethS (He.ga K "Map") "home" (sp_Map_home K) (fun _ => E0) (tVar 0) (tCons (tVar 2) tNil)))) (i := 2) (vs := [2]) (tt := tYes)
    (σ := [some (.ref x), none, none]) (H := H) (f := fun n => .str (n ++ ("@" : Str) ++ homeOf ws n)) (el_walkers T (f := fun _ => E0) (ev_var (i := 0) rfl) m) (fun _ => true) (by rw [List.length_map]; omega) (fun _ => rfl) (fun _ _ _ _ => et_yes) (fun n hn _ H1 e1 => by
      obtain ⟨w, hw, rfl⟩ := List.mem_map.mp hn
      rw [homeOf_mem nd hw]
      obtain ⟨q1, q2⟩ := s4 w hw
      refine ev_addS (ev_addS (ev_var rfl) ev_c (by show w.1.length + 1 ≤ _; omega)) (ev_home T (ev_var rfl) (ev_var rfl) (m.mono e1) hw nd) ?_
      rw [Str.length_append]
      show w.1.length + 1 + w.2.length ≤ _
      omega)
  refine hl H (Evl.Ex.refl _) _ fun p H1 hp e1 h1 => ?_
  have e9 : ((ws.map (·.1)).filter fun _ => true).map (fun n => V.str (n ++ ("@" : Str) ++ homeOf ws n)) = SV (ws.map wtx) := by
    have f1 : (ws.map (·.1)).filter (fun _ => true) = ws.map (·.1) := List.filter_eq_self.mpr fun _ _ => rfl
    rw [f1]
    unfold SV
    rw [List.map_map, List.map_map]
    refine List.map_congr_left fun w hw => ?_
    show V.str (w.1 ++ ("@" : Str) ++ homeOf ws w.1) = V.str (wtx w)
    rw [homeOf_mem nd hw]
    rfl
  rw [e9] at h1
  refine ev_joinL (l := hs ++ ws.map wtx) ev_c (by
    have := el_catLR (K := K) (σ := [some (.ref x), some (.ref p), none]) (el_hosts T (f := fun _ => E0) (ev_var (i := 0) rfl) (m.mono e1)) (ev_var (v := .ref p) (i := 1) rfl) h1 (by
      rw [List.length_map, List.length_map, List.length_map]; omega)
    unfold SV at this ⊢
    rw [List.map_append]
    exact this) ?_ H1 (Evl.Ex.refl _) _ fun H2 e2 => k H2 (e1.trans e2)
  have b1 := sum_le (l := hs) (n := 5000) s3
  have b2 := sum_le (l := ws.map wtx) (n := 10001) fun z hz => by
    obtain ⟨w, hw, rfl⟩ := List.mem_map.mp hz
    obtain ⟨q1, q2⟩ := s4 w hw
    rw [wtx_len]
    omega
  rw [List.length_map] at b2
  rw [List.map_append, List.sum_append, List.length_append, List.length_map]
  have l1 : (" " : Str).length = 1 := rfl
  rw [l1]
  have c1 : hs.length * 5000 ≤ 10 * 5000 := Nat.mul_le_mul_right _ s1
  have c2 : ws.length * 10001 ≤ 10 * 10001 := Nat.mul_le_mul_right _ s2
  omega
end
end W93
namespace W93
open PySem PySem.Spec PyProof.Rows L2 LiI WB
open Evl hiding Ex
local macro_rules | `(tactic| walk_at "o") => `(tactic| dsimp only [tSeq, tIfS, tNext, tRet, tRetN, tDrop, tAsg, gName, tNever])
theorem join_len (y : Str) : ∀ {l : List Str}, l ≠ [] → (Str.join y l).length + y.length = (l.map (·.length)).sum + l.length * y.length
  | [], h => absurd rfl h
  | [a], _ => by simp [PyProof.Rows.join_one]
  | a :: b :: r, _ => by
    have ih := join_len y (l := b :: r) (by simp)
    rw [PyProof.Rows.join_cons_cons, Str.length_append, Str.length_append]
    simp only [List.map_cons, List.sum_cons, List.length_cons, Nat.add_mul, Nat.one_mul] at ih ⊢
    omega
theorem mem_sum {l : List Str} {w : Str} (h : w ∈ l) : w.length ≤ (l.map (·.length)).sum := by
  induction l with
  | nil => cases h
  | cons a l ih =>
    rw [List.map_cons, List.sum_cons]
    rcases List.mem_cons.mp h with e | h
    · subst e; omega
    · have := ih h; omega
theorem split_len {z s : Str} (hs : s.length = 1) : (Txt.split z s).length ≤ z.length + 1 ∧ (∀ w ∈ Txt.split z s, w.length ≤ z.length) ∧ ((Txt.split z s).map (·.length)).sum ≤ z.length := by
  by_cases h : Txt.split z s = []
  · rw [h]
    refine ⟨by simp, fun w hw => ?_, by simp⟩
    cases hw
  · have j := join_len s h
    rw [StrLaws.join_split, hs] at j
    have : ((Txt.split z s).map (·.length)).sum ≤ z.length := by
      have h2 : 1 ≤ (Txt.split z s).length := by
        cases e : Txt.split z s with
        | nil => exact absurd e h
        | cons a l => simp
      omega
    refine ⟨by omega, fun w hw => ?_, this⟩
    have := mem_sum hw
    omega
theorem isName_len {z : Str} (h : isName z = true) : z.length ≤ 8 := by
  unfold isName isMade at h
  simp only [Bool.and_eq_true, decide_eq_true_eq] at h
  omega
theorem isName_ok {z : Str} (h : isName z = true) : PyData.strOk z = true := by
  unfold isName isMade at h
  simp only [Bool.and_eq_true, List.all_eq_true, decide_eq_true_eq] at h
  have h2 := h.2
  unfold PyData.strOk
  rw [← Array.all_toList, List.all_eq_true]
  intro c hc
  have h3 := h2 c hc
  have h4 : letters.cps.toList.all (fun c => decide (c < 0x110000)) = true := by decide +kernel
  exact List.all_eq_true.mp h4 c h3
theorem okMap_small {hs : List Str} {rows : List (List Str)} (h : okMap hs rows = true) : SmallM hs (pairs rows) := by
  obtain ⟨h1, h2, h3, h4, h5, h6, h7, h8⟩ := okMap_of h
  refine ⟨by omega, by unfold pairs; rw [List.length_map]; omega, fun z hz => by have := isName_len (h1 z hz); omega, fun w hw => ?_⟩
  unfold pairs at hw
  obtain ⟨r, hr, rfl⟩ := List.mem_map.mp hw
  obtain ⟨n, m, rfl, a1, a2⟩ := h5 r hr
  have l1 := isName_len a1
  have l2 := isName_len (h1 m a2)
  exact ⟨by show n.length ≤ _; omega, by show m.length ≤ _; omega⟩
theorem okMap_sound {hs : List Str} {rows : List (List Str)} (h : okMap hs rows = true) : SoundM hs (pairs rows) := by
  obtain ⟨h1, h2, h3, h4, h5, h6, h7, h8⟩ := okMap_of h
  refine ⟨fun z hz => isName_ok (h1 z hz), fun w hw => ?_⟩
  unfold pairs at hw
  obtain ⟨r, hr, rfl⟩ := List.mem_map.mp hw
  obtain ⟨n, m, rfl, a1, a2⟩ := h5 r hr
  exact ⟨isName_ok a1, isName_ok (h1 m a2)⟩
theorem small_words {z : Str} (hz : z.length ≤ 1000) : Small (wordsOf z) := by
  obtain ⟨h1, h2, _⟩ := split_len (z := z) (s := " ") rfl
  exact ⟨by unfold wordsOf; omega, fun w hw => by have := h2 w hw; omega⟩
theorem small_hosts {z : Str} (hz : z.length ≤ 1000) : Small (hostsOf z) := by
  obtain ⟨h1, h2⟩ := small_words hz
  refine ⟨?_, fun w hw => h2 w (List.mem_filter.mp hw).1⟩
  have := List.length_filter_le (fun y => !hasAt y) (wordsOf z)
  unfold hostsOf
  omega
theorem small_rows {z : Str} (hz : z.length ≤ 1000) : SmallR (rowsOf z) := by
  obtain ⟨h1, h2, _⟩ := split_len (z := z) (s := " ") rfl
  refine ⟨?_, fun r hr => ?_⟩
  · have := List.length_filter_le hasAt (wordsOf z)
    unfold rowsOf
    rw [List.length_map]
    unfold wordsOf at this ⊢
    omega
  · obtain ⟨y, hy, rfl⟩ := List.mem_map.mp hr
    have l1 := h2 y (List.mem_filter.mp hy).1
    obtain ⟨k1, k2, _⟩ := split_len (z := y) (s := "@") rfl
    exact ⟨by omega, fun w hw => by have := k2 w hw; omega⟩
section
variable {K : Fr} {mg : Str → Option Value} {vs : List V} {H : Hp} {Q : VK} {E : XK} {σ : L2.St}
theorem et_ni {y : Str} {i : Nat} (h : σ[i]? = some (some (.str y))) : EvT (tTest (tOp rNiSgn (tC (.str "@")) (tVar i))) σ H (!hasAt y) := fun H1 e Q q =>
  ⟨_, h, 64, y, rfl, rfl, _, rfl, q H1 (Evl.Ex.refl _)⟩
theorem et_in {y : Str} {i : Nat} (h : σ[i]? = some (some (.str y))) : EvT (tTest (tOp rInSgn (tC (.str "@")) (tVar i))) σ H (hasAt y) := fun H1 e Q q =>
  ⟨_, h, 64, y, rfl, rfl, _, rfl, q H1 (Evl.Ex.refl _)⟩
theorem rows_of {ys : List V} {l : List Str} {R : List Str → HO} (h : Paired (fun x y => ∃ p, y = V.ref p ∧ H p = some (R (Txt.split (stV x) "@"))) (SV l) ys) :
    ∃ ps : List Addr, ys = ps.map V.ref ∧ Paired (fun p r => H p = some (R r)) ps (l.map fun y => Txt.split y "@") := by
  induction l generalizing ys with
  | nil =>
    cases h
    exact ⟨[], rfl, .nil⟩
  | cons y l ih =>
    cases h with
    | cons h1 h2 =>
      obtain ⟨ps, rfl, hp⟩ := ih h2
      obtain ⟨p, rfl, e⟩ := h1
      exact ⟨p :: ps, rfl, .cons e hp⟩
theorem pure_read_map (T : Tx K mg) (h : sp_read_map K vs H Q E) : t_read_map K E { nx := fun _ H' => Q .non H', rt := Q } (start N_read_map vs) H := by
  obtain ⟨v, rfl, h⟩ := h
  unfold t_read_map; walk_at "o"
  rcases h with ⟨⟨t, ty, hk⟩, k⟩ | ⟨z, rfl, hz, k1, k2⟩
  · refine isi_any (v_var rfl) v_c (.ty "str") ty hk ⟨_, rfl, iteT ?_⟩
    exact made_NoText T (fun d H' e h => k d H' e h) _ _ fun Q' q => q
  · refine isi_str (v_var rfl) ⟨_, rfl, iteF ?_⟩
    refine el_split (ev_var rfl) ev_c rfl (by omega) H (Evl.Ex.refl _) _ fun p H1 hp e1 h1 => ?_
    refine lc_strV (l := wordsOf z) (keep := fun y => !hasAt y) (f := V.str) (ev_var rfl) (sq_of h1) (by have := (small_words hz).1; omega) (fun _ => rfl) (fun y _ H2 _ => et_ni rfl) (fun y _ _ H2 _ => ev_var rfl) H1 (Evl.Ex.refl _) _ fun q H2 hq e2 h2 => ?_
    refine lc_listV (K := K) (xs := SV (wordsOf z)) (keep := fun x => hasAt (stV x)) (R := fun x y H => ∃ p, y = V.ref p ∧ H p = some (.tup (SV (Txt.split (stV x) "@")))) (ev_var rfl) (sq_of (e2 _ _ h1)) (by rw [List.length_map]; have := (small_words hz).1; omega) (fun _ => rfl) (fun D H3 hD e3 hacc x hx => ?_) fun r ys H3 hr e3 h3 hpr => ?_
    · obtain ⟨y, hy, rfl⟩ := List.mem_map.mp hx
      intro k ky q1 q2
      refine et_in (y := y) rfl H3 (Evl.Ex.refl _) _ fun H4 e4 => iteB (fun hb => ?_) (fun hb => q1 hb H4 e4)
      have ly := (small_words hz).2 y hy
      refine el_split (ev_var rfl) ev_c rfl (by omega) H4 (Evl.Ex.refl _) _ fun s H5 hs e5 h5 => ⟨s, _, rfl, .inl ⟨sq_of h5, fun l hl => ?_⟩⟩
      have e45 := e4.trans e5
      obtain ⟨acc, hac⟩ := hacc
      refine q2 hb _ _ (e45.trans (Evl.Ex.new hl)) fun H6 e6 => ⟨l, rfl, e6 _ _ (Ne.symm (ex_ne hac e45 hl)) upd_same⟩
    · have fs : (SV (wordsOf z)).filter (fun x => hasAt (stV x)) = SV ((wordsOf z).filter hasAt) := filter_SV fun _ _ => rfl
      rw [fs] at hpr
      obtain ⟨ps, rfl, hp⟩ := rows_of (R := fun r => HO.tup (SV r)) hpr
      have e23 := e2.trans e3
      have hqs : H3 q = some (.lst (SV (hostsOf z))) := e3 _ _ h2
      refine ⟨_, rfl, _, rfl, fun x dx hx hdx nx => ?_⟩
      have e4 : Ex H3 (upd (upd H3 dx (.own x)) x (.ins (He.ga K "Map") dx [])) := (Evl.Ex.new hdx).trans (Evl.Ex.new (by rw [upd_ne (Ne.symm nx)]; exact hx))
      refine ⟨x, dx, q, hostsOf z, r, rowsOf z, rfl, upd_same, e4 _ _ hqs, RowsAt.mono e4 ⟨ps, h3, hp⟩, small_hosts hz, small_rows hz, fun ok H5 m e5 => ⟨rfl, ?_⟩, fun bad d H5 e5 => ?_⟩
      · have e35 : Ex H3 H5 := (ExP.trans (ExP.of e4) e5).ex hx
        have e15 := (e1.trans e23).trans e35
        have nd := okMap_keys ok
        refine ev_neS (ev_mapText T (ev_var rfl) m nd (okMap_small ok)) (ev_var rfl) H5 (Evl.Ex.refl _) _ fun H6 e6 => ⟨_, rfl, ?_⟩
        by_cases he : mapText (hostsOf z) (pairs (rowsOf z)) = z
        · rw [decide_eq_true he]
          refine iteF ?_
          refine ⟨_, rfl, k1 (hostsOf z) (pairs (rowsOf z)) x H6 ?_ (m.mono e6) (e15.trans e6)⟩
          unfold readMap
          rw [ok, decide_eq_true he]
          rfl
        · rw [decide_eq_false he]
          refine iteT ?_
          refine made_NoText T (fun d2 H' e h => k2 ?_ d2 H' ((e15.trans e6).trans e) h) _ _ fun Q' q => q
          unfold readMap
          rw [decide_eq_false he, Bool.and_false]
          rfl
      · have e35 : Ex H3 H5 := (ExP.trans (ExP.of e4) e5).ex hx
        refine ⟨true, T.e_map_map, fun _ a ha => ?_, fun h => by cases h⟩
        refine made_NoText T (fun d2 H' e h => k2 ?_ d2 H' (((e1.trans e23).trans e35).trans e) h) _ _ fun Q' q => q
        unfold readMap
        rw [bad]
        rfl
end
end W93
namespace W93
open PySem PySem.Spec PyProof.Rows L2 LiI WB
open Evl hiding Ex
local macro_rules | `(tactic| walk_at "o") => `(tactic| dsimp only [tSeq, tIfS, tNext, tRet, tRetN, tDrop, tAsg, gName, tNever])
section
variable {K : Fr} {mg : Str → Option Value} {vs : List V} {H : Hp} {Q : VK} {E : XK} {σ : L2.St}
theorem SV_app {l m : List Str} : SV (l ++ m) = SV l ++ SV m := List.map_append
theorem cons_ {te : TE} {ta : TA} {Q : List V → Hp → Prop} (h : te σ H fun v H1 => ta σ H1 fun vs H2 => Q (v :: vs) H2) : tCons te ta σ H Q := h
theorem op_ {r : R2} {ta tb : TE} {Q : VK} (h : ta σ H fun x H1 => tb σ H1 fun y H2 => r x y H2 Q) : tOp r ta tb σ H Q := h
theorem test_ {te : TE} {Q : Bool → Hp → Prop} (h : te σ H fun x H' => ∃ k, x = .bl k ∧ Q k H') : tTest te σ H Q := h
theorem ev_rI {C : Int → Int → Prop} {g : Int → Int → V} {ta tb : TE} {i j : Int} (ha : Ev ta σ H (.int i)) (hb : Ev tb σ H (.int j)) (c : C i j) : Ev (tOp (rI C g) ta tb) σ H (g i j) := ev_op ha hb fun H1 e Q q => ⟨i, j, rfl, rfl, c, q H1 (Evl.Ex.refl _)⟩
theorem ev_rI0 {g : Int → Int → V} {ta tb : TE} {i j : Int} (ha : Ev ta σ H (.int i)) (hb : Ev tb σ H (.int j)) : Ev (tOp (rI0 g) ta tb) σ H (g i j) := ev_op ha hb fun H1 e Q q => ⟨i, j, rfl, rfl, q H1 (Evl.Ex.refl _)⟩
theorem ev_ixL {ta tb : TE} {p : Addr} {xs : List V} {i : Int} {v : V} (ha : Ev ta σ H (.ref p)) (hb : Ev tb σ H (.int i)) (hx : SqL K H p xs) (h : atI xs i = some v) : Ev (tOp (rIx K) ta tb) σ H v := ev_op ha hb fun H1 e Q q => .inl ⟨p, xs, i, v, rfl, rfl, ex_l e hx, h, q H1 (Evl.Ex.refl _)⟩
theorem ev_ixT {ta tb : TE} {p : Addr} {xs : List V} {i : Int} {v : V} (ha : Ev ta σ H (.ref p)) (hb : Ev tb σ H (.int i)) (hx : SqT K H p xs) (h : atI xs i = some v) : Ev (tOp (rIx K) ta tb) σ H v := ev_op ha hb fun H1 e Q q => .inr (.inl ⟨p, xs, i, v, rfl, rfl, Evl.ex_t e hx, h, q H1 (Evl.Ex.refl _)⟩)
theorem et_test {te : TE} {b : Bool} (h : Ev te σ H (.bl b)) : EvT (tTest te) σ H b := fun H1 e Q q => h H1 e _ fun H2 e2 => ⟨b, rfl, q H2 e2⟩
theorem ev_cb1 {r : List V → Hp → VK → Prop} {ta : TE} {v z : V} (h : Ev ta σ H v) (hr : ∀ H1, Ex H H1 → ∀ Q : VK, (∀ H2, Ex H1 H2 → Q z H2) → r [v] H1 Q) : Ev (tCB r (tCons ta tNil)) σ H z := ev_cb (ea_cons h ea_nil) hr
theorem ev_cb2 {r : List V → Hp → VK → Prop} {ta tb : TE} {v w z : V} (h : Ev ta σ H v) (h2 : Ev tb σ H w) (hr : ∀ H1, Ex H H1 → ∀ Q : VK, (∀ H2, Ex H1 H2 → Q z H2) → r [v, w] H1 Q) : Ev (tCB r (tCons ta (tCons tb tNil))) σ H z := ev_cb (ea_cons h (ea_cons h2 ea_nil)) hr
theorem ev_abs {ta : TE} {i : Int} (h : Ev ta σ H (.int i)) : Ev (tCB rAbsI (tCons ta tNil)) σ H (.int (i.natAbs : Int)) := ev_cb1 h fun H1 e Q q => ⟨i, rfl, by
  have e2 : (if i < 0 then -i else i) = (i.natAbs : Int) := by split <;> omega
  rw [e2]; exact q H1 (Evl.Ex.refl _)⟩
theorem ev_max {ta tb : TE} {i j : Int} (h : Ev ta σ H (.int i)) (h2 : Ev tb σ H (.int j)) : Ev (tCB rMax2I (tCons ta (tCons tb tNil))) σ H (.int (max i j)) := ev_cb2 h h2 fun H1 e Q q => ⟨i, j, rfl, by
  have e2 : (if j > i then j else i) = max i j := by split <;> omega
  rw [e2]; exact q H1 (Evl.Ex.refl _)⟩
theorem ev_min {ta tb : TE} {i j : Int} (h : Ev ta σ H (.int i)) (h2 : Ev tb σ H (.int j)) : Ev (tCB rMin2I (tCons ta (tCons tb tNil))) σ H (.int (min i j)) := ev_cb2 h h2 fun H1 e Q q => ⟨i, j, rfl, by
  have e2 : (if j < i then j else i) = min i j := by split <;> omega
  rw [e2]; exact q H1 (Evl.Ex.refl _)⟩
theorem pure_l_pot (T : Tx K mg) (h : sp_l_pot K vs H Q E) : t_l_pot K { nx := fun _ H' => Q .non H', rt := Q } (start N_l_pot vs) H := by
  obtain ⟨a, ns, k, rfl, hs, hl, k0, k4, q⟩ := h
  unfold t_l_pot; walk_at "o"
  obtain ⟨n, rfl⟩ := Int.eq_ofNat_of_zero_le k0
  have hc : ∃ c, Ev (tIf (tTest (tOp rLtI (tVar 1) (tCB (rLenA K) (tCons (tVar 0) tNil)))) (tOp (rIx K) (tVar 0) (tVar 1)) (tC (.int 0))) (start N_l_pot [.ref a, .int (n : Int)]) H (.int c) := by
    by_cases hn : n < ns.length
    · refine ⟨ns[n], ev_if (et_test (ev_rI0 (ev_var rfl) (ev_lenL (ev_var rfl) hs))) (fun _ => ev_ixL (ev_var rfl) (ev_var rfl) hs ?_) fun hf => ?_⟩
      · exact atI_nat (by rw [List.getElem?_map, List.getElem?_eq_getElem hn]; rfl)
      · rw [List.length_map] at hf
        exact absurd hf (by simp [hn])
    · refine ⟨0, ev_if (et_test (ev_rI0 (ev_var rfl) (ev_lenL (ev_var rfl) hs))) (fun ht => ?_) fun hf => ev_c⟩
      rw [List.length_map] at ht
      have := of_decide_eq_true ht
      omega
  obtain ⟨c, hc⟩ := hc
  refine hc H (Evl.Ex.refl _) _ fun H1 e1 => ?_
  refine el_lst (ea_cons (ev_max ev_c (ev_rI0 (ev_abs (ev_var rfl)) (ev_rI (g := fun i j => .int (i ^ j.toNat)) ev_c ev_c ⟨by decide, by decide, by decide⟩))) (ea_cons (ev_addI (ev_addI (ev_rI (g := fun i j => .int (i % j)) (ev_abs (ev_var rfl)) ev_c (by decide)) (ev_rI (g := fun i j => .int (i * j)) ev_c (ev_var rfl) (.inl ⟨by decide, by decide⟩))) ev_c) ea_nil)) (by show 2 ≤ _; decide) H1 (Evl.Ex.refl _) _ fun p H2 hp e2 h2 => ?_
  refine q p H2 (fresh_back e1 hp) (e1.trans e2) ⟨_, _, h2, ?_, ?_, ?_⟩ <;> omega
theorem pot_mono {H H' : Hp} {p : Addr} (e : Ex H H') (h : Pot H p) : Pot H' p := by
  obtain ⟨a, b, h1, h2⟩ := h
  exact ⟨a, b, e _ _ h1, h2⟩
theorem pure_l_digit (T : Tx K mg) (h : sp_l_digit K vs H Q E) : t_l_digit K { nx := fun _ H' => Q .non H', rt := Q } (start N_l_digit vs) H := by
  obtain ⟨p, n, rfl, ⟨a, b, hp, ha, hb0, hb1⟩, n1, n2, k⟩ := h
  unfold t_l_digit; walk_at "o"
  refine et_test (ev_rI0 (ev_ixL (ev_var rfl) ev_c (sq_of hp) rfl) ev_c) H (Evl.Ex.refl _) _ fun H1 e1 => iteB (fun h => ?_) (fun h => ?_)
  · have h0 : 0 < a := of_decide_eq_true h
    refine ev_rI (g := fun i j => .int (i % j)) (ev_ixL (ev_var rfl) ev_c (sq_of (e1 _ _ hp)) rfl) (ev_var rfl) (by omega) H1 (Evl.Ex.refl _) _ fun H2 e2 => ?_
    have e12 := e1.trans e2
    refine ev_rI (C := CDiv) (g := fun i j => .int (i / j)) (ev_ixL (ev_var rfl) ev_c (sq_of (e12 _ _ hp)) rfl) (ev_var rfl) ⟨by omega, by omega⟩ H2 (Evl.Ex.refl _) _ fun H3 e3 => ?_
    have e13 := e12.trans e3
    refine ⟨_, rfl, p, _, 0, 0, rfl, rfl, e13 _ _ hp, rfl, _, rfl, k (a % n) _ (Int.emod_nonneg _ (by omega)) (Int.emod_lt_of_pos _ (by omega)) (ExP.of e13).tu ⟨_, _, upd_same, Int.ediv_nonneg (by omega) (by omega), hb0, hb1⟩⟩
  · refine ev_rI (g := fun i j => .int (i % j)) (ev_addI (ev_rI (C := CMul) (g := fun i j => .int (i * j)) (ev_ixL (ev_var rfl) ev_c (sq_of (e1 _ _ hp)) rfl) ev_c (.inr ⟨by decide, by decide⟩)) ev_c) ev_c (by decide) H1 (Evl.Ex.refl _) _ fun H2 e2 => ?_
    have e12 := e1.trans e2
    refine ⟨_, rfl, p, _, 1, 1, rfl, rfl, e12 _ _ hp, rfl, ?_⟩
    have hm0 := Int.emod_nonneg (b * 39373 + 20011) (b := 2147483647) (by decide)
    have hm1 := Int.emod_lt_of_pos (b * 39373 + 20011) (b := 2147483647) (by decide)
    have hp3 : (upd H2 p (.lst (List.set [V.int a, V.int b] 1 (.int ((b * 39373 + 20011) % 2147483647))))) p = some (.lst [V.int a, V.int ((b * 39373 + 20011) % 2147483647)]) := upd_same
    refine ev_rI (g := fun i j => .int (i % j)) (ev_rI (C := CDiv) (g := fun i j => .int (i / j)) (ev_rI (g := fun i j => .int (i % j)) (ev_rI (C := CMul) (g := fun i j => .int (i * j)) (ev_ixL (ev_var rfl) ev_c (sq_of hp3) rfl) (ev_ixL (ev_var rfl) ev_c (sq_of hp3) rfl) (.inl ⟨by omega, by omega⟩)) ev_c (by decide)) ev_c ⟨by decide, by decide⟩) (ev_var rfl) (by omega) _ (Evl.Ex.refl _) _ fun H3 e3 => ?_
    exact k _ _ (Int.emod_nonneg _ (by omega)) (Int.emod_lt_of_pos _ (by omega)) (((ExP.of e12).tu).tx e3) ⟨a, _, e3 _ _ hp3, ha, hm0, by omega⟩
theorem digit_ {i : Nat} {tn : TE} {f : L2.St → XK} {p : Addr} {n : Int} (hv : σ[i]? = some (some (.ref p))) (pot : Pot H p) (ht : Ev tn σ H (.int n)) (n1 : 1 ≤ n) (n2 : n < 1000000) (q : ∀ d H', 0 ≤ d → d < n → ExP p H H' → Pot H' p → Q (.int d) H') :
    tCallS (sp_l_digit K) f (tCons (tVar i) (tCons tn tNil)) σ H Q := ⟨_, hv, ht H (Evl.Ex.refl _) _ fun H1 e => ⟨p, n, rfl, pot_mono e pot, n1, n2, fun d H' h1 h2 e' po => q d H' h1 h2 ((ExP.of e).trans e') po⟩⟩
theorem pure_l_among (T : Tx K mg) (h : sp_l_among K vs H Q E) : t_l_among K { nx := fun _ H' => Q .non H', rt := Q } (start N_l_among vs) H := by
  obtain ⟨p, a, xs, rfl, hp, ha, l1, l2, ne, k⟩ := h
  unfold t_l_among; walk_at "o"
  refine ⟨_, rfl, digit_ rfl hp (ev_lenL (ev_var rfl) (sq_of ha)) (by omega) (by omega) fun d H1 d0 d1 e1 po => ?_⟩
  obtain ⟨n, rfl⟩ := Int.eq_ofNat_of_zero_le d0
  have hn : n < xs.length := by omega
  exact .inl ⟨a, xs, n, xs[n], rfl, rfl, sq_of (e1 _ _ ne ha), atI_nat (List.getElem?_eq_getElem hn), k _ H1 (List.getElem_mem hn) e1 po⟩
theorem among_ {i : Nat} {tl : TE} {f : L2.St → XK} {p : Addr} {xs : List V} (hv : σ[i]? = some (some (.ref p))) (pot : Pot H p) (hl : EvL tl σ H xs) (l1 : 1 ≤ xs.length) (l2 : xs.length < 1000) (q : ∀ v H1 H', Ex H H1 → v ∈ xs → ExP p H1 H' → Pot H' p → Q v H') :
    tCallS (sp_l_among K) f (tCons (tVar i) (tCons tl tNil)) σ H Q := ⟨_, hv, hl H (Evl.Ex.refl _) _ fun a H1 ha e h1 => ⟨p, a, xs, rfl, pot_mono e pot, h1, l1, l2, (by obtain ⟨_, _, hp, _⟩ := pot; exact (ne_of_none hp ha).symm), fun v H' h1 e' po => q v H1 H' e h1 e' po⟩⟩
def isL (z : Str) : Bool := z.cps.toList.all fun c => decide (c ∈ letters.cps.toList)
theorem isL_app {a b : Str} (h1 : isL a = true) (h2 : isL b = true) : isL (a ++ b) = true := by
  unfold isL at *
  rw [show (a ++ b).cps.toList = a.cps.toList ++ b.cps.toList from by rw [Str.cps_append, Array.toList_append], List.all_append, h1, h2]
  rfl
theorem isL_join : ∀ {l : List Str}, (∀ z ∈ l, isL z = true) → isL (Str.join "" l) = true
  | [], _ => rfl
  | [a], h => h a (by simp)
  | a :: b :: r, h => by
    rw [PyProof.Rows.join_cons_cons]
    exact isL_app (isL_app (h a (by simp)) rfl) (isL_join fun z hz => h z (by simp [hz]))
theorem isName_iff {z : Str} (h1 : isL z = true) (h2 : 1 ≤ z.length) (h3 : z.length ≤ 8) : isName z = true := by
  unfold isName isMade
  unfold isL at h1
  rw [h1, decide_eq_true (by omega), decide_eq_true (by omega)]
  rfl
theorem isName_L {z : Str} (h : isName z = true) : isL z = true := by
  unfold isName isMade at h
  rw [Bool.and_eq_true] at h
  exact h.2
theorem isName_pos {z : Str} (h : isName z = true) : 1 ≤ z.length := by
  unfold isName isMade at h
  simp only [Bool.and_eq_true, decide_eq_true_eq] at h
  omega
theorem nodup_sub {α : Type} [BEq α] [LawfulBEq α] : ∀ {l us : List α}, l.Nodup → (∀ x ∈ l, x ∈ us) → l.length ≤ us.length
  | [], _, _, _ => Nat.zero_le _
  | a :: l, us, nd, h => by
    rw [List.nodup_cons] at nd
    have ha : a ∈ us := h a (by simp)
    have ih := nodup_sub (us := us.erase a) nd.2 fun x hx => (List.mem_erase_of_ne (fun e => nd.1 (by rw [← e]; exact hx))).mpr (h x (by simp [hx]))
    rw [List.length_erase_of_mem ha] at ih
    have : 1 ≤ us.length := by
      cases us with
      | nil => cases ha
      | cons => simp
    simp only [List.length_cons]
    omega
def singles : List Str := letters.cps.toList.map sgn
theorem free_letter {us : List Str} (h : us.length ≤ 20) : (singles.filter fun z => !decide (z ∈ us)) ≠ [] := fun e => by
  have h1 : ∀ x ∈ singles, x ∈ us := fun x hx => by
    by_cases hu : x ∈ us
    · exact hu
    · have : x ∈ singles.filter fun z => !decide (z ∈ us) := List.mem_filter.mpr ⟨hx, by simp [hu]⟩
      rw [e] at this
      cases this
  have h2 := nodup_sub (l := singles) (by decide +kernel) h1
  have h3 : singles.length = 26 := by decide +kernel
  omega
theorem single_name : ∀ z ∈ singles, isName z = true := by decide +kernel
theorem names_ok {us : List Str} (h : ∀ u ∈ us, isName u = true) : ∀ u ∈ us, PyData.strOk u = true := fun u hu => isName_ok (h u hu)
theorem sgn_len (c : Nat) : (sgn c).length = 1 := rfl
theorem ev_neNil {ta : TE} {a : Addr} {us : List Str} (ha : Ev ta σ H (.ref a)) (hu : SqL K H a (SV us)) (ok : ∀ u ∈ us, PyData.strOk u = true) : Ev (tOp (rNeA K) ta (tLst tNil)) σ H (.bl (!PyData.eqv (.list (dS us)) (.list []))) :=
  ev_opL ha (el_lst ea_nil (by decide)) fun p H1 hp e H2 e2 Q q => .inr ⟨_, _, .lst (ex_l (e.trans e2) hu) (dp_SV us), .lst (ex_l e2 (sq_of hp)) .nil, sh_dS ok, by decide, q H2 (Evl.Ex.refl _)⟩
theorem singles_at {d : Int} (h0 : 0 ≤ d) (h1 : d < 26) : ∃ c, atI letters.cps.toList d = some c ∧ sgn c ∈ singles := by
  obtain ⟨n, rfl⟩ := Int.eq_ofNat_of_zero_le h0
  have hl : letters.cps.toList.length = 26 := by decide +kernel
  have hn : n < letters.cps.toList.length := by omega
  exact ⟨_, atI_nat (List.getElem?_eq_getElem hn), List.mem_map.mpr ⟨_, List.getElem_mem hn, rfl⟩⟩
theorem last_name (T : Tx K mg) {p a : Addr} {us : List Str} {z1 : Str} {sz : Int} {E' : Ends} (ha : H a = some (.lst (SV us))) (lu : us.length ≤ 20) (hz : isName z1 = true)
    (k : ∀ z H', isName z = true → z ∉ us → Ex H H' → E'.rt (.str z) H') :
    tSeq (tIfS (tTest (tOp (rInA K) (tVar 4) (tVar 1))) (tAsg (tOp (rIx K) (tLc (iStr (tVar 2)) (gName 6) (tTest (tOp (rNiA K) (tVar 6) (tVar 1))) (tVar 6) [6]) (tC (.int 0))) (gName 4)) (tNext))
    (tRet (tVar 4)) E' [some (.ref p), some (.ref a), some (.str letters), some (.int sz), some (.str z1), none, none] H := by
  walk_at "o"
  refine et_test (ev_inL (ev_var rfl) (ev_var rfl) (sq_of ha)) H (Evl.Ex.refl _) _ fun H1 e1 => iteB (fun h => ?_) (fun h => ?_)
  · refine lc_of (seq_str (z := letters)) (fun R r => ⟨_, rfl, _, rfl, r⟩) (fun v => !decide (stV v ∈ us)) (fun x y _ => y = x) (fun _ _ => trivial) (by show _ ≤ _; decide +kernel) (fun D hD x hx H2 e2 hacc k0 ky q1 q2 => ?_) fun D ys H2 hD e2 hys hp => ?_
    · obtain ⟨c, hc, rfl⟩ := List.mem_map.mp hx
      refine ⟨rfl, ?_⟩
      refine et_test (ev_niL (z := sgn c) (ev_var rfl) (ev_var rfl) (sq_of ((e1.trans e2) _ _ ha))) H2 (Evl.Ex.refl _) _ fun H3 e3 => iteB (fun hb => ⟨_, rfl, q2 hb _ H3 e3 fun _ _ => rfl⟩) fun hb => q1 hb H3 e3
    · have hq : ys = (signsV letters).filter fun v => !decide (stV v ∈ us) := by
        have := paired_map (f := fun x => x) hp
        rw [List.map_id'] at this
        exact this
      have hs : signsV letters = SV singles := by
        show List.map _ _ = List.map _ (List.map _ _)
        rw [List.map_map]; rfl
      rw [hs, filter_SV (p := fun z => !decide (z ∈ us)) fun _ _ => rfl] at hq
      have hne := free_letter lu
      cases hf : singles.filter (fun z => !decide (z ∈ us)) with
      | nil => exact absurd hf hne
      | cons z0 r0 =>
        rw [hf] at hq
        subst hq
        have hm : z0 ∈ singles.filter (fun z => !decide (z ∈ us)) := by rw [hf]; exact List.mem_cons_self
        have hm2 := List.mem_filter.mp hm
        refine .inl ⟨D, _, 0, .str z0, rfl, rfl, sq_of hys, atI_nat (j := 0) rfl, _, rfl, k z0 H2 (single_name z0 hm2.1) ?_ (e1.trans e2)⟩
        have := hm2.2
        simpa using this
  · refine ⟨_, rfl, k z1 H1 hz (fun hm => ?_) e1⟩
    rw [decide_eq_true hm] at h
    cases h
theorem pure_l_name (T : Tx K mg) (h : sp_l_name K vs H Q E) : t_l_name K { nx := fun _ H' => Q .non H', rt := Q } (start N_l_name vs) H := by
  obtain ⟨p, a, us, rfl, pot, ha, lu, hu, k⟩ := h
  unfold t_l_name; walk_at "o"
  have ap : a ≠ p := by
    obtain ⟨x, y, hp, _⟩ := pot
    rintro rfl
    rw [hp] at ha
    match us, ha with
    | [], ha => cases ha
    | u :: us, ha => cases ha
  refine ⟨_, rfl, ?_⟩
  refine cons_ (op_ ?_)
  refine el_lst (vs := [.int 1, .int 3, .int 8]) (ea_cons ev_c (ea_cons ev_c (ea_cons ev_c ea_nil))) (by decide) H (Evl.Ex.refl _) _ fun q H1 hq e1 h1 => ?_
  have qp : q ≠ p := by
    obtain ⟨_, _, hp, _⟩ := pot
    exact (ne_of_none hp hq).symm
  refine digit_ rfl (pot_mono e1 pot) ev_c (by decide) (by decide) fun d H2 d0 d1 e2 pot2 => ?_
  obtain ⟨m, hm, m1, m8⟩ : ∃ m : Int, atI [V.int 1, V.int 3, V.int 8] d = some (.int m) ∧ 1 ≤ m ∧ m ≤ 8 := by
    obtain rfl | rfl | rfl : d = 0 ∨ d = 1 ∨ d = 2 := by omega
    · exact ⟨1, rfl, by decide, by decide⟩
    · exact ⟨3, rfl, by decide, by decide⟩
    · exact ⟨8, rfl, by decide, by decide⟩
  refine .inl ⟨q, _, d, _, rfl, rfl, sq_of (e2 _ _ qp h1), hm, p, m, rfl, pot2, m1, by omega, fun s H3 s0 s1 e3 pot3 => .inl ⟨1, s, rfl, rfl, ?_⟩⟩
  have e03 : ExP p H H3 := ((ExP.of e1).trans e2).trans e3
  refine ⟨⟨"", rfl⟩, ?_⟩
  refine lcs_of (seq_rng (lo := 0) (n := (1 + s).toNat)) (fun R r => ⟨_, rfl, 1 + s, rfl, by omega, by omega, r⟩) (fun D i H' => ExP p H3 H' ∧ Pot H' p ∧ ∃ l : List Str, H' D = some (.lst (SV l)) ∧ l.length = i ∧ ∀ z ∈ l, z ∈ singles)
    (fun D hD => ⟨ExP.of (Evl.Ex.new hD), pot_mono (Evl.Ex.new hD) pot3, [], upd_same, rfl, fun _ h => by cases h⟩) (fun _ _ _ _ _ _ => trivial) ?_ ?_
  · rintro D i x H' hD hx ⟨e4, pot4, l, hl, ll, lz⟩
    have hi : i < (intsV 0 (1 + s).toNat).length := (List.getElem?_eq_some_iff.mp hx).1
    have hi2 : i < 9 := by
      unfold intsV at hi
      rw [List.length_map, List.length_range] at hi
      omega
    have dp : D ≠ p := by
      obtain ⟨_, _, hp, _⟩ := pot3
      exact (ne_of_none hp hD).symm
    refine ⟨rfl, ?_⟩
    dsimp only [tYes]
    rw [if_pos rfl]
    refine op_ ?_
    refine ⟨_, rfl, ?_⟩
    refine digit_ rfl pot4 ev_c (by decide) (by decide) fun d H5 d0 d1 e5 pot5 => ?_
    obtain ⟨c, hc, hcs⟩ := singles_at d0 d1
    refine .inr (.inr ⟨letters, d, c, rfl, rfl, small_line (by decide +kernel), hc, SV l, e5 _ _ dp hl, small_lt (by rw [List.length_map]; omega), ?_, ?_, l ++ [sgn c], ?_, by simp [ll], ?_⟩)
    · intro b o nb hb
      rw [upd_ne (ne_of_none hb hD)]
      exact e5 _ _ nb (e4 _ _ nb hb)
    · obtain ⟨x1, y1, hp, r⟩ := pot5
      exact ⟨x1, y1, by rw [upd_ne (Ne.symm dp)]; exact hp, r⟩
    · rw [upd_same, SV_app]; rfl
    · intro z hz
      rcases List.mem_append.mp hz with h | h
      · exact lz z h
      · rw [List.mem_singleton.mp h]; exact hcs
  rintro D H4 hD ⟨e4, pot4, l, hl, ll, lz⟩
  have ll2 : l.length = (1 + s).toNat := by
    rw [ll]
    unfold intsV
    rw [List.length_map, List.length_range]
  have hsum : (l.map (·.length)).sum = l.length := by
    clear hl ll ll2
    induction l with
    | nil => rfl
    | cons z l ih =>
      obtain ⟨c, _, rfl⟩ := List.mem_map.mp (lz z (by simp))
      rw [List.map_cons, List.sum_cons, ih fun y hy => lz y (by simp [hy]), List.length_cons]
      show 1 + _ = _
      omega
  have l0 : ("" : Str).length = 0 := rfl
  refine ⟨"", D, l, rfl, rfl, .inl (sq_of hl), by rw [hsum, l0]; omega, ?_⟩
  have jn := join_len "" (l := l) (fun e => by rw [e] at ll2; simp at ll2; omega)
  rw [l0, hsum] at jn
  have hz0 : isName (Txt.join "" l) = true := by
    rw [TL.join_eq]
    refine isName_iff (isL_join fun z hz => isName_L (single_name z (lz z hz))) (by omega) (by omega)
  have e04 := e03.trans e4
  have h4 := e04 _ _ ap ha
  refine et_test (ev_neNil (ev_var rfl) (sq_of h4) (names_ok hu)) H4 (Evl.Ex.refl _) _ fun H5 e5 => iteB (fun hne => ?_) (fun _ => iteF ?_)
  · refine test_ (op_ ?_)
    refine digit_ rfl (pot_mono e5 pot4) ev_c (by decide) (by decide) fun d2 H6 _ _ e6 pot6 => .inl ⟨rfl, _, rfl, iteB (fun hb => ?_) (fun hb => ?_)⟩
    · have e06 := (e04.tx e5).trans e6
      have h6 := e06 _ _ ap ha
      have hus : us ≠ [] := by
        rintro rfl
        cases hne
      obtain ⟨us0, u, rfl⟩ : ∃ us0 u, us = us0 ++ [u] := ⟨us.dropLast, us.getLast hus, (List.dropLast_concat_getLast hus).symm⟩
      have hname := hu u (by simp)
      refine ⟨_, rfl, 1, rfl, .inl ⟨a, _, -1, .str u, rfl, rfl, sq_of h6, ?_, _, rfl, .inr (.inl ⟨u, _, rfl, rfl, small_line (by have := isName_len hname; have := isName_len hz0; omega), 8, rfl, .inr ⟨_, rfl, small_line (by rw [Str.length_append]; have := isName_len hname; have := isName_len hz0; omega), ?_⟩⟩)⟩⟩
      · rw [show SV (us0 ++ [u]) = SV us0 ++ [V.str u] from List.map_append]
        exact atI_last _ _
      · have hcut : isName (cutS (u ++ Txt.join "" l) none (some 8)) = true := by
          have hL := isL_app (isName_L hname) (isName_L hz0)
          unfold cutS
          rw [HT.sIx_none, List.drop_zero]
          rw [show HT.sIx (u ++ Txt.join "" l).length (u ++ Txt.join "" l).length (some (8 : Int)) = min 8 (u ++ Txt.join "" l).length from HT.sIx_nat _ _ 8]
          refine isName_iff ?_ ?_ ?_
          · unfold isL at hL ⊢
            rw [List.all_eq_true] at hL ⊢
            intro c hc
            exact hL c (List.mem_of_mem_take (by simpa using hc))
          · have := isName_pos hname
            have h9 : (u ++ Txt.join "" l).cps.toList.length = (u ++ Txt.join "" l).length := by simp [Str.length]
            show 1 ≤ (List.toArray _).size
            rw [List.size_toArray, List.length_take, h9, Str.length_append]
            omega
          · show (List.toArray _).size ≤ 8
            rw [List.size_toArray, List.length_take]
            omega
        exact last_name T (E' := { nx := fun _ H' => Q .non H', rt := Q }) h6 lu hcut fun z H' h1 h2 e => k z H' h1 h2 (e06.tx e) (pot_mono e pot6)
    · have e06 := (e04.tx e5).trans e6
      exact last_name T (E' := { nx := fun _ H' => Q .non H', rt := Q }) (e06 _ _ ap ha) lu hz0 fun z H' h1 h2 e => k z H' h1 h2 (e06.tx e) (pot_mono e pot6)
  · exact last_name T (E' := { nx := fun _ H' => Q .non H', rt := Q }) (e5 _ _ h4) lu hz0 fun z H' h1 h2 e => k z H' h1 h2 ((e04.tx e5).tx e) (pot_mono (e5.trans e) pot4)
end
end W93
namespace W93
open PySem PySem.Spec PyProof.Rows L2 LiI WB
open Evl hiding Ex
local macro_rules | `(tactic| walk_at "o") => `(tactic| dsimp only [tSeq, tIfS, tNext, tRet, tRetN, tDrop, tAsg, gName, tNever])
theorem okRows_mk {hs : List Str} : ∀ {rows : List (List Str)} {seen : List Str}, (∀ r ∈ rows, ∃ n h, r = [n, h] ∧ isName n = true ∧ h ∈ hs) → (seen ++ rows.map (·.headD "")).Nodup → okRows hs seen rows = true
  | [], _, _, _ => rfl
  | r :: rows, seen, h, nd => by
    obtain ⟨n, m, rfl, a1, a2⟩ := h r (by simp)
    have nd2 : ((seen ++ [n]) ++ rows.map (·.headD "")).Nodup := by
      rw [List.append_assoc]; exact nd
    have ih := okRows_mk (seen := seen ++ [n]) (fun r hr => h r (by simp [hr])) nd2
    have hn : n ∉ seen := fun hm => by
      have := (List.nodup_append.mp nd).2.2 n hm n (by simp)
      exact this rfl
    show (okRow hs seen [n, m] && okRows hs (seen ++ [n]) rows) = true
    rw [ih, okRow2, a1, decide_eq_true hn, decide_eq_true a2]
    rfl
theorem okMap_mk {hs : List Str} {rows : List (List Str)} (h1 : ∀ z ∈ hs, isName z = true) (h2 : 2 ≤ hs.length) (h3 : hs.length ≤ 6) (h5 : ∀ r ∈ rows, ∃ n h, r = [n, h] ∧ isName n = true ∧ h ∈ hs) (h6 : (hs ++ rows.map (·.headD "")).Nodup) (h7 : 1 ≤ rows.length) (h8 : rows.length ≤ 5) : okMap hs rows = true := by
  unfold okMap okHosts okWalkers
  rw [List.all_eq_true.mpr h1, decide_eq_true (List.nodup_append.mp h6).1, decide_eq_true h2, decide_eq_true h3, okRows_mk h5 h6, decide_eq_true h7, decide_eq_true h8]
  rfl
section
variable {K : Fr} {mg : Str → Option Value} {vs : List V} {H : Hp} {Q : VK} {E : XK} {σ : L2.St}
theorem opc_ {r : R2} {v : V} {tb : TE} {Q : VK} (h : tb σ H fun y H2 => r v y H2 Q) : tOp r (tC v) tb σ H Q := h
theorem Pot.ne {p q : Addr} (h : Pot H p) (hq : H q = none) : q ≠ p := by
  obtain ⟨_, _, hp, _⟩ := h
  exact (ne_of_none hp hq).symm
theorem Pot.neS {p q : Addr} {us : List Str} (h : Pot H p) (hq : H q = some (.lst (SV us))) : q ≠ p := by
  obtain ⟨x, y, hp, _⟩ := h
  rintro rfl
  rw [hp] at hq
  match us, hq with
  | [], ha => cases ha
  | u :: us, ha => cases ha
theorem Pot.upd {p q : Addr} {o : HO} (h : Pot H p) (n : q ≠ p) : Pot (L2.upd H q o) p := by
  obtain ⟨x, y, hp, r⟩ := h
  exact ⟨x, y, by rw [upd_ne (Ne.symm n)]; exact hp, r⟩
theorem ExP.udn {p q : Addr} {H H' : Hp} {o : HO} (e : ExP p H H') (hq : H q = none) : ExP p H (L2.upd H' q o) := fun b u nb hb => by
  rw [upd_ne (ne_of_none hb hq)]
  exact e _ _ nb hb
theorem pure_l_names (T : Tx K mg) (h : sp_l_names K vs H Q E) : t_l_names K { nx := fun _ H' => Q .non H', rt := Q } (start N_l_names vs) H := by
  obtain ⟨p, n, a, us, rfl, pot, ha, n0, n6, lu, hu, nd, k⟩ := h
  unfold t_l_names; walk_at "o"
  refine el_lst ea_nil (by decide) H (Evl.Ex.refl _) _ fun q H1 hq e1 h1 => ?_
  have ap := pot.neS ha
  have qp := pot.ne hq
  refine for_of (seq_rng (lo := 0) (n := n.toNat)) (fun R r => ⟨_, rfl, n, rfl, by omega, by omega, r⟩) (fun i σ' H' => ∃ v, σ' = [some (.ref p), some (.int n), some (.ref a), some (.ref q), v] ∧ ExP p H H' ∧ Pot H' p ∧ ∃ xs : List Str, H' q = some (.lst (SV xs)) ∧ xs.length = i ∧ (∀ u ∈ xs, isName u = true) ∧ (us ++ xs).Nodup)
    ⟨none, rfl, ExP.of e1, pot_mono e1 pot, [], h1, rfl, fun _ h => (by cases h), by rw [List.append_nil]; exact nd⟩ (fun _ _ _ _ _ => trivial) ?_ ?_
  · rintro i x σ' H2 hx ⟨v, rfl, e2, pot2, xs, hxs, lx, hnx, ndx⟩
    have hi : i < (intsV 0 n.toNat).length := (List.getElem?_eq_some_iff.mp hx).1
    have hi2 : i < 6 := by
      unfold intsV at hi
      rw [List.length_map, List.length_range] at hi
      omega
    have h2 := e2 _ _ ap ha
    refine ⟨_, rfl, .inl ⟨rfl, _, sq_of hxs⟩, ?_⟩
    refine cons_ ?_
    refine ⟨_, rfl, ?_⟩
    refine cons_ ?_
    refine el_catRR (ev_var rfl) h2 (ev_var rfl) hxs (by rw [List.length_map, List.length_map]; omega) H2 (Evl.Ex.refl _) _ fun r H3 hr e3 h3 => ?_
    rw [← SV_app] at h3
    refine ⟨p, r, us ++ xs, rfl, pot_mono e3 pot2, h3, by rw [List.length_append]; omega, fun u hu' => ?_, fun z H4 hz nz e4 pot4 => ?_⟩
    · rcases List.mem_append.mp hu' with h | h
      · exact hu u h
      · exact hnx u h
    · have hq4 : H4 q = some (.lst (SV xs)) := e4 _ _ qp (e3 _ _ hxs)
      refine ⟨q, SV xs, .str z, rfl, rfl, hq4, small_lt (by rw [List.length_map]; omega), _, rfl, ?_, pot4.upd qp, xs ++ [z], ?_, by simp [lx], ?_, ?_⟩
      · exact ExP.udn ((e2.tx e3).trans e4) hq
      · rw [upd_same, SV_app]; rfl
      · intro u hu'
        rcases List.mem_append.mp hu' with h | h
        · exact hnx u h
        · rw [List.mem_singleton.mp h]; exact hz
      · rw [← List.append_assoc]
        exact List.nodup_append.mpr ⟨ndx, by simp, fun u hu' w hw => by
          rw [List.mem_singleton] at hw
          rintro rfl
          rw [hw] at hu'
          exact nz hu'⟩
  · rintro σ' H2 ⟨v, rfl, e2, pot2, xs, hxs, lx, hnx, ndx⟩
    have lx2 : xs.length = n.toNat := by
      rw [lx]
      unfold intsV
      rw [List.length_map, List.length_range]
    exact ⟨_, rfl, k q xs H2 lx2 hnx ndx e2 pot2 hq hxs⟩
theorem pure_l_rows (T : Tx K mg) (h : sp_l_rows K vs H Q E) : t_l_rows K { nx := fun _ H' => Q .non H', rt := Q } (start N_l_rows vs) H := by
  obtain ⟨p, rfl, pot, k⟩ := h
  unfold t_l_rows; walk_at "o"
  refine ⟨_, rfl, ?_⟩
  refine cons_ (opc_ ?_)
  refine digit_ rfl pot ev_c (by decide) (by decide) fun d H1 d0 d1 e1 pot1 => .inl ⟨2, d, rfl, rfl, ?_⟩
  refine cons_ ?_
  refine el_lst ea_nil (by decide) H1 (Evl.Ex.refl _) _ fun a0 H2 ha0 e2 h2 => ?_
  refine ⟨p, 2 + d, a0, [], rfl, pot_mono e2 pot1, h2, by omega, by omega, by decide, fun _ h => (by cases h), List.nodup_nil, fun l hs H3 lh nh ndh e3 pot3 hl h3 => ?_⟩
  rw [List.nil_append] at ndh
  refine ⟨_, rfl, ?_⟩
  refine cons_ (opc_ ?_)
  refine digit_ rfl pot3 ev_c (by decide) (by decide) fun d2 H4 d20 d21 e4 pot4 => .inl ⟨1, d2, rfl, rfl, ?_⟩
  have lp := pot3.neS h3
  have h4 := e4 _ _ lp h3
  refine ⟨_, rfl, p, 1 + d2, l, hs, rfl, pot4, h4, by omega, by omega, by omega, nh, ndh, fun m ns H5 ln nn ndn e5 pot5 hm h5 => ?_⟩
  have e05 : ExP p H H5 := (((e1.tx e2).trans e3).trans e4).trans e5
  have h5l := e5 _ _ lp h4
  have mp := pot4.ne hm
  refine ⟨_, rfl, ?_⟩
  refine cons_ ?_
  refine lcs_of (seq_list (K := K) (a := m) (xs := SV ns)) (fun R r => ⟨_, rfl, m, rfl, ⟨_, sq_of h5⟩, r⟩) (fun D i H' => ExP p H5 H' ∧ Pot H' p ∧ ∃ (ps : List Addr) (rs : List (List Str)), H' D = some (.lst (ps.map V.ref)) ∧ Paired (fun q r => H' q = some (.tup (SV r))) ps rs ∧ rs.map (·.headD "") = ns.take i ∧ ∀ r ∈ rs, ∃ n h, r = [n, h] ∧ n ∈ ns ∧ h ∈ hs)
    (fun D hD => ⟨ExP.of (Evl.Ex.new hD), pot_mono (Evl.Ex.new hD) pot5, [], [], upd_same, .nil, rfl, fun _ h => by cases h⟩) (fun D i H' _ _ h => sq_of (h.1 _ _ mp h5)) ?_ ?_
  · rintro D i x H' hD hx ⟨e6, pot6, ps, rs, hps, hp, hrs, hr⟩
    obtain ⟨z, hzi, rfl⟩ := sv_at hx
    have hi : i < ns.length := (List.getElem?_eq_some_iff.mp hzi).1
    have dp := pot5.ne hD
    refine ⟨rfl, ?_⟩
    dsimp only [tYes]
    rw [if_pos rfl]
    refine ⟨_, rfl, ?_⟩
    refine cons_ ?_
    refine ⟨_, rfl, ?_⟩
    have h6l := e6 _ _ lp h5l
    refine digit_ rfl pot6 (ev_lenL (ev_var rfl) (sq_of h6l)) (by rw [List.length_map]; omega) (by rw [List.length_map]; omega) fun d3 H7 d30 d31 e7 pot7 => ?_
    rw [List.length_map] at d31
    obtain ⟨n3, rfl⟩ := Int.eq_ofNat_of_zero_le d30
    have hn3 : n3 < hs.length := by omega
    refine .inl ⟨l, _, n3, .str hs[n3], rfl, rfl, sq_of (e7 _ _ lp h6l), atI_nat (by rw [List.getElem?_map, List.getElem?_eq_getElem hn3]; rfl), by show 2 ≤ _; rw [sizeLine_eq]; decide, fun t ht => ?_⟩
    have hps7 := e7 _ _ dp hps
    have tD := ne_of_none hps7 ht
    refine ⟨ps.map V.ref, by rw [upd_ne tD]; exact hps7, small_lt (by
      have h9 := congrArg List.length hrs
      rw [List.length_map, List.length_take, ← hp.length] at h9
      rw [List.length_map]; omega), ?_, ?_, ps ++ [t], rs ++ [[z, hs[n3]]], ?_, ?_, ?_, ?_⟩
    · exact ExP.udn ((e6.trans e7).tx (Evl.Ex.new ht)) hD
    · exact (pot_mono (Evl.Ex.new ht) pot7).upd dp
    · rw [upd_same, List.map_append]; rfl
    · have step : ∀ (q : Addr) (r : List Str), H' q = some (.tup (SV r)) → (L2.upd (L2.upd H7 t (.tup (SV [z, hs[n3]]))) D (.lst (ps.map V.ref ++ [V.ref t]))) q = some (.tup (SV r)) := fun q r hq => by
        have qp : q ≠ p := by
          obtain ⟨_, _, hpp, _⟩ := pot6
          exact ne_of hq hpp (by intro z; cases z)
        have q7 := e7 _ _ qp hq
        rw [upd_ne (ne_of hq hps (by intro z; cases z)), upd_ne (ne_of_none q7 ht)]
        exact q7
      refine Paired.snoc (L2.Paired.mapP hp fun q r hq => step q r hq) ?_
      show (L2.upd (L2.upd H7 t _) D _) t = _
      rw [upd_ne (Ne.symm tD), upd_same]
      rfl
    · rw [List.map_append, hrs, take_succ_of hzi]
      rfl
    · intro r hr'
      rcases List.mem_append.mp hr' with h | h
      · exact hr r h
      · rw [List.mem_singleton.mp h]
        exact ⟨_, _, rfl, List.mem_of_getElem? hzi, List.getElem_mem hn3⟩
  · rintro D H6 hD ⟨e6, pot6, ps, rs, hps, hp, hrs, hr⟩
    rw [List.length_map, List.take_length] at hrs
    have lrs : rs.length = ns.length := by rw [← hrs, List.length_map]
    refine ⟨by show 2 ≤ _; rw [sizeLine_eq]; decide, fun t ht => ?_⟩
    have e07 : ExP p H (L2.upd H6 t (.tup [.ref l, .ref D])) := (e05.trans e6).tx (Evl.Ex.new ht)
    refine k t l D hs rs _ (okMap_mk nh (by omega) (by omega) (fun r hr' => ?_) (by rw [hrs]; exact ndn) (by omega) (by omega)) e07 (pot_mono (Evl.Ex.new ht) pot6) upd_same ?_ ?_
    · obtain ⟨n, h, e, a1, a2⟩ := hr r hr'
      exact ⟨n, h, e, nn n a1, a2⟩
    · have := e6 _ _ lp h5l
      rw [upd_ne (ne_of_none this ht)]
      exact this
    · exact RowsAt.mono (Evl.Ex.new ht) ⟨ps, hps, hp⟩
end
end W93
namespace W93
open PySem PySem.Spec PyProof.Rows L2 LiI WB
open Evl hiding Ex
local macro_rules | `(tactic| walk_at "o") => `(tactic| dsimp only [tSeq, tIfS, tNext, tRet, tRetN, tDrop, tAsg, gName, tNever])
def okS (z : Str) : Prop := ∀ c ∈ z.cps.toList, c < 0x110000
theorem okS_iff {z : Str} : PyData.strOk z = true ↔ okS z := by
  unfold PyData.strOk okS
  rw [← Array.all_toList, List.all_eq_true]
  exact ⟨fun h c hc => of_decide_eq_true (h c hc), fun h c hc => decide_eq_true (h c hc)⟩
theorem tl_app (a b : Str) : (a ++ b).cps.toList = a.cps.toList ++ b.cps.toList := by rw [Str.cps_append, Array.toList_append]
theorem okS_app {a b : Str} : okS (a ++ b) ↔ okS a ∧ okS b := by
  unfold okS
  rw [tl_app]
  exact ⟨fun h => ⟨fun c hc => h c (List.mem_append_left _ hc), fun c hc => h c (List.mem_append_right _ hc)⟩, fun h c hc => (List.mem_append.mp hc).elim (h.1 c) (h.2 c)⟩
theorem okS_join {y : Str} (hy : okS y) : ∀ {l : List Str}, (okS (Str.join y l) ↔ ∀ z ∈ l, okS z)
  | [] => ⟨fun _ _ h => (by cases h), fun _ c hc => (by rw [PyProof.Rows.join_nil] at hc; cases hc)⟩
  | [a] => by rw [PyProof.Rows.join_one]; simp
  | a :: b :: r => by
    have ih := okS_join hy (l := b :: r)
    rw [PyProof.Rows.join_cons_cons, okS_app, okS_app, ih]
    constructor
    · rintro ⟨⟨h1, _⟩, h2⟩ z hz
      rcases List.mem_cons.mp hz with e | hz
      · rw [e]; exact h1
      · exact h2 z hz
    · intro h
      exact ⟨⟨h a (by simp), hy⟩, fun z hz => h z (List.mem_cons_of_mem _ hz)⟩
theorem okS_split {z y : Str} (hy : okS y) (h : okS z) : ∀ w ∈ Txt.split z y, okS w := (okS_join hy).mp (by rw [StrLaws.join_split]; exact h)
theorem ok_sp : okS " " := by unfold okS; decide +kernel
theorem ok_at : okS "@" := by unfold okS; decide +kernel
theorem okS_cut {z : Str} {lo hi : Option Int} (h : okS z) : okS (cutS z lo hi) := by
  unfold cutS okS
  intro c hc
  exact h c (List.mem_of_mem_drop (List.mem_of_mem_take (by simpa using hc)))
theorem eqv_dS : ∀ {l m : List Str}, PyData.eqv (.list (dS l)) (.list (dS m)) = decide (l = m)
  | [], [] => rfl
  | [], _ :: _ => rfl
  | _ :: _, [] => rfl
  | a :: l, b :: m => by
    have ih := eqv_dS (l := l) (m := m)
    have e : PyData.eqv (.list (dS (a :: l))) (.list (dS (b :: m))) = ((a == b) && PyData.eqv (.list (dS l)) (.list (dS m))) := by
      show PyData.eqv (.list (.str a :: dS l)) (.list (.str b :: dS m)) = _
      simp only [PyData.eqv, PyData.eqvAll]
    rw [e, ih]
    by_cases h : a = b
    · subst h; simp
    · simp [h]
theorem countP_SV {n : Str} : ∀ {l : List Str}, (SV l).countP (fun z => eqV z (.str n)) = l.count n
  | [] => rfl
  | a :: l => by
    have ih := countP_SV (n := n) (l := l)
    show (V.str a :: SV l).countP _ = _
    rw [List.countP_cons, List.count_cons, ih]
    by_cases h : a = n
    · subst h; simp [eqV]
    · have : eqV (V.str a) (V.str n) = false := by simp [eqV, h]
      rw [this, if_neg (by simp), if_neg (by simpa using h)]
theorem sv_inj {l m : List Str} (h : SV l = SV m) : l = m := (List.map_inj_right (fun _ _ z => V.str.inj z)).mp h
def RowsL (H : Hp) (b : Addr) (rows : List (List Str)) : Prop := ∃ ps : List Addr, H b = some (.lst (ps.map V.ref)) ∧ Paired (fun p r => H p = some (.lst (SV r))) ps rows
theorem RowsL.mono {H H' : Hp} {b : Addr} {rows : List (List Str)} (e : Ex H H') (h : RowsL H b rows) : RowsL H' b rows := by
  obtain ⟨ps, h1, h2⟩ := h
  exact ⟨ps, e _ _ h1, L2.Paired.mapP h2 fun p r z => e _ _ z⟩
section
variable {K : Fr} {mg : Str → Option Value} {vs : List V} {H : Hp} {Q : VK} {E : XK} {σ : L2.St} {tl te : TE}
theorem rows_lst {ps : List Addr} {rows : List (List Str)} {f : List Str → V} {ys : List V} (h : Paired (fun p r => H p = some (.lst (SV r))) ps rows) (hp : Paired (fun x y => ∀ q r, x = V.ref q → H q = some (.lst (SV r)) → y = f r) (ps.map V.ref) ys) : ys = rows.map f := by
  induction h generalizing ys with
  | nil => cases hp; rfl
  | @cons p r ps rows h t ih =>
    cases hp with
    | cons h1 h2 =>
      rw [h1 p r rfl h, ih h2]
      rfl
theorem el_rows {b : Addr} {rows : List (List Str)} {i : Nat} {vs : List Nat} (f : List Str → V) (hl : Ev tl σ H (.ref b)) (hx : RowsL H b rows) (hlen : rows.length ≤ 1000000) (hw : ∀ x, wipe ((wipe σ vs).set i (some x)) vs = wipe σ vs)
    (he : ∀ q r, r ∈ rows → ∀ H1, Ex H H1 → H1 q = some (.lst (SV r)) → Ev te ((wipe σ vs).set i (some (.ref q))) H1 (f r)) : EvL (tLc (iList K tl) (gName i) tYes te vs) σ H (rows.map f) := by
  obtain ⟨ps, hb, hp⟩ := hx
  intro H0 e0 Q q
  refine lc_listV (hl.mono e0) (sq_of (e0 _ _ hb)) (fun _ => true) (fun x y _ => ∀ q r, x = V.ref q → H q = some (.lst (SV r)) → y = f r) (by rw [List.length_map, hp.length]; exact hlen) hw (fun D H1 hD e1 hacc x hx => ?_) fun D ys H' hD e h r => q D H' hD e (by
    have fs : (ps.map V.ref).filter (fun _ => true) = ps.map V.ref := List.filter_eq_self.mpr fun _ _ => rfl
    rw [fs] at r
    rw [h, rows_lst hp r])
  obtain ⟨q0, hq0, rfl⟩ := List.mem_map.mp hx
  obtain ⟨j, r, _, hrj, hqr⟩ := paired_ix hp hq0
  intro k ky h1 h2
  refine et_yes H1 (Evl.Ex.refl _) _ fun H2 e2 => iteB (fun _ => ?_) fun h => by cases h
  refine he q0 r (List.mem_of_getElem? hrj) H2 ((e0.trans e1).trans e2) (((e0.trans e1).trans e2) _ _ hqr) H2 (Evl.Ex.refl _) _ fun H3 e3 => h2 rfl _ H3 (e2.trans e3) fun H5 _ q' r' eq hq' => ?_
  obtain rfl : q0 = q' := V.ref.inj eq
  rw [hqr] at hq'
  have : SV r = SV r' := by injection hq' with h; injection h
  rw [sv_inj this]
theorem el_strB {a : Addr} {l : List Str} {i : Nat} {vs : List Nat} (g : Str → Bool) (hl : Ev tl σ H (.ref a)) (hx : SqL K H a (SV l)) (hlen : l.length ≤ 1000000) (hw : ∀ x, wipe ((wipe σ vs).set i (some x)) vs = wipe σ vs)
    (he : ∀ z ∈ l, ∀ H1, Ex H H1 → Ev te ((wipe σ vs).set i (some (.str z))) H1 (.bl (g z))) : EvL (tLc (iList K tl) (gName i) tYes te vs) σ H ((l.map g).map V.bl) := by
  have h := lc_strV (K := K) (te := te) (tt := tYes) (i := i) (vs := vs) hl hx (fun _ => true) (fun z => .bl (g z)) hlen hw (fun _ _ _ _ => et_yes) (fun z hz _ => he z hz)
  have fs : l.filter (fun _ => true) = l := List.filter_eq_self.mpr fun _ _ => rfl
  rw [fs] at h
  rw [List.map_map]
  exact h
theorem el_rowsB {b : Addr} {rows : List (List Str)} {i : Nat} {vs : List Nat} (g : List Str → Bool) (hl : Ev tl σ H (.ref b)) (hx : RowsL H b rows) (hlen : rows.length ≤ 1000000) (hw : ∀ x, wipe ((wipe σ vs).set i (some x)) vs = wipe σ vs)
    (he : ∀ q r, r ∈ rows → ∀ H1, Ex H H1 → H1 q = some (.lst (SV r)) → Ev te ((wipe σ vs).set i (some (.ref q))) H1 (.bl (g r))) : EvL (tLc (iList K tl) (gName i) tYes te vs) σ H ((rows.map g).map V.bl) := by
  have h := el_rows (K := K) (te := te) (i := i) (vs := vs) (fun r => .bl (g r)) hl hx hlen hw he
  rw [List.map_map]
  exact h
theorem ev_cnt {ta tb : TE} {a : Addr} {l : List Str} {n : Str} (ha : Ev ta σ H (.ref a)) (hb : Ev tb σ H (.str n)) (hl : SqL K H a (SV l)) : Ev (tBM K "list" (rCntV K) ta (tCons tb tNil)) σ H (.int (l.count n : Nat)) := fun H1 e1 Q q =>
  ha H1 e1 _ fun H2 e2 => ⟨.inl ⟨rfl, _, ex_l (e1.trans e2) hl⟩, hb H2 (e1.trans e2) _ fun H3 e3 => ⟨a, SV l, .str n, rfl, rfl, ex_l ((e1.trans e2).trans e3) hl, rfl, flat_SV l, by rw [countP_SV]; exact q H3 (e2.trans e3)⟩⟩
theorem ev_isName' {te : TE} {f : L2.St → XK} {z : Str} (h : Ev te σ H (.str z)) (hz : z.length ≤ 5000) : Ev (tCallS (sp_l_is_name K) f (tCons te tNil)) σ H (.bl (isName z)) := ev_cS (ea_cons h ea_nil) fun H1 e Q q => ⟨z, rfl, hz, q⟩
theorem all_map_id {α : Type} {l : List α} {g : α → Bool} : (l.map g).all id = l.all g := by rw [List.all_map]; rfl
theorem ev_all' {tx : TE} {bs : List Bool} {b : Bool} (h : EvL tx σ H (bs.map V.bl)) (e : bs.all id = b) : Ev (tCB (rAll K) (tCons tx tNil)) σ H (.bl b) := e ▸ ev_all h
theorem ev_neL {ta tb : TE} {a : Addr} {us ws : List Str} (ha : Ev ta σ H (.ref a)) (hu : SqL K H a (SV us)) (hb : EvL tb σ H (SV ws)) (ok : ∀ u ∈ us, PyData.strOk u = true) (ok2 : ∀ u ∈ ws, PyData.strOk u = true) : Ev (tOp (rNeA K) ta tb) σ H (.bl (!decide (us = ws))) :=
  ev_opL ha hb fun p H1 hp e H2 e2 Q q => .inr ⟨_, _, .lst (ex_l (e.trans e2) hu) (dp_SV us), .lst (ex_l e2 (sq_of hp)) (dp_SV ws), sh_dS ok, sh_dS ok2, by rw [eqv_dS]; exact q H2 (Evl.Ex.refl _)⟩
def someOf (z : Str) : List Str := hostsOf z ++ (rowsOf z).map fun r => r.headD ""
theorem lawOk_iff {z : Str} : lawOk z = true ↔ (wordsOf z = hostsOf z ++ (rowsOf z).map (Txt.join "@")) ∧ (2 ≤ (hostsOf z).length ∧ (hostsOf z).length ≤ 6) ∧ (1 ≤ (rowsOf z).length ∧ (rowsOf z).length ≤ 5) ∧ (∀ h ∈ hostsOf z, isName h = true) ∧
    (∀ r ∈ rowsOf z, r.length = 2) ∧ (∀ n ∈ someOf z, isName n = true ∧ (someOf z).count n = 1) ∧ (∀ r ∈ rowsOf z, r.getD 1 "" ∈ hostsOf z) := by
  unfold lawOk someOf
  simp only [Bool.and_eq_true, List.all_eq_true, decide_eq_true_eq]
  constructor
  · rintro ⟨⟨⟨⟨⟨a, b⟩, c⟩, d, e⟩, f⟩, g⟩
    exact ⟨a, b, c, d, e, f, g⟩
  · rintro ⟨a, b, c, d, e, f, g⟩
    exact ⟨⟨⟨⟨⟨a, b⟩, c⟩, d, e⟩, f⟩, g⟩
theorem lawDue_not {z : Str} {b : Bool} (hb : b = true) (h : lawOk z = true → b = false) : lawDue z = none := by
  unfold lawDue
  cases hl : lawOk z with
  | false => rfl
  | true => rw [h hl] at hb; cases hb
theorem rows_join {z : Str} : (rowsOf z).map (Txt.join "@") = (wordsOf z).filter hasAt := by
  unfold rowsOf
  rw [List.map_map]
  have : ((Txt.join "@") ∘ fun y => Txt.split y "@") = id := by
    funext y
    show Txt.join "@" (Txt.split y "@") = y
    rw [TL.join_eq, StrLaws.join_split]
  rw [this, List.map_id]
theorem lawDue_no {z : Str} (h : lawOk z = false) : lawDue z = none := by unfold lawDue; rw [h]; rfl
theorem ok_words {z : Str} (h : PyData.strOk z = true) : ∀ w ∈ wordsOf z, PyData.strOk w = true := fun w hw => okS_iff.mpr (okS_split ok_sp (okS_iff.mp h) w hw)
theorem pure_l_due (T : Tx K mg) (h : sp_l_due K vs H Q E) : t_l_due K { nx := fun _ H' => Q .non H', rt := Q } (start N_l_due vs) H := by
  obtain ⟨z, rfl, hz, hok, k1, k2⟩ := h
  unfold t_l_due; walk_at "o"
  have lw := (small_words hz).1
  refine el_split (ev_var rfl) ev_c rfl (by omega) H (Evl.Ex.refl _) _ fun p H1 hp e1 h1 => ?_
  refine lc_strV (l := wordsOf z) (keep := fun y => !hasAt y) (f := V.str) (ev_var rfl) (sq_of h1) (by omega) (fun _ => rfl) (fun y _ H2 _ => et_ni rfl) (fun y _ _ H2 _ => ev_var rfl) H1 (Evl.Ex.refl _) _ fun q H2 hq e2 h2 => ?_
  refine lc_listV (K := K) (xs := SV (wordsOf z)) (keep := fun x => hasAt (stV x)) (R := fun x y H => ∃ p, y = V.ref p ∧ H p = some (.lst (SV (Txt.split (stV x) "@")))) (ev_var rfl) (sq_of (e2 _ _ h1)) (by rw [List.length_map]; omega) (fun _ => rfl) (fun D H3 hD e3 hacc x hx => ?_) fun b ys H3 hr e3 h3 hpr => ?_
  · obtain ⟨y, hy, rfl⟩ := List.mem_map.mp hx
    intro k ky q1 q2
    refine et_in (y := y) rfl H3 (Evl.Ex.refl _) _ fun H4 e4 => iteB (fun hb => ?_) (fun hb => q1 hb H4 e4)
    have ly := (small_words hz).2 y hy
    refine el_split (ev_var rfl) ev_c rfl (by omega) H4 (Evl.Ex.refl _) _ fun s H5 hs e5 h5 => ?_
    obtain ⟨acc, hac⟩ := hacc
    exact q2 hb _ _ (e4.trans e5) fun H6 e6 => ⟨s, rfl, e6 _ _ (Ne.symm (ex_ne hac e4 hs)) h5⟩
  · have fs : (SV (wordsOf z)).filter (fun x => hasAt (stV x)) = SV ((wordsOf z).filter hasAt) := filter_SV fun _ _ => rfl
    rw [fs] at hpr
    obtain ⟨ps, rfl, hp⟩ := rows_of (R := fun r => HO.lst (SV r)) hpr
    have e13 : Ex H H3 := (e1.trans e2).trans e3
    have hqs : H3 q = some (.lst (SV (hostsOf z))) := e3 _ _ h2
    have hps : H3 p = some (.lst (SV (wordsOf z))) := e3 _ _ (e2 _ _ h1)
    have hb : RowsL H3 b (rowsOf z) := ⟨ps, h3, hp⟩
    have sh := small_hosts hz
    have sr := small_rows hz
    have hl2 := (hb).choose_spec.1
    have lr : (rowsOf z).length ≤ 5000 := sr.1
    have lenps : ps.length = (rowsOf z).length := hp.length
    have okw := ok_words hok
    have hbl : SqL K H3 b (ps.map V.ref) := sq_of h3
    refine et_or (et_test (ev_neL (ws := hostsOf z ++ (rowsOf z).map (Txt.join "@")) (ev_var rfl) (sq_of hps) (by
        rw [SV_app]
        have hJ := el_rows (K := K) (tl := tVar 3) (te := tM1 (rJoin K) (tC (.str "@")) (tVar 6)) (σ := [some (.str z), some (.ref p), some (.ref q), some (.ref b), none, none, none, none, none]) (i := 6) (vs := [6]) (fun r => .str (Txt.join "@" r)) (ev_var rfl) hb (by omega) (fun _ => rfl) (fun y r hr H4 e4 hy => ?_)
        · have e9 : SV ((rowsOf z).map (Txt.join "@")) = (rowsOf z).map fun r => V.str (Txt.join "@" r) := List.map_map
          rw [e9]
          refine el_catL (ev_var rfl) hqs hJ ?_
          rw [List.length_map, List.length_map]
          have := sh.1
          omega
        · refine ev_joinE ev_c (ev_var rfl) (sq_of hy) ?_
          have s2 := sr.2 r hr
          obtain ⟨w, hw, rfl⟩ := List.mem_map.mp hr
          obtain ⟨g1, _, g2⟩ := split_len (z := w) (s := "@") rfl
          have g3 := (small_words hz).2 w (List.mem_filter.mp hw).1
          have g4 : ("@" : Str).length = 1 := rfl
          rw [g4]
          omega) okw (fun u hu => by
        rw [rows_join] at hu
        rcases List.mem_append.mp hu with h | h
        · exact okw u (List.mem_filter.mp h).1
        · exact okw u (List.mem_filter.mp h).1)))
      (fun _ => et_or (et_not (et_test (ev_chain ev_c (ev_lenL (ev_var rfl) (sq_of hqs)) ev_c))) fun _ => et_not (et_test (ev_chain ev_c (ev_lenL (ev_var rfl) hbl) ev_c))) H3 (Evl.Ex.refl _) _ fun H4 e4 => iteB (fun h => ?_) (fun h => ?_)
    · refine k1 (lawDue_not h fun hL => ?_) H4 (e13.trans e4)
      obtain ⟨a, ⟨b1, b2⟩, ⟨c1, c2⟩, _⟩ := lawOk_iff.mp hL
      rw [decide_eq_true a, List.length_map, List.length_map, lenps, decide_eq_true (by omega), decide_eq_true (by omega), decide_eq_true (by omega), decide_eq_true (by omega)]
      rfl
    · simp only [Bool.or_eq_false_iff, Bool.not_eq_false', Bool.and_eq_true, decide_eq_true_eq] at h
      obtain ⟨a, ⟨b1, b2⟩, c1, c2⟩ := h
      rw [List.length_map] at b1 b2 c1 c2
      rw [lenps] at c1 c2
      have hq4 := e4 _ _ hqs
      have hb4 := hb.mono e4
      refine et_or (et_not (et_B (ev_all' (el_strB isName (ev_var rfl) (sq_of hq4) (by omega) (fun _ => rfl) (fun y hy H5 e5 => ev_isName' (ev_var rfl) (sh.2 y hy))) all_map_id)))
        (fun _ => et_not (et_B (ev_all' (el_rowsB (fun r => decide (r.length = 2)) (ev_var rfl) hb4 (by omega) (fun _ => rfl) (fun y r hr H5 e5 hy => ev_bl (ev_eqI (ev_lenL (ev_var rfl) (sq_of hy)) ev_c) (by
          rw [List.length_map]
          by_cases h2 : r.length = 2
          · rw [decide_eq_true h2, decide_eq_true (by omega)]
          · rw [decide_eq_false h2, decide_eq_false (by omega)]))) all_map_id))) H4 (Evl.Ex.refl _) _ fun H5 e5 => iteB (fun h => ?_) (fun h => ?_)
      · refine k1 (lawDue_not h fun hL => ?_) H5 ((e13.trans e4).trans e5)
        obtain ⟨_, _, _, d1, d2, _⟩ := lawOk_iff.mp hL
        rw [List.all_eq_true.mpr d1, List.all_eq_true.mpr fun r hr => decide_eq_true (d2 r hr)]
        rfl
      · simp only [Bool.or_eq_false_iff, Bool.not_eq_false', List.all_eq_true, decide_eq_true_eq] at h
        obtain ⟨d1, d2⟩ := h
        have r2 : ∀ r ∈ rowsOf z, ∃ n m, r = [n, m] := fun r hr => by
          have := d2 r hr
          match r, this with
          | [n, m], _ => exact ⟨n, m, rfl⟩
        have hq5 := e5 _ _ hq4
        have hb5 := hb4.mono e5
        have hJ := el_rows (K := K) (H := H5) (tl := tVar 3) (te := tOp (rIx K) (tVar 6) (tC (.int 0))) (σ := [some (.str z), some (.ref p), some (.ref q), some (.ref b), none, none, none, none, none]) (i := 6) (vs := [6]) (fun r => .str (r.headD "")) (ev_var rfl) hb5 (by omega) (fun _ => rfl) (fun y r hr H6 e6 hy => by
          obtain ⟨n, m, rfl⟩ := r2 r hr
          exact ev_ixL (ev_var rfl) ev_c (sq_of hy) (atI_nat (j := 0) rfl))
        have e8 : SV (hostsOf z) ++ ((rowsOf z).map fun r => V.str (r.headD "")) = SV (someOf z) := by
          unfold someOf
          rw [SV_app]
          congr 1
          exact List.map_map.symm
        have hS := el_catL (K := K) (ta := tVar 2) (ev_var rfl) hq5 hJ (by rw [List.length_map, List.length_map]; omega)
        rw [e8] at hS
        refine hS H5 (Evl.Ex.refl _) _ fun s H6 hs e6 h6 => ?_
        have ls : (someOf z).length ≤ 20 := by unfold someOf; rw [List.length_append, List.length_map]; omega
        have ss : ∀ n ∈ someOf z, n.length ≤ 5000 := fun n hn => by
          rcases List.mem_append.mp hn with h | h
          · exact sh.2 n h
          · obtain ⟨r, hr, rfl⟩ := List.mem_map.mp h
            obtain ⟨n, m, rfl⟩ := r2 r hr
            exact (sr.2 _ hr).2 n (by simp)
        refine et_not (et_B (ev_all' (el_strB (fun n => isName n && decide ((someOf z).count n = 1)) (ev_var rfl) (sq_of h6) (by omega) (fun _ => rfl) (fun y hy H7 e7 => ev_andV (ev_isName' (ev_var rfl) (ss y hy)) (fun _ => ev_bl (ev_eqI (ev_cnt (ev_var rfl) (ev_var rfl) (sq_of (e7 _ _ h6))) ev_c) (by
          by_cases h2 : (someOf z).count y = 1
          · rw [decide_eq_true h2, decide_eq_true (by omega)]
          · rw [decide_eq_false h2, decide_eq_false (by omega)])))) all_map_id)) H6 (Evl.Ex.refl _) _ fun H7 e7 => iteB (fun h => ?_) (fun h => ?_)
        · refine k1 (lawDue_not h fun hL => ?_) H7 ((((e13.trans e4).trans e5).trans e6).trans e7)
          obtain ⟨_, _, _, _, _, f1, _⟩ := lawOk_iff.mp hL
          rw [List.all_eq_true.mpr fun n hn => by
            obtain ⟨g1, g2⟩ := f1 n hn
            rw [g1, decide_eq_true g2]
            rfl]
          rfl
        · simp only [Bool.not_eq_false', List.all_eq_true, Bool.and_eq_true, decide_eq_true_eq] at h
          have f1 := h
          have e57 := e6.trans e7
          have hq7 := e57 _ _ hq5
          have hb7 := hb5.mono e57
          refine et_not (et_B (ev_all' (el_rowsB (fun r => decide (r.getD 1 "" ∈ hostsOf z)) (ev_var rfl) hb7 (by omega) (fun _ => rfl) (fun y r hr H8 e8 hy => ?_)) all_map_id)) H7 (Evl.Ex.refl _) _ fun H8 e8 => iteB (fun h => ?_) (fun h => ?_)
          · obtain ⟨n, m, rfl⟩ := r2 r hr
            exact ev_inL (z := m) (ev_ixL (ev_var rfl) ev_c (sq_of hy) (atI_nat (j := 1) rfl)) (ev_var rfl) (sq_of (e8 _ _ hq7))
          · refine k1 (lawDue_not h fun hL => ?_) H8 (((((e13.trans e4).trans e5).trans e6).trans e7).trans e8)
            obtain ⟨_, _, _, _, _, _, g1⟩ := lawOk_iff.mp hL
            rw [List.all_eq_true.mpr fun r hr => decide_eq_true (g1 r hr)]
            rfl
          · simp only [Bool.not_eq_false', List.all_eq_true, decide_eq_true_eq] at h
            have hL : lawOk z = true := lawOk_iff.mpr ⟨a, ⟨by omega, by omega⟩, ⟨by omega, by omega⟩, d1, d2, f1, h⟩
            have e08 := ((((e13.trans e4).trans e5).trans e6).trans e7).trans e8
            have e38 := (((e4.trans e5).trans e6).trans e7).trans e8
            have hq8 := e8 _ _ hq7
            have hb8 := hb7.mono e8
            obtain ⟨ps8, hps8, hp8⟩ := hb8
            refine ⟨_, rfl, ?_⟩
            refine cons_ ?_
            refine lc_listV (K := K) (xs := ps8.map V.ref) (keep := fun _ => true) (R := fun x y H => ∀ q r, x = V.ref q → H8 q = some (.lst (SV r)) → r ∈ rowsOf z → ∃ t, y = V.ref t ∧ H t = some (.tup (SV r))) (ev_var rfl) (sq_of hps8) (by rw [List.length_map, hp8.length]; omega) (fun _ => rfl) (fun D H9 hD e9 hacc x hx => ?_) fun D ys H9 hD e9 h9 hpr => ?_
            · obtain ⟨q0, hq0, rfl⟩ := List.mem_map.mp hx
              obtain ⟨j, r, _, hrj, hqr⟩ := paired_ix hp8 hq0
              obtain ⟨n, m, rfl⟩ := r2 r (List.mem_of_getElem? hrj)
              intro k ky q1 q2
              refine et_yes H9 (Evl.Ex.refl _) _ fun H10 e10 => iteB (fun _ => ?_) fun h => by cases h
              have hq10 := (e9.trans e10) _ _ hqr
              refine eu_tup (vs := SV [n, m]) (ea_cons (ev_ixL (ev_var rfl) ev_c (sq_of hq10) (atI_nat (j := 0) rfl)) (ea_cons (ev_ixL (ev_var rfl) ev_c (sq_of hq10) (atI_nat (j := 1) rfl)) ea_nil)) (by show 2 ≤ _; decide) H10 (Evl.Ex.refl _) _ fun t H11 ht e11 h11 => ?_
              obtain ⟨acc, hac⟩ := hacc
              refine q2 rfl _ H11 (e10.trans e11) fun H12 e12 q' r' eq hq' hr' => ⟨t, rfl, ?_⟩
              obtain rfl : q0 = q' := V.ref.inj eq
              rw [hqr] at hq'
              have hh : SV [n, m] = SV r' := by injection hq' with h; injection h
              rw [← hh]
              exact e12 _ _ (Ne.symm (ex_ne hac e10 ht)) h11
            · have fs2 : (ps8.map V.ref).filter (fun _ => true) = ps8.map V.ref := List.filter_eq_self.mpr fun _ _ => rfl
              rw [fs2] at hpr
              refine ⟨by show 2 ≤ _; rw [sizeLine_eq]; decide, fun t ht => ?_⟩
              refine k2 (hostsOf z) (rowsOf z) t q D _ (by unfold lawDue; rw [hL]; rfl) (e08.trans (e9.trans (Evl.Ex.new ht))) upd_same ((e9.trans (Evl.Ex.new ht)) _ _ hq8) (RowsAt.mono (Evl.Ex.new ht) ?_)
              have : ∀ (ps : List Addr) (rows : List (List Str)) (ys : List V), (∀ r ∈ rows, r ∈ rowsOf z) → Paired (fun p r => H8 p = some (.lst (SV r))) ps rows → Paired (fun x y => ∀ q r, x = V.ref q → H8 q = some (.lst (SV r)) → r ∈ rowsOf z → ∃ t, y = V.ref t ∧ H9 t = some (.tup (SV r))) (ps.map V.ref) ys → ∃ ts : List Addr, ys = ts.map V.ref ∧ Paired (fun p r => H9 p = some (.tup (SV r))) ts rows := by
                intro ps
                induction ps with
                | nil => intro rows ys _ h1 h2; cases h1; cases h2; exact ⟨[], rfl, .nil⟩
                | cons p ps ih =>
                  intro rows ys hm h1 h2
                  cases h1 with
                  | @cons _ r _ rows h1 t1 =>
                    cases h2 with
                    | cons h2 t2 =>
                      obtain ⟨t, rfl, ht⟩ := h2 p r rfl h1 (hm r (by simp))
                      obtain ⟨ts, rfl, hts⟩ := ih rows _ (fun r hr => hm r (by simp [hr])) t1 t2
                      exact ⟨t :: ts, rfl, .cons ht hts⟩
              obtain ⟨ts, rfl, hts⟩ := this ps8 (rowsOf z) ys (fun _ h => h) hp8 hpr
              exact ⟨ts, h9, hts⟩
end
end W93
namespace W93
open PySem PySem.Spec PyProof.Rows L2 LiI WB
open Evl hiding Ex
local macro_rules | `(tactic| walk_at "o") => `(tactic| dsimp only [tSeq, tIfS, tNext, tRet, tRetN, tDrop, tAsg, gName, tNever])
theorem spl_pos (S : List Nat) : ∀ (l : List Nat) (k : Nat) (acc : List Nat), TL.spl S k acc l ≠ []
  | [], _, _ => by unfold TL.spl; simp
  | c :: r, 0, acc => by
    unfold TL.spl
    split
    · simp
    · exact spl_pos S r 0 _
  | _ :: r, k + 1, acc => by
    unfold TL.spl
    exact spl_pos S r k acc
theorem split_pos (z : Str) : Txt.split z " " ≠ [] := fun e => by
  have h := TL.split_spl z " " (by decide) (TL.kind_ok (by decide +kernel))
  rw [e] at h
  exact spl_pos _ _ _ _ h.symm
theorem wordsOf_pos (z : Str) : 1 ≤ (wordsOf z).length := by
  unfold wordsOf
  cases e : Txt.split z " " with
  | nil => exact absurd e (split_pos z)
  | cons => simp
theorem words_sum (z : Str) : ((wordsOf z).map (·.length)).sum + (wordsOf z).length = z.length + 1 := by
  have j := join_len " " (split_pos z)
  rw [StrLaws.join_split] at j
  unfold wordsOf
  have l1 : (" " : Str).length = 1 := rfl
  rw [l1] at j
  omega
theorem sum_take_drop {l : List Str} (i : Nat) : ((l.take i).map (·.length)).sum + ((l.drop i).map (·.length)).sum = (l.map (·.length)).sum := by
  rw [← List.sum_append, ← List.map_append, List.take_append_drop]
theorem sum_set {l : List Str} {a x : Str} : ∀ {i : Nat}, l[i]? = some x → ((l.set i a).map (·.length)).sum + x.length = (l.map (·.length)).sum + a.length := by
  induction l with
  | nil => intro i h; cases h
  | cons y l ih =>
    intro i h
    cases i with
    | zero =>
      have : y = x := Option.some.inj h
      subst this
      rw [List.set_cons_zero, List.map_cons, List.map_cons, List.sum_cons, List.sum_cons]
      omega
    | succ i =>
      have := ih (i := i) h
      rw [List.set_cons_succ, List.map_cons, List.map_cons, List.sum_cons, List.sum_cons]
      omega
section
variable {K : Fr} {mg : Str → Option Value} {vs : List V} {H : Hp} {Q : VK} {E : XK} {σ : L2.St} {tl te : TE}
theorem join_fin {l : List Str} {z : Str} {p : Addr} (po : Pot H p) (hl : EvL te σ H (SV l)) (hs : (l.map (·.length)).sum + l.length ≤ 2 * z.length + 20) (hz : z.length ≤ 450) (ok : ∀ w ∈ l, okS w)
    (k : ∀ z' H', z'.length ≤ 2 * z.length + 20 → PyData.strOk z' = true → ExP p H H' → Pot H' p → Q (.str z') H') : tM1 (rJoin K) (tC (.str " ")) te σ H Q := by
  have l1 : (" " : Str).length = 1 := rfl
  refine ev_joinL (l := l) ev_c hl (by rw [l1]; omega) H (Evl.Ex.refl _) _ fun H1 e1 => k _ H1 ?_ (okS_iff.mpr (by rw [TL.join_eq]; exact (okS_join ok_sp).mpr ok)) (ExP.of e1) (pot_mono e1 po)
  rw [TL.join_eq]
  by_cases h : l = []
  · subst h; rw [PyProof.Rows.join_nil]; exact Nat.zero_le _
  · have := join_len " " h
    rw [l1] at this
    omega
theorem join_finV {l : List Str} {z : Str} {p a : Addr} (po : Pot H p) (ha : Ev te σ H (.ref a)) (hl : H a = some (.lst (SV l))) (hs : (l.map (·.length)).sum + l.length ≤ 2 * z.length + 20) (hz : z.length ≤ 450) (ok : ∀ w ∈ l, okS w)
    (k : ∀ z' H', z'.length ≤ 2 * z.length + 20 → PyData.strOk z' = true → ExP p H H' → Pot H' p → Q (.str z') H') : tM1 (rJoin K) (tC (.str " ")) te σ H Q := by
  have l1 : (" " : Str).length = 1 := rfl
  refine ev_joinE (l := l) ev_c ha (sq_of hl) (by rw [l1]; omega) H (Evl.Ex.refl _) _ fun H1 e1 => k _ H1 ?_ (okS_iff.mpr (by rw [TL.join_eq]; exact (okS_join ok_sp).mpr ok)) (ExP.of e1) (pot_mono e1 po)
  rw [TL.join_eq]
  by_cases h : l = []
  · subst h; rw [PyProof.Rows.join_nil]; exact Nat.zero_le _
  · have := join_len " " h
    rw [l1] at this
    omega
theorem ev_cutS {ta : TE} {tlo thi : TO} {z : Str} {lo hi : Option Int} (ha : Ev ta σ H (.str z)) (hlo : EvO tlo σ H lo) (hhi : EvO thi σ H hi) (hz : z.length ≤ 100000) : Ev (tSl (rSlA K) ta tlo thi) σ H (.str (cutS z lo hi)) := fun H1 e1 Q q =>
  ha H1 e1 _ fun H2 e2 => hlo H2 (e1.trans e2) _ fun H3 e3 => hhi H3 ((e1.trans e2).trans e3) _ fun H4 e4 => .inr ⟨z, rfl, small_line (by omega), q H4 ((e2.trans e3).trans e4)⟩
def constWords : List Str := ["", "a", "zz", "a@a", "@", "a@", "@a", "a@b@a", "A"]
def someWords (w0 : Str) : List Str := constWords ++ [("a@" : Str) ++ w0, "abcdefghi"]
theorem constWords_ok : ∀ w ∈ constWords, PyData.strOk w = true ∧ w.length ≤ 9 := by decide +kernel
theorem someWords_ok {w0 : Str} (h : okS w0) : ∀ w ∈ someWords w0, okS w ∧ w.length ≤ w0.length + 9 := by
  intro w hw
  rcases List.mem_append.mp hw with hw | hw
  · have := constWords_ok w hw
    exact ⟨okS_iff.mp this.1, by omega⟩
  · rcases List.mem_cons.mp hw with e | hw
    · rw [e]
      exact ⟨okS_app.mpr ⟨by unfold okS; decide +kernel, h⟩, by rw [Str.length_append]; show 2 + _ ≤ _; omega⟩
    · rw [List.mem_singleton.mp hw]
      exact ⟨by unfold okS; decide +kernel, by show 9 ≤ _; omega⟩
theorem ev_idx_str {ta tb : TE} {z : Str} {i : Int} {c : Nat} (ha : Ev ta σ H (.str z)) (hb : Ev tb σ H (.int i)) (hz : z.length ≤ 100000) (h : atI z.cps.toList i = some c) : Ev (tOp (rIx K) ta tb) σ H (.str (sgn c)) := ev_op ha hb fun H1 e Q q => .inr (.inr ⟨z, i, c, rfl, rfl, small_line (by omega), h, q H1 (Evl.Ex.refl _)⟩)
theorem pure_l_changed (T : Tx K mg) (h : sp_l_changed K vs H Q E) : t_l_changed K { nx := fun _ H' => Q .non H', rt := Q } (start N_l_changed vs) H := by
  obtain ⟨p, z, rfl, pot, hz, hok, k⟩ := h
  unfold t_l_changed; walk_at "o"
  have lw1 := wordsOf_pos z
  have lw2 := words_sum z
  have okw : ∀ w ∈ wordsOf z, okS w := okS_split ok_sp (okS_iff.mp hok)
  refine el_split (ev_var rfl) ev_c rfl (by omega) H (Evl.Ex.refl _) _ fun w H1 hw e1 h1 => ?_
  have h1 : H1 w = some (.lst (SV (wordsOf z))) := h1
  have pot1 := pot_mono e1 pot
  have wp := pot.ne hw
  have lS : (SV (wordsOf z)).length = (wordsOf z).length := List.length_map _
  refine cons_ ?_
  refine digit_ rfl pot1 (ev_lenL (ev_var rfl) (sq_of h1)) (by omega) (by omega) fun at_ H2 a0 a1 e2 pot2 => ?_
  have h2 := e2 _ _ wp h1
  refine cons_ ?_
  refine digit_ rfl pot2 (ev_lenL (ev_var rfl) (sq_of h2)) (by omega) (by omega) fun ot H3 o0 o1 e3 pot3 => ?_
  have h3 := e3 _ _ wp h2
  refine ⟨_, _, rfl, ?_⟩
  walk_at "o"
  refine digit_ rfl pot3 ev_c (by decide) (by decide) fun way H4 w0 w1 e4 pot4 => ?_
  have h4 := e4 _ _ wp h3
  have e04 : ExP p H H4 := (((ExP.of e1).trans e2).trans e3).trans e4
  rw [lS] at a1 o1
  obtain ⟨i, rfl⟩ := Int.eq_ofNat_of_zero_le a0
  obtain ⟨j, rfl⟩ := Int.eq_ofNat_of_zero_le o0
  have hi : i < (wordsOf z).length := by omega
  have hj : j < (wordsOf z).length := by omega
  have gi : (wordsOf z)[i]? = some (wordsOf z)[i] := List.getElem?_eq_getElem hi
  have gj : (wordsOf z)[j]? = some (wordsOf z)[j] := List.getElem?_eq_getElem hj
  have mi := List.getElem_mem hi
  have mj := List.getElem_mem hj
  have gvi : (SV (wordsOf z))[i]? = some (.str (wordsOf z)[i]) := by rw [List.getElem?_map, gi]; rfl
  have gvj : (SV (wordsOf z))[j]? = some (.str (wordsOf z)[j]) := by rw [List.getElem?_map, gj]; rfl
  have td := sum_take_drop (l := wordsOf z) i
  have si := mem_sum mi
  have sj := mem_sum mj
  have k' : ∀ z' H5, z'.length ≤ 2 * z.length + 20 → PyData.strOk z' = true → ExP p H4 H5 → Pot H5 p → Q (.str z') H5 := fun z' H5 b1 b2 e po => k z' H5 b1 b2 (e04.trans e) po
  refine et_test (ev_eqI (ev_var rfl) ev_c) H4 (Evl.Ex.refl _) _ fun H5 e5 => iteB (fun _ => ?_) (fun _ => ?_)
  · have h5 := e5 _ _ h4
    have hA := el_catLL (K := K) (el_sliceTo (K := K) (tl := tVar 2) (th := tVar 3) (j := i) (σ := [some (.ref p), some (.str z), some (.ref w), some (.int i), some (.int j), some (.int way), none]) (ev_var rfl) (ev_var rfl) (sq_of h5)) (el_sliceFrom (K := K) (tl := tVar 2) (th := tOp (rAddA K) (tVar 3) (tC (.int 1))) (j := i + 1) (ev_var rfl) (ev_is' (ev_addI (i := (i : Int)) (ev_var rfl) ev_c) rfl) (sq_of h5)) (by rw [List.length_take, List.length_drop]; omega)
    have eA : (SV (wordsOf z)).take i ++ (SV (wordsOf z)).drop (i + 1) = SV ((wordsOf z).take i ++ (wordsOf z).drop (i + 1)) := by rw [SV_app, ← List.map_take, ← List.map_drop]
    rw [eA] at hA
    refine join_fin (z := z) (pot_mono e5 pot4) hA ?_ hz (fun u hu => ?_) fun z' H' b1 b2 e po => k' z' H' b1 b2 ((ExP.of e5).trans e) po
    · have td2 := sum_take_drop (l := (wordsOf z).drop i) 1
      rw [List.drop_drop] at td2
      rw [List.map_append, List.sum_append, List.length_append, List.length_take, List.length_drop]
      omega
    · rcases List.mem_append.mp hu with h | h
      · exact okw u (List.mem_of_mem_take h)
      · exact okw u (List.mem_of_mem_drop h)
  refine et_test (ev_eqI (ev_var rfl) ev_c) H5 (Evl.Ex.refl _) _ fun H6 e6 => iteB (fun _ => ?_) (fun _ => ?_)
  · have e46 := e5.trans e6
    have h6 := e46 _ _ h4
    have hA := el_catLL (K := K) (el_catLL (K := K) (el_sliceTo (K := K) (tl := tVar 2) (th := tVar 3) (j := i) (σ := [some (.ref p), some (.str z), some (.ref w), some (.int i), some (.int j), some (.int way), none]) (ev_var rfl) (ev_var rfl) (sq_of h6))
      (el_lst (ta := tCons (tOp (rIx K) (tVar 2) (tVar 4)) tNil) (vs := [.str (wordsOf z)[j]]) (ea_cons (ev_ixL (ev_var rfl) (ev_var rfl) (sq_of h6) (atI_nat gvj)) ea_nil) (by show 1 ≤ _; decide)) (by rw [List.length_take]; simp only [List.length_cons, List.length_nil]; omega)) (el_sliceFrom (K := K) (tl := tVar 2) (th := tVar 3) (j := i) (ev_var rfl) (ev_var rfl) (sq_of h6)) (by rw [List.length_append, List.length_take, List.length_drop]; simp only [List.length_cons, List.length_nil]; omega)
    have eA : (SV (wordsOf z)).take i ++ [V.str (wordsOf z)[j]] ++ (SV (wordsOf z)).drop i = SV ((wordsOf z).take i ++ [(wordsOf z)[j]] ++ (wordsOf z).drop i) := by rw [SV_app, SV_app, ← List.map_take, ← List.map_drop]; rfl
    rw [eA] at hA
    refine join_fin (z := z) (pot_mono e46 pot4) hA ?_ hz (fun u hu => ?_) fun z' H' b1 b2 e po => k' z' H' b1 b2 ((ExP.of e46).trans e) po
    · rw [List.map_append, List.map_append, List.sum_append, List.sum_append, List.length_append, List.length_append, List.length_take, List.length_drop]
      simp only [List.map_cons, List.map_nil, List.sum_cons, List.sum_nil, List.length_cons, List.length_nil]
      omega
    · rcases List.mem_append.mp hu with h | h
      · rcases List.mem_append.mp h with h | h
        · exact okw u (List.mem_of_mem_take h)
        · rw [List.mem_singleton.mp h]; exact okw _ mj
      · exact okw u (List.mem_of_mem_drop h)
  refine et_test (ev_eqI (ev_var rfl) ev_c) H6 (Evl.Ex.refl _) _ fun H7 e7 => iteB (fun _ => ?_) (fun _ => ?_)
  · have e47 := (e5.trans e6).trans e7
    have h7 := e47 _ _ h4
    refine eu_tup (vs := [.str (wordsOf z)[j], .str (wordsOf z)[i]]) (ea_cons (ev_ixL (ev_var rfl) (ev_var rfl) (sq_of h7) (atI_nat gvj)) (ea_cons (ev_ixL (ev_var rfl) (ev_var rfl) (sq_of h7) (atI_nat gvi)) ea_nil)) (by show 2 ≤ _; decide) H7 (Evl.Ex.refl _) _ fun t H8 ht e8 h8 => ?_
    have h8w := e8 _ _ h7
    have tw : t ≠ w := ne_of h8 h8w (by intro z; cases z)
    have ix1 : ixN (SV (wordsOf z)).length (i : Int) = some i := ixN_nat (by rw [lS]; exact hi)
    have ix2 : ixN ((SV (wordsOf z)).set i (.str (wordsOf z)[j])).length (j : Int) = some j := ixN_nat (by rw [List.length_set, lS]; exact hj)
    refine ⟨t, _, rfl, st_of h8, rfl, _, _, rfl, _, rfl, _, rfl, w, _, _, _, rfl, rfl, h8w, ix1, _, _, rfl, _, rfl, _, rfl, w, _, _, _, rfl, rfl, upd_same, ix2, rfl, ?_⟩
    have eA : ((SV (wordsOf z)).set i (.str (wordsOf z)[j])).set j (.str (wordsOf z)[i]) = SV (((wordsOf z).set i (wordsOf z)[j]).set j (wordsOf z)[i]) := by
      unfold SV
      rw [List.map_set, List.map_set]
    rw [eA]
    have e48 : ExP p H4 H8 := ExP.of (e47.trans e8)
    have gj2 : ((wordsOf z).set i (wordsOf z)[j])[j]? = some (wordsOf z)[j] := by
      rw [List.getElem?_set]
      split
      · rename_i hij; subst hij; simp [hi]
      · exact gj
    have s1 := sum_set (a := (wordsOf z)[j]) gi
    have s2 := sum_set (a := (wordsOf z)[i]) gj2
    refine join_finV (z := z) (p := p) (((pot_mono (e47.trans e8) pot4).upd wp).upd wp) (ev_var rfl) upd_same (by rw [List.length_set, List.length_set]; omega) hz (fun u hu => ?_) fun z' H' b1 b2 e po => k z' H' b1 b2 (ExP.trans (ExP.udn (ExP.udn (e04.trans e48) hw) hw) e) po
    · rcases List.mem_or_eq_of_mem_set hu with h | h
      · rcases List.mem_or_eq_of_mem_set h with h | h
        · exact okw u h
        · rw [h]; exact okw _ mj
      · rw [h]; exact okw _ mi
  refine et_test (ev_eqI (ev_var rfl) ev_c) H7 (Evl.Ex.refl _) _ fun H8 e8 => iteB (fun _ => ?_) (fun _ => ?_)
  · have e48 := ((e5.trans e6).trans e7).trans e8
    have h8 := e48 _ _ h4
    have g0 : (wordsOf z)[0]? = some (wordsOf z)[0] := List.getElem?_eq_getElem (by omega)
    have gv0 : (SV (wordsOf z))[0]? = some (.str (wordsOf z)[0]) := by rw [List.getElem?_map, g0]; rfl
    have s0 := mem_sum (List.getElem_mem (l := wordsOf z) (n := 0) (by omega))
    refine among_ (xs := SV (someWords (wordsOf z)[0])) rfl (pot_mono e48 pot4) (el_lst (ea_cons ev_c (ea_cons ev_c (ea_cons ev_c (ea_cons ev_c (ea_cons ev_c (ea_cons ev_c (ea_cons ev_c (ea_cons ev_c (ea_cons ev_c (ea_cons (ev_addS ev_c (ev_ixL (ev_var rfl) ev_c (sq_of h8) (atI_nat (j := 0) gv0)) (by show 2 + _ ≤ _; omega)) (ea_cons ev_c ea_nil))))))))))) (by show 11 ≤ _; decide)) (by show 1 ≤ 11; decide) (by show 11 < 1000; decide) fun v H9 H10 e9 hv e10 pot10 => ?_
    obtain ⟨u, hu, rfl⟩ := List.mem_map.mp hv
    obtain ⟨ou, lu⟩ := someWords_ok (okw _ (List.getElem_mem (l := wordsOf z) (n := 0) (by omega))) u hu
    have h10 := e10 _ _ wp (e9 _ _ h8)
    have ix1 : ixN (SV (wordsOf z)).length (i : Int) = some i := ixN_nat (by rw [lS]; exact hi)
    refine ⟨_, rfl, _, rfl, w, _, _, _, rfl, rfl, h10, ix1, ?_⟩
    have eA : (SV (wordsOf z)).set i (.str u) = SV ((wordsOf z).set i u) := by
      unfold SV
      rw [List.map_set]
    rw [eA]
    have s1 := sum_set (a := u) gi
    have e0x : ExP p H H10 := ((e04.tx e48).tx e9).trans e10
    refine join_finV (z := z) (p := p) (pot10.upd wp) (ev_var rfl) upd_same (by rw [List.length_set]; omega) hz (fun y hy => ?_) fun z' H' b1 b2 e po => k z' H' b1 b2 (ExP.trans (ExP.udn e0x hw) e) po
    rcases List.mem_or_eq_of_mem_set hy with h | h
    · exact okw y h
    · rw [h]; exact ou
  have e48 := ((e5.trans e6).trans e7).trans e8
  have pot8 := pot_mono e48 pot4
  refine digit_ rfl pot8 (ev_addI (ev_lenS (ev_var rfl) (by omega)) ev_c) (by omega) (by omega) fun sp H9 sp0 sp1 e9 pot9 => ?_
  have e49 := (ExP.of e48).trans e9
  refine et_test (ev_rI0 (ev_var rfl) ev_c) H9 (Evl.Ex.refl _) _ fun H10 e10 => iteB (fun _ => ?_) (fun _ => ?_)
  · have pot10 := pot_mono e10 pot9
    refine op_ ?_
    refine op_ ?_
    refine ev_cutS (ev_var rfl) eo_none (eo_some (ev_var rfl)) (by omega) H10 (Evl.Ex.refl _) _ fun H11 e11 => ?_
    refine opc_ ?_
    refine digit_ rfl (pot_mono e11 pot10) ev_c (by decide) (by decide) fun d H12 d0 d1 e12 pot12 => ?_
    obtain ⟨n, rfl⟩ := Int.eq_ofNat_of_zero_le d0
    have hc0 : ∀ c ∈ (" @\nabA1" : Str).cps.toList, c < 0x110000 := by decide +kernel
    have hcl : (" @\nabA1" : Str).cps.toList.length = 7 := by decide +kernel
    have hn : n < (" @\nabA1" : Str).cps.toList.length := by omega
    refine .inr (.inr ⟨_, n, _, rfl, rfl, small_line (by decide +kernel), atI_nat (List.getElem?_eq_getElem hn), ?_⟩)
    have c1 := cutS_length z none (some sp)
    have c2 := cutS_length z (some sp) none
    refine .inr (.inl ⟨_, _, rfl, rfl, small_line (by show _ + 1 ≤ _; omega), ?_⟩)
    refine ev_cutS (ev_var rfl) (eo_some (ev_var rfl)) eo_none (by omega) H12 (Evl.Ex.refl _) _ fun H13 e13 => .inr (.inl ⟨_, _, rfl, rfl, ?_, ?_⟩)
    · refine small_line ?_
      rw [Str.length_append]
      show _ + 1 + _ ≤ _
      omega
    · refine k' _ H13 ?_ (okS_iff.mpr (okS_app.mpr ⟨okS_app.mpr ⟨okS_cut (okS_iff.mp hok), fun c hc => ?_⟩, okS_cut (okS_iff.mp hok)⟩)) (((e49.tx (e10.trans e11)).trans e12).tx e13) (pot_mono e13 pot12)
      · rw [Str.length_append, Str.length_append]
        show _ + 1 + _ ≤ _
        omega
      · have : c = (" @\nabA1" : Str).cps.toList[n] := by simpa using hc
        rw [this]
        exact hc0 _ (List.getElem_mem hn)
  · have c1 := cutS_length z none (some sp)
    have c2 := cutS_length z (some (sp + 1)) none
    refine ev_addS (ev_cutS (lo := none) (hi := some sp) (ev_var rfl) eo_none (eo_some (ev_var rfl)) (by omega)) (ev_cutS (lo := some (sp + 1)) (hi := none) (ev_var rfl) (eo_some (ev_addI (ev_var rfl) ev_c)) eo_none (by omega)) (by omega) H10 (Evl.Ex.refl _) _ fun H11 e11 => ?_
    refine k' _ H11 ?_ (okS_iff.mpr (okS_app.mpr ⟨okS_cut (okS_iff.mp hok), okS_cut (okS_iff.mp hok)⟩)) (e49.tx (e10.trans e11)) (pot_mono (e10.trans e11) pot9)
    rw [Str.length_append]
    omega
end
end W93
namespace W93
open PySem PySem.Spec PyProof.Rows L2 LiI WB
open Evl hiding Ex
local macro_rules | `(tactic| walk_at "o") => `(tactic| dsimp only [tSeq, tIfS, tNext, tRet, tRetN, tDrop, tAsg, gName, tNever])
theorem join_two (n m : Str) : Txt.join "@" [n, m] = n ++ ("@" : Str) ++ m := by rw [TL.join_eq]; rfl
theorem pairs_join {rows : List (List Str)} (h : ∀ r ∈ rows, r.length = 2) : (pairs rows).map (fun w => w.1 ++ ("@" : Str) ++ w.2) = rows.map (Txt.join "@") := by
  unfold pairs
  rw [List.map_map]
  refine List.map_congr_left fun r hr => ?_
  have := h r hr
  match r, this with
  | [n, m], _ => exact (join_two n m).symm
theorem isL_no {z : Str} (h : isL z = true) {c : Nat} (hc : c ∉ letters.cps.toList) : c ∉ z.cps.toList := fun hm => by
  unfold isL at h
  exact hc (of_decide_eq_true (List.all_eq_true.mp h c hm))
theorem name_no_sp {z : Str} (h : isName z = true) : 32 ∉ TL.tl z := isL_no (isName_L h) (by decide +kernel)
theorem name_no_at {z : Str} (h : isName z = true) : 64 ∉ TL.tl z := isL_no (isName_L h) (by decide +kernel)
theorem name_hasAt {z : Str} (h : isName z = true) : hasAt z = false := decide_eq_false (name_no_at h)
def lineOf (hs : List Str) (rows : List (List Str)) : List Str := hs ++ rows.map (Txt.join "@")
theorem join_tl (n m : Str) : TL.tl (Txt.join "@" [n, m]) = TL.tl n ++ 64 :: TL.tl m := by
  rw [join_two]
  show (n ++ ("@" : Str) ++ m).cps.toList = n.cps.toList ++ 64 :: m.cps.toList
  rw [tl_app, tl_app, List.append_assoc]
  rfl
theorem okMap_two {hs : List Str} {rows : List (List Str)} (h : okMap hs rows = true) : ∀ r ∈ rows, r.length = 2 := fun r hr => by
  obtain ⟨n, m, rfl, _⟩ := (okMap_of h).2.2.2.2.1 r hr
  rfl
theorem line_no_sp {hs : List Str} {rows : List (List Str)} (h : okMap hs rows = true) : ∀ w ∈ lineOf hs rows, 32 ∉ TL.tl w := by
  obtain ⟨h1, _, _, _, h5, _⟩ := okMap_of h
  intro w hw
  rcases List.mem_append.mp hw with hw | hw
  · exact name_no_sp (h1 w hw)
  · obtain ⟨r, hr, rfl⟩ := List.mem_map.mp hw
    obtain ⟨n, m, rfl, a1, a2⟩ := h5 r hr
    rw [join_tl]
    intro hm
    rcases List.mem_append.mp hm with h | h
    · exact name_no_sp a1 h
    · rcases List.mem_cons.mp h with h | h
      · cases h
      · exact name_no_sp (h1 m a2) h
theorem mapText_line {hs : List Str} {rows : List (List Str)} (h : ∀ r ∈ rows, r.length = 2) : mapText hs (pairs rows) = Txt.join " " (lineOf hs rows) := by
  unfold mapText lineOf
  rw [pairs_join h]
theorem words_of_map {hs : List Str} {rows : List (List Str)} (h : okMap hs rows = true) : wordsOf (mapText hs (pairs rows)) = lineOf hs rows := by
  rw [mapText_line (okMap_two h)]
  unfold wordsOf
  refine TL.split_join (s := 32) (S := []) (by decide +kernel) (by decide +kernel) (fun e => ?_) (line_no_sp h)
  have := (okMap_of h).2.2.1
  have := congrArg List.length e
  unfold lineOf at this
  rw [List.length_append] at this
  simp only [List.length_nil] at this
  omega
theorem filter_line {hs : List Str} {rows : List (List Str)} (h : okMap hs rows = true) : (lineOf hs rows).filter (fun y => !hasAt y) = hs ∧ (lineOf hs rows).filter hasAt = rows.map (Txt.join "@") := by
  obtain ⟨h1, _, _, _, h5, _⟩ := okMap_of h
  have p1 : ∀ w ∈ rows.map (Txt.join "@"), hasAt w = true := fun w hw => by
    obtain ⟨r, hr, rfl⟩ := List.mem_map.mp hw
    obtain ⟨n, m, rfl, a1, a2⟩ := h5 r hr
    refine decide_eq_true ?_
    show 64 ∈ TL.tl _
    rw [join_tl]
    simp
  unfold lineOf
  rw [List.filter_append, List.filter_append]
  constructor
  · rw [List.filter_eq_self.mpr fun w hw => by rw [name_hasAt (h1 w hw)]; rfl, List.filter_eq_nil_iff.mpr fun w hw => by rw [p1 w hw]; decide, List.append_nil]
  · rw [List.filter_eq_nil_iff.mpr fun w hw => by rw [name_hasAt (h1 w hw)]; decide, List.filter_eq_self.mpr p1, List.nil_append]
theorem split_two {n m : Str} (a1 : isName n = true) (a2 : isName m = true) : Txt.split (Txt.join "@" [n, m]) "@" = [n, m] :=
  TL.split_join (s := 64) (S := []) (by decide +kernel) (by decide +kernel) (by simp) fun p hp => by
    rcases List.mem_cons.mp hp with e | hp
    · rw [e]; exact name_no_at a1
    · rw [List.mem_singleton.mp hp]; exact name_no_at a2
theorem back_hosts {hs : List Str} {rows : List (List Str)} (h : okMap hs rows = true) : hostsOf (mapText hs (pairs rows)) = hs ∧ rowsOf (mapText hs (pairs rows)) = rows := by
  obtain ⟨f1, f2⟩ := filter_line h
  obtain ⟨h1, _, _, _, h5, _⟩ := okMap_of h
  unfold hostsOf rowsOf
  rw [words_of_map h, f1, f2, List.map_map]
  refine ⟨rfl, ?_⟩
  have : ∀ r ∈ rows, ((fun y => Txt.split y "@") ∘ Txt.join "@") r = r := fun r hr => by
    obtain ⟨n, m, rfl, a1, a2⟩ := h5 r hr
    exact split_two a1 (h1 m a2)
  rw [List.map_congr_left this, List.map_id']
theorem read_back {hs : List Str} {rows : List (List Str)} (h : okMap hs rows = true) : readMap (mapText hs (pairs rows)) = some (hs, pairs rows) := by
  obtain ⟨e1, e2⟩ := back_hosts h
  unfold readMap
  rw [e1, e2, h, decide_eq_true rfl]
  rfl
theorem count_nodup {l : List Str} (h : ∀ n ∈ l, l.count n = 1) : l.Nodup := List.nodup_iff_count.mpr fun a => by
  by_cases ha : a ∈ l
  · rw [h a ha]; exact Nat.le_refl _
  · rw [List.count_eq_zero_of_not_mem ha]; decide
theorem nodup_count {l : List Str} (h : l.Nodup) : ∀ n ∈ l, l.count n = 1 := fun n hn => by
  have h1 := List.nodup_iff_count.mp h n
  have h2 := List.count_pos_iff.mpr hn
  omega
theorem law_read (z : Str) : (okMap (hostsOf z) (rowsOf z) = true ∧ mapText (hostsOf z) (pairs (rowsOf z)) = z) ↔ lawOk z = true := by
  rw [lawOk_iff]
  constructor
  · rintro ⟨ok, e⟩
    obtain ⟨h1, h2, h3, h4, h5, h6, h7, h8⟩ := okMap_of ok
    refine ⟨?_, ⟨h3, h4⟩, ⟨h7, h8⟩, h1, okMap_two ok, fun n hn => ⟨?_, nodup_count h6 n hn⟩, fun r hr => ?_⟩
    · have := words_of_map ok
      rw [e] at this
      exact this
    · rcases List.mem_append.mp hn with h | h
      · exact h1 n h
      · obtain ⟨r, hr, rfl⟩ := List.mem_map.mp h
        obtain ⟨n, m, rfl, a1, a2⟩ := h5 r hr
        exact a1
    · obtain ⟨n, m, rfl, a1, a2⟩ := h5 r hr
      exact a2
  · rintro ⟨a, ⟨b1, b2⟩, ⟨c1, c2⟩, d1, d2, f, g⟩
    refine ⟨okMap_mk d1 b1 b2 (fun r hr => ?_) (count_nodup fun n hn => (f n hn).2) c1 c2, ?_⟩
    · have l2 := d2 r hr
      have g2 := g r hr
      have f2 := (f (r.headD "") (List.mem_append_right _ (List.mem_map.mpr ⟨r, hr, rfl⟩))).1
      match r, l2, g2, f2 with
      | [n, m], _, g2, f2 => exact ⟨n, m, rfl, f2, g2⟩
    · rw [mapText_line d2]
      unfold lineOf
      rw [← a, TL.join_eq]
      exact StrLaws.join_split z " "
theorem read_due {z : Str} (h : lawDue z = none) : readMap z = none := by
  unfold readMap
  have h0 : lawOk z = false := by
    unfold lawDue at h
    cases e : lawOk z with
    | false => rfl
    | true => rw [e] at h; cases h
  rw [if_neg]
  intro h1
  rw [Bool.and_eq_true, decide_eq_true_eq] at h1
  rw [(law_read z).mp h1] at h0
  cases h0
theorem due_some {z : Str} {hs : List Str} {rows : List (List Str)} (h : lawDue z = some (hs, rows)) : readMap z = some (hs, pairs rows) ∧ okMap hs rows = true ∧ mapText hs (pairs rows) = z := by
  unfold lawDue at h
  cases e : lawOk z with
  | false => rw [e] at h; cases h
  | true =>
    rw [e] at h
    cases h
    obtain ⟨h1, h2⟩ := (law_read z).mpr e
    refine ⟨?_, h1, h2⟩
    unfold readMap
    rw [h1, decide_eq_true h2]
    rfl
end W93
namespace W93
open PySem PySem.Spec PyProof.Rows L2 LiI WB
open Evl hiding Ex
local macro_rules | `(tactic| walk_at "o") => `(tactic| dsimp only [tSeq, tIfS, tNext, tRet, tRetN, tDrop, tAsg, gName, tNever])
section
variable {K : Fr} {mg : Str → Option Value} {vs : List V} {H : Hp} {Q : VK} {E : XK} {σ : L2.St} {tl te : TE}
theorem consc_ {v : V} {ta : TA} {Q : List V → Hp → Prop} (h : ta σ H fun vs H2 => Q (v :: vs) H2) : tCons (tC v) ta σ H Q := h
theorem c_ {v : V} {Q : VK} (h : Q v H) : tC v σ H Q := h
theorem told_bad (T : Tx K mg) {a d : Addr} {i : Int} {Q : VK} {σ : L2.St} (hv : σ[2]? = some (some (.ref a))) (hd : H d = some (.xd [("row", .int i)])) (q : ∀ t H', Ex H H' → H' t = some (.tup [.str "wrong", .int i, .bl true]) → Q (.ref t) H') :
    tTup (tCons (tC (.str "wrong")) (tCons (tXf a (.ref (cNoText K)) (some d) (He.ga K "NoText") "row" (tVar 2)) (tCons (tAndV (tCB (rIsEd K (He.ga K "NoText") a (.ref (cNoText K)) (some d)) (tCons (tVar 2) (tCons (tC (.ref (He.ga K "WalkError"))) tNil))) (tNotV (tCB (rIsEd K (He.ga K "NoText") a (.ref (cNoText K)) (some d)) (tCons (tVar 2) (tCons (tC (.ref (He.ga K "NoMap"))) tNil))))) tNil))) σ H Q := by
  refine consc_ ?_
  refine cons_ ?_
  refine ⟨_, hv, rfl, rfl, d, _, _, rfl, hd, rfl, ?_⟩
  refine cons_ ?_
  refine ⟨_, hv, .ref (He.ga K "WalkError"), _, true, d, _, rfl, rfl, rfl, hd, fun u hu => hu, T.q_text_walk, _, rfl, ite_t rfl ?_⟩
  refine ⟨_, hv, .ref (He.ga K "NoMap"), _, false, d, _, rfl, rfl, rfl, hd, fun u hu => hu, T.q_text_map, _, rfl, ?_⟩
  refine ⟨by show 3 ≤ _; rw [sizeLine_eq]; decide, fun t ht => q t _ (Evl.Ex.new ht) upd_same⟩
theorem pure_l_told (T : Tx K mg) (h : sp_l_told K vs H Q E) : t_l_told K { nx := fun _ H' => Q .non H', rt := Q } (start N_l_told vs) H := by
  obtain ⟨v, rfl, h⟩ := h
  unfold t_l_told; walk_at "o"
  refine c_ ?_
  refine consc_ ?_
  refine cons_ ?_
  refine ⟨_, rfl, v, rfl, ?_⟩
  rcases h with ⟨hn, k⟩ | ⟨z, rfl, hz, k1, k2⟩
  · refine .inl ⟨hn, fun d H1 e1 hd => ⟨true, T.e_text_text, fun _ a ha => ?_, fun h => by cases h⟩⟩
    refine told_bad T rfl hd fun t H2 e2 h2 => ⟨_, rfl, k t H2 (e1.trans e2) h2⟩
  · refine .inr ⟨z, rfl, hz, fun hs ws x H1 hr m e1 => ?_, fun hr d H1 e1 hd => ⟨true, T.e_text_text, fun _ a ha => ?_, fun h => by cases h⟩⟩
    · refine ⟨by show 2 ≤ _; rw [sizeLine_eq]; decide, fun t ht => ⟨_, rfl, k1 hs ws t x _ hr (m.mono (Evl.Ex.new ht)) (e1.trans (Evl.Ex.new ht)) upd_same⟩⟩
    · refine told_bad T rfl hd fun t H2 e2 h2 => ⟨_, rfl, k2 hr t H2 (e1.trans e2) h2⟩
theorem eqv_wrong (i : Int) : PyData.eqv (.tuple [.str "wrong", .int i, .bool true]) (.tuple [.str "wrong", .int i, .bool true]) = true := by
  simp [PyData.eqv, PyData.eqvAll]
theorem sh_wrong (i : Int) : SeqAt.shaped (.tuple [.str "wrong", .int i, .bool true]) = true := by
  unfold SeqAt.shaped
  rw [Bool.and_eq_true]
  have h : PyData.strOk "wrong" = true := by decide +kernel
  refine ⟨by simp [PyData.canLay0, PyData.canLayAll0, h], decide_eq_true ?_⟩
  simp [PyData.depth, PyData.depthAll]
theorem dp_wrong {t : Addr} {i : Int} (h : H t = some (.tup [.str "wrong", .int i, .bl true])) : Dp K H (.ref t) (.tuple [.str "wrong", .int i, .bool true]) := .tup (st_of h) (.cons (.str _) (.cons (.int _) (.cons (.bl _) .nil)))
theorem made_Map (T : Tx K mg) {ta : TA} {f : L2.St → XK} {l m : Addr} {hs : List Str} {rows : List (List Str)} (hv : EvA ta σ H [.ref l, .ref m]) (hl : H l = some (.lst (SV hs))) (hm : RowsAt H m rows) (ok : okMap hs rows = true) (sh : Small hs) (sr : SmallR rows)
    (q : ∀ x H', H x = none → Ex H H' → MapAt K H' x hs (pairs rows) → Q (.ref x) H') : tMakeS (He.ga K "Map") (sp_Map_init K) f ta σ H Q := by
  refine hv H (Evl.Ex.refl _) _ fun H1 e1 x dx hx hdx nx => ?_
  have e2 : Ex H1 (upd (upd H1 dx (.own x)) x (.ins (He.ga K "Map") dx [])) := (Evl.Ex.new hdx).trans (Evl.Ex.new (by rw [upd_ne (Ne.symm nx)]; exact hx))
  have e12 := e1.trans e2
  refine ⟨x, dx, l, hs, m, rows, rfl, upd_same, e12 _ _ hl, hm.mono e12, sh, sr, fun _ H' mm e => ⟨rfl, q x H' (fresh_back e1 hx) (e1.trans ((ExP.trans (ExP.of e2) e).ex hx)) mm⟩, fun bad => by rw [ok] at bad; cases bad⟩
theorem small_ok {hs : List Str} {rows : List (List Str)} (ok : okMap hs rows = true) : Small hs ∧ SmallR rows := by
  obtain ⟨h1, h2, h3, h4, h5, h6, h7, h8⟩ := okMap_of ok
  refine ⟨⟨by omega, fun z hz => by have := isName_len (h1 z hz); omega⟩, by omega, fun r hr => ?_⟩
  obtain ⟨n, m, rfl, a1, a2⟩ := h5 r hr
  refine ⟨by simp, fun z hz => ?_⟩
  rcases List.mem_cons.mp hz with e | hz
  · rw [e]; have := isName_len a1; omega
  · rw [List.mem_singleton.mp hz]; have := isName_len (h1 m a2); omega
theorem pure_l_right (T : Tx K mg) (h : sp_l_right K vs H Q E) : t_l_right K { nx := fun _ H' => Q .non H', rt := Q } (start N_l_right vs) H := by
  obtain ⟨z, rfl, hz, hok, k⟩ := h
  unfold t_l_right; walk_at "o"
  refine cons_ ?_
  refine ⟨_, rfl, z, rfl, hz, hok, fun hd H1 e1 => ?_, fun hs rows t l m H1 hd e1 ht hl hm => ?_⟩
  · refine cons_ ?_
    refine ⟨_, rfl, _, rfl, .inr ⟨z, rfl, hz, fun hs ws t x H2 hr => (by rw [read_due hd] at hr; cases hr), fun _ t H2 e2 h2 => ⟨_, _, rfl, ?_⟩⟩⟩
    walk_at "o"
    refine ⟨_, rfl, rfl, _, rfl, ?_⟩
    refine ite_t (decide_eq_true rfl) ?_
    refine ⟨_, rfl, ?_⟩
    refine eu_tup (vs := [.str "wrong", .int 1, .bl true]) (ea_cons ev_c (ea_cons ev_c (ea_cons ev_c ea_nil))) (by show 3 ≤ _; decide) H2 (Evl.Ex.refl _) _ fun u H3 hu e3 h3 => .inr ⟨_, _, dp_wrong (e3 _ _ h2), dp_wrong h3, sh_wrong 1, sh_wrong 1, ?_⟩
    rw [eqv_wrong]
    exact k H3 ((e1.trans e2).trans e3)
  · obtain ⟨hr, ok, hmt⟩ := due_some hd
    refine cons_ ?_
    refine ⟨_, rfl, _, rfl, .inr ⟨z, rfl, hz, fun hs2 ws2 u x H2 hr2 mx e2 hu => ⟨_, _, rfl, ?_⟩, fun hr2 => (by rw [hr] at hr2; cases hr2)⟩⟩
    rw [hr] at hr2
    obtain ⟨rfl, rfl⟩ : hs = hs2 ∧ pairs rows = ws2 := by cases hr2; exact ⟨rfl, rfl⟩
    walk_at "o"
    refine ⟨_, rfl, rfl, _, rfl, ?_⟩
    refine ite_f (decide_eq_false (by intro h; cases h)) ?_
    refine ev_eqS (i := "map") (ev_ixT (ev_var rfl) ev_c (st_of hu) (atI_nat (j := 0) rfl)) ev_c H2 (Evl.Ex.refl _) _ fun H3 e3 => ⟨_, rfl, ?_⟩
    rw [decide_eq_true rfl]
    refine ite_t rfl ?_
    refine op_ ?_
    refine ev_ixT (v := .ref x) (ev_var rfl) ev_c (st_of (e3 _ _ hu)) (atI_nat (j := 1) rfl) H3 (Evl.Ex.refl _) _ fun H4 e4 => ?_
    have e24 := e3.trans e4
    have e14 := e2.trans e24
    obtain ⟨sh, sr⟩ := small_ok ok
    have ht4 := e14 _ _ ht
    refine made_Map T (l := l) (m := m) (hs := hs) (rows := rows) (ea_cons (ev_ixT (ev_var rfl) ev_c (st_of ht4) (atI_nat (j := 0) rfl)) (ea_cons (ev_ixT (ev_var rfl) ev_c (st_of ht4) (atI_nat (j := 1) rfl)) ea_nil)) (e14 _ _ hl) (hm.mono e14) ok sh sr fun y H5 hy e5 my => ?_
    have mx5 := (mx.mono e24).mono e5
    obtain ⟨dx, lx, ddx, hx, _⟩ := id mx5
    obtain ⟨dy, ly, ddy, hyy, _⟩ := id my
    refine ⟨⟨x, y, dx, dy, _, _, rfl, rfl, hx, hyy, hs, pairs rows, mx5, my, okMap_sound ok⟩, fun H6 e6 => ⟨_, rfl, ite_t rfl ?_⟩⟩
    have e26 : Ex H2 H6 := (e24.trans e5).trans e6
    refine ev_eqS (j := z) (ev_mapText T (ev_ixT (ev_var rfl) ev_c (st_of (e26 _ _ hu)) (atI_nat (j := 1) rfl)) (mx.mono e26) (okMap_keys ok) (okMap_small ok)) (ev_var rfl) H6 (Evl.Ex.refl _) _ fun H7 e7 => ?_
    rw [decide_eq_true hmt]
    exact k H7 (((e1.trans e2).trans e26).trans e7)
end
end W93
namespace W93
open PySem PySem.Spec PyProof.Rows L2 LiI WB
open Evl hiding Ex
local macro_rules | `(tactic| walk_at "o") => `(tactic| dsimp only [tSeq, tIfS, tNext, tRet, tRetN, tDrop, tAsg, gName, tNever])
section
variable {K : Fr} {mg : Str → Option Value} {vs : List V} {H : Hp} {Q : VK} {E : XK} {σ : L2.St} {tl te : TE}
theorem rows_tup {ps : List Addr} {rows : List (List Str)} {f : List Str → V} {ys : List V} (h : Paired (fun p r => H p = some (.tup (SV r))) ps rows) (hp : Paired (fun x y => ∀ q r, x = V.ref q → H q = some (.tup (SV r)) → y = f r) (ps.map V.ref) ys) : ys = rows.map f := by
  induction h generalizing ys with
  | nil => cases hp; rfl
  | @cons p r ps rows h t ih =>
    cases hp with
    | cons h1 h2 =>
      rw [h1 p r rfl h, ih h2]
      rfl
theorem el_pairs {b : Addr} {rows : List (List Str)} {i j : Nat} {vs : List Nat} (f : List Str → V) (hl : Ev tl σ H (.ref b)) (hx : RowsAt H b rows) (h2 : ∀ r ∈ rows, r.length = 2) (hlen : rows.length ≤ 1000000) (hw : ∀ x y, wipe (((wipe σ vs).set i (some x)).set j (some y)) vs = wipe σ vs)
    (he : ∀ n m, [n, m] ∈ rows → ∀ H1, Ex H H1 → Ev te (((wipe σ vs).set i (some (.str n))).set j (some (.str m))) H1 (f [n, m])) : EvL (tLc (iList K tl) (gTup K 2 (gCons (gName i) (gCons (gName j) gNil))) tYes te vs) σ H (rows.map f) := by
  obtain ⟨ps, hb, hp⟩ := hx
  intro H0 e0 Q q
  refine (hl.mono e0) H0 (Evl.Ex.refl _) _ fun H1 e1 => ⟨b, rfl, ⟨_, sq_of ((e0.trans e1) _ _ hb)⟩, ?_⟩
  refine lc_rel (seq_list (K := K) (a := b) (xs := ps.map V.ref)) (fun _ => true) (fun x y _ => ∀ q r, x = V.ref q → H q = some (.tup (SV r)) → y = f r) (fun H2 e2 => sq_of (((e0.trans e1).trans e2) _ _ hb)) (by rw [List.length_map, hp.length]; exact hlen) (fun D hD x hx H2 e2 hacc k ky q1 q2 => ?_) fun D ys H' hD e h r => q D H' (fresh_back e1 hD) (e1.trans e) (by
    have fs : (ps.map V.ref).filter (fun _ => true) = ps.map V.ref := List.filter_eq_self.mpr fun _ _ => rfl
    rw [fs] at r
    rw [h, rows_tup hp r])
  obtain ⟨q0, hq0, rfl⟩ := List.mem_map.mp hx
  obtain ⟨jj, r, _, hrj, hqr⟩ := paired_ix hp hq0
  have hr := List.mem_of_getElem? hrj
  obtain ⟨n, m, rfl⟩ : ∃ n m, r = [n, m] := by
    have := h2 r hr
    match r, this with
    | [n, m], _ => exact ⟨n, m, rfl⟩
  have e02 := (e0.trans e1).trans e2
  refine ⟨q0, _, rfl, st_of (e02 _ _ hqr), rfl, _, _, rfl, _, _, rfl, rfl, hw _ _, ?_⟩
  refine et_yes H2 (Evl.Ex.refl _) _ fun H3 e3 => iteB (fun _ => ?_) fun h => by cases h
  refine he n m hr H3 (e02.trans e3) H3 (Evl.Ex.refl _) _ fun H4 e4 => q2 rfl _ H4 (e3.trans e4) fun H5 _ q' r' eq hq' => ?_
  obtain rfl : q0 = q' := V.ref.inj eq
  rw [hqr] at hq'
  have : SV [n, m] = SV r' := by injection hq' with h; injection h
  rw [← sv_inj this]
theorem line_len {hs : List Str} {rows : List (List Str)} (ok : okMap hs rows = true) : (mapText hs (pairs rows)).length + 20 ≤ 165 ∧ okS (mapText hs (pairs rows)) := by
  obtain ⟨h1, h2, h3, h4, h5, h6, h7, h8⟩ := okMap_of ok
  rw [mapText_line (okMap_two ok), TL.join_eq]
  have a1 := sum_le (l := hs) (n := 8) fun z hz => isName_len (h1 z hz)
  have jl : ∀ w ∈ rows.map (Txt.join "@"), w.length ≤ 17 ∧ okS w := fun w hw => by
    obtain ⟨r, hr, rfl⟩ := List.mem_map.mp hw
    obtain ⟨n, m, rfl, b1, b2⟩ := h5 r hr
    rw [join_two]
    have l1 := isName_len b1
    have l2 := isName_len (h1 m b2)
    refine ⟨by rw [Str.length_append, Str.length_append]; show _ + 1 + _ ≤ _; omega, okS_app.mpr ⟨okS_app.mpr ⟨okS_iff.mp (isName_ok b1), ok_at⟩, okS_iff.mp (isName_ok (h1 m b2))⟩⟩
  have a2 := sum_le (l := rows.map (Txt.join "@")) (n := 17) fun z hz => (jl z hz).1
  rw [List.length_map] at a2
  have ne : lineOf hs rows ≠ [] := fun e => by
    have := congrArg List.length e
    unfold lineOf at this
    rw [List.length_append] at this
    simp only [List.length_nil] at this
    omega
  have j := join_len " " ne
  have l1 : (" " : Str).length = 1 := rfl
  rw [l1] at j
  unfold lineOf at j ⊢
  rw [List.map_append, List.sum_append, List.length_append, List.length_map] at j
  refine ⟨by omega, (okS_join ok_sp).mpr fun w hw => ?_⟩
  rcases List.mem_append.mp hw with h | h
  · exact okS_iff.mp (isName_ok (h1 w h))
  · exact (jl w h).2
theorem for_rng1 {ta : TA} {g : TG} {tb : TS} {D : Ends} (h : ta σ H fun vs H1 => ∃ j : Int, vs = [.int j] ∧ -(2 ^ 62) ≤ j ∧ j < 2 ^ 62 ∧ ∃ W : Nat → Nat → L2.St → Hp → Prop, (∃ m, W 0 m σ H1) ∧ ∀ i m σ H, W i m σ H →
    ((Itr 0 j.toNat).stop i H ∧ D.nx σ H) ∨ ((Itr 0 j.toNat).go i H ∧ ∃ N : L2.St → Hp → Prop, (∀ σ' H', N σ' H' → ∃ m', m' < m ∧ W (i + 1) m' σ' H') ∧ ∀ x H', (Itr 0 j.toNat).yld i H x H' → g x σ H' fun σ2 H2 => tb { D with nx := N, ct := N, bk := D.nx } σ2 H2)) : tFor (iRng1 ta) g tb D σ H := h
theorem not_ {t : TT} {Q : Bool → Hp → Prop} (h : t σ H fun c H1 => Q (!c) H1) : tNot t σ H Q := h
theorem noStr_of {v : V} {a : String} (ty : TyX K H v (.type a)) (h : kitB a "str" = some false) : NoStr K H v := ⟨_, ty, kit_ty h⟩
theorem pure_law (T : Tx K mg) (h : sp_law K vs H Q E) : t_law K { nx := fun _ H' => Q .non H', rt := Q } (start N_law vs) H := by
  obtain ⟨a, ns, rfl, hs0, hn, kq⟩ := h
  unfold t_law; walk_at "o"
  have lS : (ns.map V.int).length = ns.length := List.length_map _
  obtain ⟨n, hn4, hwi⟩ : ∃ n : Nat, n ≤ 4 ∧ ∀ R : It → Hp → Prop, R (Itr 0 n) H → iRng1 (tCons (tCB (rMax2I) (tCons (tC (.int 1)) (tCons (tCB (rMin2I) (tCons (tC (.int 4)) (tCons (tCB (rLenA K) (tCons (tVar 0) tNil)) tNil))) tNil))) tNil) (start N_law [.ref a]) H R := by
    refine ⟨(if (if ((ns.map V.int).length : Int) < 4 then ((ns.map V.int).length : Int) else 4) > 1 then (if ((ns.map V.int).length : Int) < 4 then ((ns.map V.int).length : Int) else 4) else 1).toNat, by split <;> split <;> omega, fun R r => ?_⟩
    refine cons_ (cb2 (c_ (cb2 (c_ (cb1 ⟨_, rfl, .inl ⟨a, _, rfl, .inl hs0, 4, _, rfl, 1, _, rfl, _, rfl, ?_, ?_, r⟩⟩)))))
    · split <;> split <;> omega
    · split <;> split <;> omega
  refine for_of (seq_rng (lo := 0) (n := n)) hwi (fun i σ' H' => (∃ v1 v2 v3 v4 v5 v6 v7 v8 v9, σ' = [some (.ref a), v1, v2, v3, v4, v5, v6, v7, v8, v9]) ∧ Ex H H') ⟨⟨_, _, _, _, _, _, _, _, _, rfl⟩, Evl.Ex.refl _⟩ (fun _ _ _ _ _ => trivial) ?_ ?_
  · rintro i x σ' H1 hx ⟨⟨v1, v2, v3, v4, v5, v6, v7, v8, v9, rfl⟩, e1⟩
    have hi : i < n := by
      have := (List.getElem?_eq_some_iff.mp hx).1
      unfold intsV at this
      rw [List.length_map, List.length_range] at this
      exact this
    have hxi : x = .int (0 + (i : Int)) := by
      have := hx
      unfold intsV at this
      rw [List.getElem?_map, List.getElem?_range hi] at this
      exact (Option.some.inj this).symm
    subst hxi
    walk_at "o"
    refine ⟨_, rfl, _, rfl, a, ns, 0 + (i : Int), rfl, ex_l e1 hs0, hn, by omega, by omega, fun p H2 hp e2 pot2 => ?_⟩
    have hp0 : H p = none := fresh_back e1 hp
    refine for_of (seq_rng (lo := 0) (n := 2)) (fun R r => ⟨2, rfl, by decide, by decide, r⟩) (fun j σ' H' => (∃ v3 v4 v5 v6 v7 v8 v9, σ' = [some (.ref a), some (.int (0 + (i : Int))), some (.ref p), v3, v4, v5, v6, v7, v8, v9]) ∧ ExP p H1 H' ∧ Pot H' p) ⟨⟨_, _, _, _, _, _, _, rfl⟩, ExP.of e2, pot2⟩ (fun _ _ _ _ _ => trivial) ?_ ?_
    · rintro j y σ' H3 hy ⟨⟨v3, v4, v5, v6, v7, v8, v9, rfl⟩, e3, pot3⟩
      walk_at "o"
      refine ⟨_, rfl, p, rfl, pot3, fun t l m hs rows H4 ok e4 pot4 ht hl hm => ⟨t, _, rfl, st_of ht, rfl, _, _, rfl, _, _, rfl, rfl, ?_⟩⟩
      walk_at "o"
      obtain ⟨sh, sr⟩ := small_ok ok
      have nd := okMap_keys ok
      have smm := okMap_small ok
      have ok2 := okMap_two ok
      refine cons_ ?_
      refine made_Map T (l := l) (m := m) (ea_cons (ev_var rfl) (ea_cons (ev_var rfl) ea_nil)) hl hm ok sh sr fun x H5 hx e5 mx => ?_
      refine ⟨x, hs, pairs rows, rfl, mx, nd, smm, fun H6 e6 => ?_⟩
      obtain ⟨ll, lo⟩ := line_len ok
      have e46 := e5.trans e6
      have hl6 := e46 _ _ hl
      have hm6 := hm.mono e46
      obtain ⟨k1, k2, k3, k4, k5, k6, k7, k8⟩ := okMap_of ok
      have hJ := el_pairs (K := K) (H := H6) (tl := tVar 5) (te := tOp (rAddA K) (tOp (rAddA K) (tVar 8) (tC (.str "@"))) (tVar 9)) (σ := [some (.ref a), some (.int (0 + (i : Int))), some (.ref p), some y, some (.ref l), some (.ref m), some (.str (mapText hs (pairs rows))), v7, v8, v9]) (i := 8) (j := 9) (vs := [8, 9]) (fun r => .str (Txt.join "@" r)) (ev_var rfl) hm6 ok2 (by omega) (fun _ _ => rfl) (fun n m hr H7 e7 => by
        obtain ⟨n', m', e, a1, a2⟩ := k5 _ hr
        obtain ⟨rfl, rfl⟩ : n = n' ∧ m = m' := by cases e; exact ⟨rfl, rfl⟩
        have l1 := isName_len a1
        have l2 := isName_len (k1 m a2)
        exact ev_is' (ev_addS (ev_addS (ev_var rfl) ev_c (by show _ + 1 ≤ _; omega)) (ev_var rfl) (by rw [Str.length_append]; show _ + 1 + _ ≤ _; omega)) (by rw [join_two]))
      have hC := el_catL (K := K) (ta := tVar 4) (ev_var rfl) hl6 hJ (by rw [List.length_map, List.length_map]; omega)
      have e8 : SV hs ++ (rows.map fun r => V.str (Txt.join "@" r)) = SV (lineOf hs rows) := by
        unfold lineOf
        rw [SV_app]
        congr 1
        exact List.map_map.symm
      rw [e8] at hC
      have hml := mapText_line (hs := hs) ok2
      have bnd : ((lineOf hs rows).map (·.length)).sum + (lineOf hs rows).length * (" " : Str).length ≤ 1000000 := by
        have ne : lineOf hs rows ≠ [] := fun e => by
          have := congrArg List.length e
          unfold lineOf at this
          rw [List.length_append] at this
          simp only [List.length_nil] at this
          omega
        have j := join_len " " ne
        rw [← TL.join_eq, ← hml] at j
        have l1 : (" " : Str).length = 1 := rfl
        rw [l1] at j ⊢
        omega
      refine et_test (ev_neS (ev_var rfl) (ev_joinL ev_c hC bnd)) H6 (Evl.Ex.refl _) _ fun H7 e7 => ite_f (by rw [hml, decide_eq_true rfl]; rfl) ?_
      refine not_ (test_ (op_ ?_))
      refine ⟨_, rfl, .str (mapText hs (pairs rows)), rfl, .inr ⟨_, rfl, by omega, fun hs2 ws2 x2 H8 hr m2 e8 => ?_, fun hr => by rw [read_back ok] at hr; cases hr⟩⟩
      rw [read_back ok] at hr
      obtain ⟨rfl, rfl⟩ : hs = hs2 ∧ pairs rows = ws2 := by cases hr; exact ⟨rfl, rfl⟩
      have e48 := (e46.trans e7).trans e8
      refine made_Map T (l := l) (m := m) (ea_cons (ev_var rfl) (ea_cons (ev_var rfl) ea_nil)) (e48 _ _ hl) (hm.mono e48) ok sh sr fun y2 H9 hy2 e9 my => ?_
      have mx9 := m2.mono e9
      obtain ⟨dx, lx, ddx, hx9, _⟩ := id mx9
      obtain ⟨dy, ly, ddy, hy9, _⟩ := id my
      refine ⟨⟨x2, y2, dx, dy, _, _, rfl, rfl, hx9, hy9, hs, pairs rows, mx9, my, okMap_sound ok⟩, fun H10 e10 => ⟨_, rfl, ?_⟩⟩
      refine iteF ?_
      have e410 : Ex H4 H10 := (e48.trans e9).trans e10
      have pot10 := pot_mono e410 pot4
      have eP10 : ExP p H1 H10 := (e3.trans e4).tx e410
      refine for_rng1 ?_
      refine cons_ ?_
      refine digit_ rfl pot10 ev_c (by decide) (by decide) fun d H11 d0 d1 e11 pot11 => ⟨d, rfl, by omega, by omega, ?_⟩
      obtain ⟨nd3, rfl⟩ := Int.eq_ofNat_of_zero_le d0
      refine for_seq (seq_rng (lo := 0) (n := nd3)) (fun c σ' H' => ∃ (z' : Str) (w7 : Option V), σ' = [some (.ref a), some (.int (0 + (i : Int))), some (.ref p), some y, some (.ref l), some (.ref m), some (.str z'), w7, v8, v9] ∧ z'.length + 20 ≤ 165 * 2 ^ c ∧ PyData.strOk z' = true ∧ ExP p H1 H' ∧ Pot H' p) ⟨_, _, rfl, by omega, okS_iff.mpr lo, eP10.trans e11, pot11⟩ (fun _ _ _ _ _ => trivial) ?_ ?_
      · rintro c x3 σ3 H12 hx3 ⟨z', w7, rfl, lz, oz, e12, pot12⟩
        have hc : c < nd3 := by
          have := (List.getElem?_eq_some_iff.mp hx3).1
          unfold intsV at this
          rw [List.length_map, List.length_range] at this
          exact this
        have hc2 : 165 * 2 ^ c ≤ 330 ∧ 165 * 2 ^ (c + 1) = 2 * (165 * 2 ^ c) := by
          refine ⟨?_, by rw [Nat.pow_succ]; omega⟩
          have : c = 0 ∨ c = 1 := by omega
          rcases this with rfl | rfl <;> decide
        walk_at "o"
        refine ⟨_, rfl, _, rfl, p, z', rfl, pot12, by omega, oz, fun z2 H13 l2 o2 e13 pot13 => ⟨z2, _, rfl, by omega, o2, e12.trans e13, pot13⟩⟩
      · rintro σ3 H12 ⟨z', w7, rfl, lz, oz, e12, pot12⟩
        have l0 : (intsV 0 nd3).length = nd3 := by unfold intsV; rw [List.length_map, List.length_range]
        rw [l0] at lz
        have hb : 165 * 2 ^ nd3 ≤ 660 := by
          have : nd3 = 0 ∨ nd3 = 1 ∨ nd3 = 2 := by omega
          rcases this with rfl | rfl | rfl <;> decide
        walk_at "o"
        refine not_ ?_
        refine ⟨_, rfl, z', rfl, by omega, oz, fun H13 e13 => ⟨_, rfl, iteF ?_⟩⟩
        exact ⟨⟨_, _, _, _, _, _, _, rfl⟩, e12.tx e13, pot_mono e13 pot12⟩
    · rintro σ' H3 ⟨⟨v3, v4, v5, v6, v7, v8, v9, rfl⟩, e3, pot3⟩
      walk_at "o"
      refine test_ (op_ ?_)
      refine cons_ ?_
      refine ⟨_, rfl, ?_⟩
      refine cons_ ?_
      refine consc_ ?_
      refine consc_ ?_
      refine cons_ ?_
      have sz : (2 : Nat) ≤ sizeLine := by rw [sizeLine_eq]; decide
      have sz6 : (6 : Nat) ≤ sizeLine := by rw [sizeLine_eq]; decide
      refine ⟨by show 1 ≤ _; omega, fun q1 hq1 => ?_⟩
      refine cons_ ?_
      refine ⟨by show 2 ≤ _; omega, fun q2 hq2 => ?_⟩
      refine cons_ ?_
      refine fun q3 hq3 => ?_
      refine consc_ ?_
      refine ⟨by show 6 ≤ _; omega, fun q4 hq4 => ?_⟩
      have x1 : Ex H3 (L2.upd H3 q1 (.lst [.str "a"])) := Evl.Ex.new hq1
      have x2 : Ex (L2.upd H3 q1 (.lst [.str "a"])) (L2.upd (L2.upd H3 q1 (.lst [.str "a"])) q2 (.tup [.str "a", .str "b"])) := Evl.Ex.new hq2
      have x3 : Ex (L2.upd (L2.upd H3 q1 (.lst [.str "a"])) q2 (.tup [.str "a", .str "b"])) (L2.upd (L2.upd (L2.upd H3 q1 (.lst [.str "a"])) q2 (.tup [.str "a", .str "b"])) q3 (.dK [])) := Evl.Ex.new hq3
      have x4 := Evl.Ex.new (o := HO.lst [.non, .int 1, .ref q1, .ref q2, .ref q3, .bl true]) hq4
      have x14 := ((x1.trans x2).trans x3).trans x4
      have g1 := ((x2.trans x3).trans x4) _ _ (upd_same (H := H3) (a := q1) (o := .lst [.str "a"]))
      have g2 := (x3.trans x4) _ _ (upd_same (H := L2.upd H3 q1 (.lst [.str "a"])) (a := q2) (o := .tup [.str "a", .str "b"]))
      have g3 := x4 _ _ (upd_same (H := L2.upd (L2.upd H3 q1 (.lst [.str "a"])) q2 (.tup [.str "a", .str "b"])) (a := q3) (o := .dK []))
      have n1 : q1 ≠ p := pot3.ne hq1
      have n2 : q2 ≠ p := (pot_mono x1 pot3).ne hq2
      have n3 : q3 ≠ p := (pot_mono (x1.trans x2) pot3).ne hq3
      have n4 : q4 ≠ p := (pot_mono ((x1.trans x2).trans x3) pot3).ne hq4
      refine ⟨p, q4, _, rfl, pot_mono x14 pot3, upd_same, by show 1 ≤ 6; decide, by show 6 < 1000; decide, n4, fun v H5 hv e5 pot5 => ?_⟩
      have hno : NoStr K H5 v := by
        simp only [List.mem_cons, List.not_mem_nil, or_false] at hv
        rcases hv with rfl | rfl | rfl | rfl | rfl | rfl
        · exact noStr_of (.base .non) (by decide +kernel)
        · exact noStr_of (.base (.int 1)) (by decide +kernel)
        · exact noStr_of (.base (.lst (e5 _ _ n1 g1))) (by decide +kernel)
        · exact noStr_of (.base (.tup (e5 _ _ n2 g2))) (by decide +kernel)
        · exact noStr_of (.base (.dK (e5 _ _ n3 g3))) (by decide +kernel)
        · exact noStr_of (.base (.bl true)) (by decide +kernel)
      refine ⟨v, rfl, .inl ⟨hno, fun t H6 e6 h6 => ?_⟩⟩
      refine eu_tup (vs := [.str "wrong", .int 0, .bl true]) (ea_cons ev_c (ea_cons ev_c (ea_cons ev_c ea_nil))) (by show 3 ≤ _; decide) H6 (Evl.Ex.refl _) _ fun u H7 hu e7 h7 => .inr ⟨_, _, dp_wrong (e7 _ _ h6), dp_wrong h7, sh_wrong 0, sh_wrong 0, _, rfl, ?_⟩
      rw [eqv_wrong]
      refine iteF ?_
      have eP : ExP p H1 H7 := ((e3.tx x14).trans e5).tx (e6.trans e7)
      exact ⟨⟨_, _, _, _, _, _, _, _, _, rfl⟩, e1.trans (eP.ex hp)⟩
  · rintro σ' H1 ⟨_, _⟩
    exact kq H1
end
end W93
namespace W93
open PySem PySem.Spec PyProof.Rows L2 LiI WB
section
variable {P : Program} {w : World} {K : Fr} {mg : Str → Option Value} {base : Heap}
theorem ok_NoMap_init (T : Tx K mg) : ExI P w K mg base 1 "NoMap" ["self", "what", "who"] (sp_NoMap_init K) := by
  obtain ⟨fd, F⟩ := T.d_NoMap_init
  exact ⟨fd, T.j_NoMap_init.1, T.j_NoMap_init.2, F.ok (CX := CX0) (N := N_NoMap_init) (ps := ["self", "what", "who"]) (k := 0) (sp := sp_NoMap_init K) sc_NoMap_init (fun vs H Q E h => len_NoMap_init h) (fun cdv A outer s H vs Q E hr h => ⟨t_NoMap_init K, PSs.nox (pss_cons (ps_expr (pe_binit T.b_WalkError rfl T.g_WalkError (pa_cons (pv 0) (pa_cons (pe_str) pa_nil))))
    (pss_cons (ps_ost (pv 0) (pv 1))
    (pss_one (ps_ost (pv 0) (pv 2))))), pure_NoMap_init T h⟩), F.bindsN fun _ _ _ _ _ _ us hl => match us, hl with | [_, _, _], _ => rfl⟩
theorem ok_NoText_init (T : Tx K mg) : ExI P w K mg base 1 "NoText" ["self", "row"] (sp_NoText_init K) := by
  obtain ⟨fd, F⟩ := T.d_NoText_init
  exact ⟨fd, T.j_NoText_init.1, T.j_NoText_init.2, F.ok (CX := CX0) (N := N_NoText_init) (ps := ["self", "row"]) (k := 0) (sp := sp_NoText_init K) sc_NoText_init (fun vs H Q E h => len_NoText_init h) (fun cdv A outer s H vs Q E hr h => ⟨t_NoText_init K, PSs.nox (pss_cons (ps_expr (pe_binit T.b_WalkError rfl T.g_WalkError (pa_cons (pv 0) (pa_cons (pe_str) pa_nil))))
    (pss_one (ps_ost (pv 0) (pv 1)))), pure_NoText_init T h⟩), F.bindsN fun _ _ _ _ _ _ us hl => match us, hl with | [_, _], _ => rfl⟩
theorem okH_NoText_init (T : Tx K mg) : ExIH P w K mg base 1 "NoText" ["self", "row"] (sp_NoText_init K) := by
  obtain ⟨fd, F⟩ := T.d_NoText_init
  exact ⟨fd, T.j_NoText_init.1, T.j_NoText_init.2, funD_okH (CX := CX0) (N := N_NoText_init) (ps := ["self", "row"]) (k := 0) (sp := sp_NoText_init K) F sc_NoText_init (fun vs H Q E h => len_NoText_init h) (fun cdv A outer s H vs Q E p hot hr h => ⟨t_NoText_init K, PSs.nox (pss_cons (ps_expr (pe_binit T.b_WalkError rfl T.g_WalkError (pa_cons (pv 0) (pa_cons (pe_str) pa_nil))))
    (pss_one (ps_ost (pv 0) (pv 1)))), pure_NoText_init T h⟩), F.bindsN fun _ _ _ _ _ _ us hl => match us, hl with | [_, _], _ => rfl⟩
theorem ok_is_made_of (T : Tx K mg) : Cal P w K mg base CX0 1 "is_made_of" ["thing", "signs", "most"] (sp_is_made_of K) := by
  obtain ⟨fd, F⟩ := T.d_is_made_of
  exact ⟨_, fd, F.ok (CX := CX0) (N := N_is_made_of) (ps := ["thing", "signs", "most"]) (k := 0) (sp := sp_is_made_of K) sc_is_made_of (fun vs H Q E h => len_is_made_of h) (fun cdv A outer s H vs Q E hr h => ⟨t_is_made_of K, PSs.nox (pss_cons (ps_if (PW.pt (pw_or (pt_not (pt_val (pe_callB call_isi rfl T.f_isinstance (by decide +kernel) (pa_cons (pv 0) (pa_cons (pe_bltn rfl T.f_str (by decide +kernel) rfl) pa_nil))))) (pw_or1 (pt_not (pt_chain (op_leI) (op_leI) (pe_int) (pe_callB call_lenA rfl T.f_len (by decide +kernel) (pa_cons (pv 0) pa_nil)) (pv 2)))))) (pss_one (ps_ret (pe_bl))) (pss_nil))
    (pss_one (ps_ret (pe_callB (cr_all rfl) rfl T.f_all (by decide +kernel) (pa_cons (pe_lc (own := [("sign", 3)]) (g := (gName 3)) (by rfl) sc_is_made_of.nd (pi_str (pv 0)) (blkOk_by (own := [("sign", 3)]) (N := N_is_made_of) (sc := defScope s_is_made_of) (by decide +kernel)) (fun _ _ _ _ _ => (pg_name (i := 3) sc_is_made_of.nd rfl (by first | exact Or.inl rfl | exact Or.inr rfl))) (fun _ _ _ _ _ => pts_nil) (fun _ _ _ _ _ => pe_cmpR op_inSgn (pv 3) (pv 1) rfl)) pa_nil))))), pure_is_made_of T h⟩), T.g_is_made_of, F.kp, F.bindsN fun _ _ _ _ _ _ us hl => match us, hl with | [_, _, _], _ => rfl⟩
theorem ok_is_name (T : Tx K mg) (c_is_made_of : Cal P w K mg base CX0 1 "is_made_of" ["thing", "signs", "most"] (sp_is_made_of K)) : Cal P w K mg base CX0 2 "is_name" ["thing"] (sp_is_name K) := by
  obtain ⟨fd, F⟩ := T.d_is_name
  exact ⟨_, fd, F.ok (CX := CX0) (N := N_is_name) (ps := ["thing"]) (k := 1) (sp := sp_is_name K) sc_is_name (fun vs H Q E h => len_is_name h) (fun cdv A outer s H vs Q E hr h => ⟨t_is_name K, PSs.nox (pss_one (ps_ret (pe_wcall c_is_made_of hr (by decide) (fun σ => passD dead0 σ) (pa_cons (pv 0) (pa_cons (C8.pe_gc rfl T.k_LETTERS) (pa_cons (C8.pe_gc rfl T.k_MOST_LETTERS) pa_nil)))))), pure_is_name T h⟩), T.g_is_name, F.kp, F.bindsN fun _ _ _ _ _ _ us hl => match us, hl with | [_], _ => rfl⟩
theorem ok_want (T : Tx K mg) (x_NoMap_init : ExI P w K mg base 1 "NoMap" ["self", "what", "who"] (sp_NoMap_init K)) : Cal P w K mg base (L2N.CX P w) 3 "want" ["truth", "what", "who"] (sp_want K) := by
  obtain ⟨fd, F⟩ := T.d_want
  obtain ⟨_, i_NoMap_init⟩ := x_NoMap_init
  exact ⟨_, fd, F.ok (CX := (L2N.CX P w)) (N := N_want) (ps := ["truth", "what", "who"]) (k := 2) (sp := sp_want K) sc_want (fun vs H Q E h => len_want h) (fun cdv A outer s H vs Q E hr h => by
    have tk : L2N.Takes (cxOf (L2N.CX P w) P w K mg base N_want "want" (defScope s_want) (He.fAd K ("want", none)) cdv A outer s H E) (fun cls d _ H => E cls d H) := L2N.takes_of rfl rfl rfl rfl
    exact ⟨t_want K E, pss_one (ps_if (pt_not (pt_val (pv 0))) (pss_one (L2N.ps_raise rfl tk (pmkN_oex T.x_NoMap.1 i_NoMap_init.1 i_NoMap_init.2.1 i_NoMap_init.2.2.1 (hr.mono (by decide)) i_NoMap_init.2.2.2 passZ rfl T.g_NoMap (pa_cons (pv 1) (pa_cons (pv 2) pa_nil))))) (pss_nil)), pure_want T h⟩), T.g_want, F.kp, F.bindsN fun _ _ _ _ _ _ us hl => match us, hl with | [_, _, _], _ => rfl⟩
theorem ok_want_hosts (T : Tx K mg) (c_want : Cal P w K mg base (L2N.CX P w) 3 "want" ["truth", "what", "who"] (sp_want K)) (c_is_name : Cal P w K mg base CX0 2 "is_name" ["thing"] (sp_is_name K)) : Cal P w K mg base (L2N.CX P w) 4 "want_hosts" ["hosts"] (sp_want_hosts K) := by
  obtain ⟨fd, F⟩ := T.d_want_hosts
  exact ⟨_, fd, F.ok (CX := (L2N.CX P w)) (N := N_want_hosts) (ps := ["hosts"]) (k := 3) (sp := sp_want_hosts K) sc_want_hosts (fun vs H Q E h => len_want_hosts h) (fun cdv A outer s H vs Q E hr h => by
    have tk : L2N.Takes (cxOf (L2N.CX P w) P w K mg base N_want_hosts "want_hosts" (defScope s_want_hosts) (He.fAd K ("want_hosts", none)) cdv A outer s H E) (fun cls d _ H => E cls d H) := L2N.takes_of rfl rfl rfl rfl
    exact ⟨t_want_hosts K E, pss_cons (ps_expr (pe_wcall c_want hr (by decide) (fun σ => L2N.passAt tk σ) (pa_cons (pe_callB call_isi rfl T.f_isinstance (by decide +kernel) (pa_cons (pv 0) (pa_cons (pe_bltn rfl T.f_list (by decide +kernel) rfl) pa_nil))) (pa_cons (pe_str) (pa_cons (pe_str) pa_nil)))))
    (pss_cons (ps_for (passes_of rfl) rfl (pi_enum rfl T.f_enumerate (pa_cons (pv 0) pa_nil)) (pg_tup rfl (pgs_cons (pg_name (i := 1) sc_want_hosts.nd rfl (by first | exact Or.inl rfl | exact Or.inr rfl)) (pgs_cons (pg_name (i := 2) sc_want_hosts.nd rfl (by first | exact Or.inl rfl | exact Or.inr rfl)) pgs_nil))) (pss_cons (ps_expr (pe_wcall c_want hr (by decide) (fun σ => L2N.passAt tk σ) (pa_cons (pe_wcall c_is_name hr (by decide) (fun σ => passD dead0 σ) (pa_cons (pv 2) pa_nil)) (pa_cons (pe_str) (pa_cons (pe_callTy call_strI rfl T.f_str (by decide +kernel) (pa_cons (pv 1) pa_nil)) pa_nil)))))
    (pss_one (ps_expr (pe_wcall c_want hr (by decide) (fun σ => L2N.passAt tk σ) (pa_cons (pe_cmpR (op_niA) (pv 2) (pe_slice sl_A (pv 0) po_none (po_some (pv 1))) rfl) (pa_cons (pe_str) (pa_cons (pv 2) pa_nil))))))))
    (pss_one (ps_expr (pe_wcall c_want hr (by decide) (fun σ => L2N.passAt tk σ) (pa_cons (pe_chain (op_leI) (op_leI) (C8.pe_gc rfl T.k_LEAST_HOSTS) (pe_callB call_lenA rfl T.f_len (by decide +kernel) (pa_cons (pv 0) pa_nil)) (C8.pe_gc rfl T.k_MOST_HOSTS)) (pa_cons (pe_str) (pa_cons (pe_str) pa_nil))))))), pure_want_hosts T h⟩), T.g_want_hosts, F.kp, F.bindsN fun _ _ _ _ _ _ us hl => match us, hl with | [_], _ => rfl⟩
theorem ok_want_walkers (T : Tx K mg) (c_want : Cal P w K mg base (L2N.CX P w) 3 "want" ["truth", "what", "who"] (sp_want K)) (c_is_name : Cal P w K mg base CX0 2 "is_name" ["thing"] (sp_is_name K)) : Cal P w K mg base (L2N.CX P w) 4 "want_walkers" ["hosts", "walkers"] (sp_want_walkers K) := by
  obtain ⟨fd, F⟩ := T.d_want_walkers
  exact ⟨_, fd, F.ok (CX := (L2N.CX P w)) (N := N_want_walkers) (ps := ["hosts", "walkers"]) (k := 3) (sp := sp_want_walkers K) sc_want_walkers (fun vs H Q E h => len_want_walkers h) (fun cdv A outer s H vs Q E hr h => by
    have tk : L2N.Takes (cxOf (L2N.CX P w) P w K mg base N_want_walkers "want_walkers" (defScope s_want_walkers) (He.fAd K ("want_walkers", none)) cdv A outer s H E) (fun cls d _ H => E cls d H) := L2N.takes_of rfl rfl rfl rfl
    exact ⟨t_want_walkers K E, pss_cons (ps_expr (pe_wcall c_want hr (by decide) (fun σ => L2N.passAt tk σ) (pa_cons (pe_callB call_isi rfl T.f_isinstance (by decide +kernel) (pa_cons (pv 1) (pa_cons (pe_bltn rfl T.f_list (by decide +kernel) rfl) pa_nil))) (pa_cons (pe_str) (pa_cons (pe_str) pa_nil)))))
    (pss_cons (ps_set (i := 2) sc_want_walkers.nd rfl (by first | exact Or.inl rfl | exact Or.inr rfl) (pe_callTy call_listSq rfl T.f_list (by decide +kernel) (pa_cons (pv 0) pa_nil)))
    (pss_cons (ps_for (passes_of rfl) rfl (pi_enum rfl T.f_enumerate (pa_cons (pv 1) pa_nil)) (pg_tup rfl (pgs_cons (pg_name (i := 3) sc_want_walkers.nd rfl (by first | exact Or.inl rfl | exact Or.inr rfl)) (pgs_cons (pg_name (i := 4) sc_want_walkers.nd rfl (by first | exact Or.inl rfl | exact Or.inr rfl)) pgs_nil))) (pss_cons (ps_expr (pe_wcall c_want hr (by decide) (fun σ => L2N.passAt tk σ) (pa_cons (pe_and (pe_callB call_isi rfl T.f_isinstance (by decide +kernel) (pa_cons (pv 4) (pa_cons (pe_bltn rfl T.f_tuple (by decide +kernel) rfl) pa_nil))) (pe_one (pe_cmpR (op_eqA (hu64 hr)) (pe_callB call_lenA rfl T.f_len (by decide +kernel) (pa_cons (pv 4) pa_nil)) (pe_int) (nomark _)))) (pa_cons (pe_str) (pa_cons (pe_callTy call_strI rfl T.f_str (by decide +kernel) (pa_cons (pv 3) pa_nil)) pa_nil)))))
    (pss_cons (ps_asg (pv 4) (pg_tup rfl (pgs_cons (pg_name (i := 5) sc_want_walkers.nd rfl (by first | exact Or.inl rfl | exact Or.inr rfl)) (pgs_cons (pg_name (i := 6) sc_want_walkers.nd rfl (by first | exact Or.inl rfl | exact Or.inr rfl)) pgs_nil))))
    (pss_cons (ps_expr (pe_wcall c_want hr (by decide) (fun σ => L2N.passAt tk σ) (pa_cons (pe_wcall c_is_name hr (by decide) (fun σ => passD dead0 σ) (pa_cons (pv 5) pa_nil)) (pa_cons (pe_str) (pa_cons (pe_callTy call_strI rfl T.f_str (by decide +kernel) (pa_cons (pv 3) pa_nil)) pa_nil)))))
    (pss_cons (ps_expr (pe_wcall c_want hr (by decide) (fun σ => L2N.passAt tk σ) (pa_cons (pe_cmpR (op_niA) (pv 5) (pv 2) rfl) (pa_cons (pe_str) (pa_cons (pv 5) pa_nil)))))
    (pss_cons (ps_expr (pe_wcall c_want hr (by decide) (fun σ => L2N.passAt tk σ) (pa_cons (pe_cmpR (op_inA) (pv 6) (pv 0) rfl) (pa_cons (pe_str) (pa_cons (pv 5) pa_nil)))))
    (pss_one (ps_expr (pe_bm PySem.F.plainAttrs_list PySem.F.slot_list_append PySem.F.type_list_append mt_append (pv 2) (pa_cons (pv 5) pa_nil))))))))))
    (pss_one (ps_expr (pe_wcall c_want hr (by decide) (fun σ => L2N.passAt tk σ) (pa_cons (pe_chain (op_leI) (op_leI) (pe_int) (pe_callB call_lenA rfl T.f_len (by decide +kernel) (pa_cons (pv 1) pa_nil)) (C8.pe_gc rfl T.k_MOST_WALKERS)) (pa_cons (pe_str) (pa_cons (pe_str) pa_nil)))))))), pure_want_walkers T h⟩), T.g_want_walkers, F.kp, F.bindsN fun _ _ _ _ _ _ us hl => match us, hl with | [_, _], _ => rfl⟩
theorem ok_Map_init (T : Tx K mg) (c_want_hosts : Cal P w K mg base (L2N.CX P w) 4 "want_hosts" ["hosts"] (sp_want_hosts K)) (c_want_walkers : Cal P w K mg base (L2N.CX P w) 4 "want_walkers" ["hosts", "walkers"] (sp_want_walkers K)) : Mak P w K mg base (L2N.CX P w) 5 "Map" (He.ga K "Map") ["self", "hosts", "walkers"] (sp_Map_init K) := by
  obtain ⟨fd, F⟩ := T.d_Map_init
  exact ⟨_, fd, F.ok (CX := (L2N.CX P w)) (N := N_Map_init) (ps := ["self", "hosts", "walkers"]) (k := 4) (sp := sp_Map_init K) sc_Map_init (fun vs H Q E h => len_Map_init h) (fun cdv A outer s H vs Q E hr h => by
    have tk : L2N.Takes (cxOf (L2N.CX P w) P w K mg base N_Map_init "Map.__init__" (defScope s_Map_init) (He.fAd K ("Map", some "__init__")) cdv A outer s H E) (fun cls d _ H => E cls d H) := L2N.takes_of rfl rfl rfl rfl
    exact ⟨t_Map_init K E, pss_cons (ps_expr (pe_wcall c_want_hosts hr (by decide) (fun σ => L2N.passAt tk σ) (pa_cons (pv 1) pa_nil)))
    (pss_cons (ps_expr (pe_wcall c_want_walkers hr (by decide) (fun σ => L2N.passAt tk σ) (pa_cons (pv 1) (pa_cons (pv 2) pa_nil))))
    (pss_cons (ps_fld (pv 0) (pe_callTy call_listSq rfl T.f_list (by decide +kernel) (pa_cons (pv 1) pa_nil)) rfl)
    (pss_one (ps_fld (pv 0) (pe_callTy (call_dictPs rfl) rfl T.f_dict (by decide +kernel) (pa_cons (pv 2) pa_nil)) rfl)))), pure_Map_init T h⟩), T.m_Map, T.g_Map, F.bindsN fun _ _ _ _ _ _ us hl => match us, hl with | [_, _, _], _ => rfl⟩
theorem ok_Map_hosts (T : Tx K mg) : Met P w K mg base CX0 1 (He.ga K "Map") "hosts" ["self"] (sp_Map_hosts K) := by
  obtain ⟨fd, F⟩ := T.d_Map_hosts
  exact ⟨_, fd, F.ok (CX := CX0) (N := N_Map_hosts) (ps := ["self"]) (k := 0) (sp := sp_Map_hosts K) sc_Map_hosts (fun vs H Q E h => len_Map_hosts h) (fun cdv A outer s H vs Q E hr h => ⟨t_Map_hosts K, PSs.nox (pss_one (ps_ret (pe_callTy call_listSq rfl T.f_list (by decide +kernel) (pa_cons (pe_fld (pv 0) rfl) pa_nil)))), pure_Map_hosts T h⟩), T.c_Map, T.t_Map_hosts, F.bindsN fun _ _ _ _ _ _ us hl => match us, hl with | [_], _ => rfl⟩
theorem ok_Map_walkers (T : Tx K mg) : Met P w K mg base CX0 1 (He.ga K "Map") "walkers" ["self"] (sp_Map_walkers K) := by
  obtain ⟨fd, F⟩ := T.d_Map_walkers
  exact ⟨_, fd, F.ok (CX := CX0) (N := N_Map_walkers) (ps := ["self"]) (k := 0) (sp := sp_Map_walkers K) sc_Map_walkers (fun vs H Q E h => len_Map_walkers h) (fun cdv A outer s H vs Q E hr h => ⟨t_Map_walkers K, PSs.nox (pss_one (ps_ret (pe_callTy (call_list_dK rfl) rfl T.f_list (by decide +kernel) (pa_cons (pe_fld (pv 0) rfl) pa_nil)))), pure_Map_walkers T h⟩), T.c_Map, T.t_Map_walkers, F.bindsN fun _ _ _ _ _ _ us hl => match us, hl with | [_], _ => rfl⟩
theorem ok_Map_has_walker (T : Tx K mg) (c_Map_walkers : Met P w K mg base CX0 1 (He.ga K "Map") "walkers" ["self"] (sp_Map_walkers K)) : Met P w K mg base CX0 2 (He.ga K "Map") "has_walker" ["self", "name"] (sp_Map_has_walker K) := by
  obtain ⟨fd, F⟩ := T.d_Map_has_walker
  exact ⟨_, fd, F.ok (CX := CX0) (N := N_Map_has_walker) (ps := ["self", "name"]) (k := 1) (sp := sp_Map_has_walker K) sc_Map_has_walker (fun vs H Q E h => len_Map_has_walker h) (fun cdv A outer s H vs Q E hr h => ⟨t_Map_has_walker K, PSs.nox (pss_one (ps_ret (pe_cmpR (op_inA) (pv 1) (pe_wmeth0 (pv 0) c_Map_walkers hr (by decide) (fun σ => passD dead0 σ)) rfl))), pure_Map_has_walker T h⟩), T.c_Map, T.t_Map_has_walker, F.bindsN fun _ _ _ _ _ _ us hl => match us, hl with | [_, _], _ => rfl⟩
theorem ok_Map_want_walker (T : Tx K mg) (c_Map_has_walker : Met P w K mg base CX0 2 (He.ga K "Map") "has_walker" ["self", "name"] (sp_Map_has_walker K)) : Met P w K mg base CX0 3 (He.ga K "Map") "want_walker" ["self", "name"] (sp_Map_want_walker K) := by
  obtain ⟨fd, F⟩ := T.d_Map_want_walker
  exact ⟨_, fd, F.ok (CX := CX0) (N := N_Map_want_walker) (ps := ["self", "name"]) (k := 2) (sp := sp_Map_want_walker K) sc_Map_want_walker (fun vs H Q E h => len_Map_want_walker h) (fun cdv A outer s H vs Q E hr h => ⟨t_Map_want_walker K, PSs.nox (pss_one (ps_if (pt_not (pt_val (pe_wmeth (pv 0) c_Map_has_walker hr (by decide) (fun σ => passD dead0 σ) (pa_cons (pv 1) pa_nil)))) (pss_one (ps_never)) (pss_nil))), pure_Map_want_walker T h⟩), T.c_Map, T.t_Map_want_walker, F.bindsN fun _ _ _ _ _ _ us hl => match us, hl with | [_, _], _ => rfl⟩
theorem ok_Map_home (T : Tx K mg) (c_Map_want_walker : Met P w K mg base CX0 3 (He.ga K "Map") "want_walker" ["self", "name"] (sp_Map_want_walker K)) : Met P w K mg base CX0 4 (He.ga K "Map") "home" ["self", "walker"] (sp_Map_home K) := by
  obtain ⟨fd, F⟩ := T.d_Map_home
  exact ⟨_, fd, F.ok (CX := CX0) (N := N_Map_home) (ps := ["self", "walker"]) (k := 3) (sp := sp_Map_home K) sc_Map_home (fun vs H Q E h => len_Map_home h) (fun cdv A outer s H vs Q E hr h => ⟨t_Map_home K, PSs.nox (pss_cons (ps_expr (pe_wmeth (pv 0) c_Map_want_walker hr (by decide) (fun σ => passD dead0 σ) (pa_cons (pv 1) pa_nil)))
    (pss_one (ps_ret (pe_dget (hu_of hr) (pe_fld (pv 0) rfl) (pv 1) (fun _ _ => rfl))))), pure_Map_home T h⟩), T.c_Map, T.t_Map_home, F.bindsN fun _ _ _ _ _ _ us hl => match us, hl with | [_, _], _ => rfl⟩
theorem ok_Map_eq (T : Tx K mg) : Met P w K mg base CX0 1 (He.ga K "Map") "__eq__" ["self", "other"] (sp_Map_eq K) := by
  obtain ⟨fd, F⟩ := T.d_Map_eq
  exact ⟨_, fd, F.ok (CX := CX0) (N := N_Map_eq) (ps := ["self", "other"]) (k := 0) (sp := sp_Map_eq K) sc_Map_eq (fun vs H Q E h => len_Map_eq h) (fun cdv A outer s H vs Q E hr h => ⟨t_Map_eq K, PSs.nox (pss_cons (ps_if (pt_not (pt_val (pe_callB call_isi rfl T.f_isinstance (by decide +kernel) (pa_cons (pv 1) (pa_cons (pe_glob rfl T.g_Map rfl) pa_nil))))) (pss_one (ps_ret (pe_bl))) (pss_nil))
    (pss_one (ps_ret (pe_and (pe_cmpR (op_eqA (hu64 hr)) (pe_fld (pv 0) rfl) (pe_fld (pv 1) rfl) (nomark _)) (pe_one (pe_cmpR (op_eqA (hu64 hr)) (pe_listItems rfl (pe_fld (pv 0) rfl) rfl T.f_list (by decide +kernel)) (pe_listItems rfl (pe_fld (pv 1) rfl) rfl T.f_list (by decide +kernel)) (nomark _))))))), pure_Map_eq T h⟩), T.c_Map, T.t_Map_eq, F.bindsN fun _ _ _ _ _ _ us hl => match us, hl with | [_, _], _ => rfl⟩
theorem ok_map_text (T : Tx K mg) (c_Map_walkers : Met P w K mg base CX0 1 (He.ga K "Map") "walkers" ["self"] (sp_Map_walkers K)) (c_Map_home : Met P w K mg base CX0 4 (He.ga K "Map") "home" ["self", "walker"] (sp_Map_home K)) (c_Map_hosts : Met P w K mg base CX0 1 (He.ga K "Map") "hosts" ["self"] (sp_Map_hosts K)) : Cal P w K mg base CX0 5 "map_text" ["grounds"] (sp_map_text K) := by
  obtain ⟨fd, F⟩ := T.d_map_text
  exact ⟨_, fd, F.ok (CX := CX0) (N := N_map_text) (ps := ["grounds"]) (k := 4) (sp := sp_map_text K) sc_map_text (fun vs H Q E h => len_map_text h) (fun cdv A outer s H vs Q E hr h => ⟨t_map_text K, PSs.nox (pss_cons (ps_setLc (i := 1) (own := [("name", 2)]) (g := (gName 2)) (by rfl) sc_map_text.nd rfl rfl (sw_true rfl rfl rfl (by decide +kernel)) (pi_list (pe_wmeth0 (pv 0) c_Map_walkers hr (by decide) (fun σ => passD dead0 σ))) (blkOk_by (own := [("name", 2)]) (N := N_map_text) (sc := defScope s_map_text) (by decide +kernel)) (fun _ _ _ _ _ => (pg_name (i := 2) sc_map_text.nd rfl (by first | exact Or.inl rfl | exact Or.inr rfl))) (fun _ _ _ _ _ => pts_nil) (fun _ _ _ _ _ => pe_op op_addA (pe_op op_addA (pv 2) (pe_str)) (pe_wmeth (pv 0) c_Map_home hr (by decide) (fun σ => passD dead0 σ) (pa_cons (pv 2) pa_nil))))
    (pss_one (ps_ret (pe_m1 PySem.F.slot_str_join PySem.F.type_str_join mt_joinS (pe_str) (pe_op op_addA (pe_wmeth0 (pv 0) c_Map_hosts hr (by decide) (fun σ => passD dead0 σ)) (pv 1)))))), pure_map_text T h⟩), T.g_map_text, F.kp, F.bindsN fun _ _ _ _ _ _ us hl => match us, hl with | [_], _ => rfl⟩
theorem okK_map_text (T : Tx K mg) (c_Map_walkers : Met P w K mg base CX0 1 (He.ga K "Map") "walkers" ["self"] (sp_Map_walkers K)) (c_Map_home : Met P w K mg base CX0 4 (He.ga K "Map") "home" ["self", "walker"] (sp_Map_home K)) (c_Map_hosts : Met P w K mg base CX0 1 (He.ga K "Map") "hosts" ["self"] (sp_Map_hosts K)) : CalK P w K mg base CX0 5 "map_text" ["grounds"] (sp_map_text K) := by
  obtain ⟨fd, F⟩ := T.d_map_text
  exact ⟨_, fd, F.ok (CX := CX0) (N := N_map_text) (ps := ["grounds"]) (k := 4) (sp := sp_map_text K) sc_map_text (fun vs H Q E h => len_map_text h) (fun cdv A outer s H vs Q E hr h => ⟨t_map_text K, PSs.nox (pss_cons (ps_setLc (i := 1) (own := [("name", 2)]) (g := (gName 2)) (by rfl) sc_map_text.nd rfl rfl (sw_true rfl rfl rfl (by decide +kernel)) (pi_list (pe_wmeth0 (pv 0) c_Map_walkers hr (by decide) (fun σ => passD dead0 σ))) (blkOk_by (own := [("name", 2)]) (N := N_map_text) (sc := defScope s_map_text) (by decide +kernel)) (fun _ _ _ _ _ => (pg_name (i := 2) sc_map_text.nd rfl (by first | exact Or.inl rfl | exact Or.inr rfl))) (fun _ _ _ _ _ => pts_nil) (fun _ _ _ _ _ => pe_op op_addA (pe_op op_addA (pv 2) (pe_str)) (pe_wmeth (pv 0) c_Map_home hr (by decide) (fun σ => passD dead0 σ) (pa_cons (pv 2) pa_nil))))
    (pss_one (ps_ret (pe_m1 PySem.F.slot_str_join PySem.F.type_str_join mt_joinS (pe_str) (pe_op op_addA (pe_wmeth0 (pv 0) c_Map_hosts hr (by decide) (fun σ => passD dead0 σ)) (pv 1)))))), pure_map_text T h⟩), T.g_map_text, F.kp, kbn_of F fun _ _ _ _ _ _ ws hl => match ws, hl with | [_], _ => rfl⟩
theorem ok_read_map (T : Tx K mg) (c_Map_init : Mak P w K mg base (L2N.CX P w) 5 "Map" (He.ga K "Map") ["self", "hosts", "walkers"] (sp_Map_init K)) (c_map_text : Cal P w K mg base CX0 5 "map_text" ["grounds"] (sp_map_text K)) (x_NoText_init : ExI P w K mg base 1 "NoText" ["self", "row"] (sp_NoText_init K)) (xh_NoText_init : ExIH P w K mg base 1 "NoText" ["self", "row"] (sp_NoText_init K)) : Cal P w K mg base (L2.CX P w) 7 "read_map" ["text"] (sp_read_map K) := by
  obtain ⟨fd, F⟩ := T.d_read_map
  obtain ⟨_, i_NoText_init⟩ := x_NoText_init
  obtain ⟨_, h_NoText_init⟩ := xh_NoText_init
  exact ⟨_, fd, F.ok (CX := (L2.CX P w)) (N := N_read_map) (ps := ["text"]) (k := 6) (sp := sp_read_map K) sc_read_map (fun vs H Q E h => len_read_map h) (fun cdv A outer s H vs Q E hr h => by
    have tk : L2.Takes (cxOf (L2.CX P w) P w K mg base N_read_map "read_map" (defScope s_read_map) (He.fAd K ("read_map", none)) cdv A outer s H E) (fun cls d _ H => E cls d H) := L2.takes_of rfl rfl rfl rfl
    exact ⟨t_read_map K E, pss_cons (ps_if (pt_not (pt_val (pe_callB call_isi rfl T.f_isinstance (by decide +kernel) (pa_cons (pv 0) (pa_cons (pe_bltn rfl T.f_str (by decide +kernel) rfl) pa_nil))))) (pss_one (ps_raise rfl tk (pmk_oex T.x_NoText.1 i_NoText_init.1 i_NoText_init.2.1 i_NoText_init.2.2.1 (hr.mono (by decide)) i_NoText_init.2.2.2 .nil passZ rfl T.g_NoText (pa_cons (pe_int) pa_nil)))) (pss_nil))
    (pss_cons (ps_set (i := 1) sc_read_map.nd rfl (by first | exact Or.inl rfl | exact Or.inr rfl) (pe_m1 PySem.F.slot_str_split PySem.F.type_str_split mt_splitS (pv 0) (pe_str)))
    (pss_cons (ps_setLc (i := 2) (own := [("word", 5)]) (g := (gName 5)) (by rfl) sc_read_map.nd rfl rfl (sw_true rfl rfl rfl (by decide +kernel)) (pi_list (pv 1)) (blkOk_by (own := [("word", 5)]) (N := N_read_map) (sc := defScope s_read_map) (by decide +kernel)) (fun _ _ _ _ _ => (pg_name (i := 5) sc_read_map.nd rfl (by first | exact Or.inl rfl | exact Or.inr rfl))) (fun _ _ _ _ _ => pts_one (pt_cmpR op_niSgn (pe_str) (pv 5) rfl)) (fun _ _ _ _ _ => pv 5))
    (pss_cons (ps_setLc (i := 3) (own := [("word", 5)]) (g := (gName 5)) (by rfl) sc_read_map.nd rfl rfl (sw_true rfl rfl rfl (by decide +kernel)) (pi_list (pv 1)) (blkOk_by (own := [("word", 5)]) (N := N_read_map) (sc := defScope s_read_map) (by decide +kernel)) (fun _ _ _ _ _ => (pg_name (i := 5) sc_read_map.nd rfl (by first | exact Or.inl rfl | exact Or.inr rfl))) (fun _ _ _ _ _ => pts_one (pt_cmpR op_inSgn (pe_str) (pv 5) rfl)) (fun _ _ _ _ _ => pe_callTy call_tupSq rfl T.f_tuple (by decide +kernel) (pa_cons (pe_m1 PySem.F.slot_str_split PySem.F.type_str_split mt_splitS (pv 5) (pe_str)) pa_nil)))
    (pss_cons (L2H.ps_try_onlyX (tb := fun W => tAsg (tMakeS (He.ga K "Map") (sp_Map_init K) (WE W) (tCons (tVar 2) (tCons (tVar 3) tNil))) (gName 4)) (ts := fun a cls d => fun _ σ H => tMkO (He.ga K "NoText") (sp_NoText_init K) [] (tCons (tC (.int 1)) tNil) σ H fun cls d H' => E cls d H') (Wout := fun cls d _ H => E cls d H) rfl rfl ⟨rfl, by decide, Or.inl T.g_NoMap⟩ (L2H.passesAt_of rfl) tk (fun W pn xe tkW _ hpas => pss_one (ps_set (i := 4) sc_read_map.nd rfl (by first | exact Or.inl rfl | exact Or.inr rfl) (pe_wmake c_Map_init hr (by decide) (fun σ => L2N.passAt tkW σ) (pa_cons (pv 2) (pa_cons (pv 3) pa_nil))))) (fun a oe cls d pn hz hf tkO hot => pss_one (L2H.ps_raiseHN hot tkO (L2H.pmk5_oexH T.x_NoText.1 h_NoText_init.1 h_NoText_init.2.1 h_NoText_init.2.2.1 ((L2H.roomH_mark hr _).mono (by decide)) hot h_NoText_init.2.2.2 passZ rfl T.g_NoText (pa_cons (pe_int) pa_nil)))))
    (pss_cons (ps_if (pt_cmpR (op_neA (hu64 hr)) (pe_wcall c_map_text hr (by decide) (fun σ => passD dead0 σ) (pa_cons (pv 4) pa_nil)) (pv 0) (nomark _)) (pss_one (ps_raise rfl tk (pmk_oex T.x_NoText.1 i_NoText_init.1 i_NoText_init.2.1 i_NoText_init.2.2.1 (hr.mono (by decide)) i_NoText_init.2.2.2 .nil passZ rfl T.g_NoText (pa_cons (pe_int) pa_nil)))) (pss_nil))
    (pss_one (ps_ret (pv 4)))))))), pure_read_map T h⟩), T.g_read_map, F.kp, F.bindsN fun _ _ _ _ _ _ us hl => match us, hl with | [_], _ => rfl⟩
theorem okK_read_map (T : Tx K mg) (c_Map_init : Mak P w K mg base (L2N.CX P w) 5 "Map" (He.ga K "Map") ["self", "hosts", "walkers"] (sp_Map_init K)) (c_map_text : Cal P w K mg base CX0 5 "map_text" ["grounds"] (sp_map_text K)) (x_NoText_init : ExI P w K mg base 1 "NoText" ["self", "row"] (sp_NoText_init K)) (xh_NoText_init : ExIH P w K mg base 1 "NoText" ["self", "row"] (sp_NoText_init K)) : CalK P w K mg base (L2.CX P w) 7 "read_map" ["text"] (sp_read_map K) := by
  obtain ⟨fd, F⟩ := T.d_read_map
  obtain ⟨_, i_NoText_init⟩ := x_NoText_init
  obtain ⟨_, h_NoText_init⟩ := xh_NoText_init
  exact ⟨_, fd, F.ok (CX := (L2.CX P w)) (N := N_read_map) (ps := ["text"]) (k := 6) (sp := sp_read_map K) sc_read_map (fun vs H Q E h => len_read_map h) (fun cdv A outer s H vs Q E hr h => by
    have tk : L2.Takes (cxOf (L2.CX P w) P w K mg base N_read_map "read_map" (defScope s_read_map) (He.fAd K ("read_map", none)) cdv A outer s H E) (fun cls d _ H => E cls d H) := L2.takes_of rfl rfl rfl rfl
    exact ⟨t_read_map K E, pss_cons (ps_if (pt_not (pt_val (pe_callB call_isi rfl T.f_isinstance (by decide +kernel) (pa_cons (pv 0) (pa_cons (pe_bltn rfl T.f_str (by decide +kernel) rfl) pa_nil))))) (pss_one (ps_raise rfl tk (pmk_oex T.x_NoText.1 i_NoText_init.1 i_NoText_init.2.1 i_NoText_init.2.2.1 (hr.mono (by decide)) i_NoText_init.2.2.2 .nil passZ rfl T.g_NoText (pa_cons (pe_int) pa_nil)))) (pss_nil))
    (pss_cons (ps_set (i := 1) sc_read_map.nd rfl (by first | exact Or.inl rfl | exact Or.inr rfl) (pe_m1 PySem.F.slot_str_split PySem.F.type_str_split mt_splitS (pv 0) (pe_str)))
    (pss_cons (ps_setLc (i := 2) (own := [("word", 5)]) (g := (gName 5)) (by rfl) sc_read_map.nd rfl rfl (sw_true rfl rfl rfl (by decide +kernel)) (pi_list (pv 1)) (blkOk_by (own := [("word", 5)]) (N := N_read_map) (sc := defScope s_read_map) (by decide +kernel)) (fun _ _ _ _ _ => (pg_name (i := 5) sc_read_map.nd rfl (by first | exact Or.inl rfl | exact Or.inr rfl))) (fun _ _ _ _ _ => pts_one (pt_cmpR op_niSgn (pe_str) (pv 5) rfl)) (fun _ _ _ _ _ => pv 5))
    (pss_cons (ps_setLc (i := 3) (own := [("word", 5)]) (g := (gName 5)) (by rfl) sc_read_map.nd rfl rfl (sw_true rfl rfl rfl (by decide +kernel)) (pi_list (pv 1)) (blkOk_by (own := [("word", 5)]) (N := N_read_map) (sc := defScope s_read_map) (by decide +kernel)) (fun _ _ _ _ _ => (pg_name (i := 5) sc_read_map.nd rfl (by first | exact Or.inl rfl | exact Or.inr rfl))) (fun _ _ _ _ _ => pts_one (pt_cmpR op_inSgn (pe_str) (pv 5) rfl)) (fun _ _ _ _ _ => pe_callTy call_tupSq rfl T.f_tuple (by decide +kernel) (pa_cons (pe_m1 PySem.F.slot_str_split PySem.F.type_str_split mt_splitS (pv 5) (pe_str)) pa_nil)))
    (pss_cons (L2H.ps_try_onlyX (tb := fun W => tAsg (tMakeS (He.ga K "Map") (sp_Map_init K) (WE W) (tCons (tVar 2) (tCons (tVar 3) tNil))) (gName 4)) (ts := fun a cls d => fun _ σ H => tMkO (He.ga K "NoText") (sp_NoText_init K) [] (tCons (tC (.int 1)) tNil) σ H fun cls d H' => E cls d H') (Wout := fun cls d _ H => E cls d H) rfl rfl ⟨rfl, by decide, Or.inl T.g_NoMap⟩ (L2H.passesAt_of rfl) tk (fun W pn xe tkW _ hpas => pss_one (ps_set (i := 4) sc_read_map.nd rfl (by first | exact Or.inl rfl | exact Or.inr rfl) (pe_wmake c_Map_init hr (by decide) (fun σ => L2N.passAt tkW σ) (pa_cons (pv 2) (pa_cons (pv 3) pa_nil))))) (fun a oe cls d pn hz hf tkO hot => pss_one (L2H.ps_raiseHN hot tkO (L2H.pmk5_oexH T.x_NoText.1 h_NoText_init.1 h_NoText_init.2.1 h_NoText_init.2.2.1 ((L2H.roomH_mark hr _).mono (by decide)) hot h_NoText_init.2.2.2 passZ rfl T.g_NoText (pa_cons (pe_int) pa_nil)))))
    (pss_cons (ps_if (pt_cmpR (op_neA (hu64 hr)) (pe_wcall c_map_text hr (by decide) (fun σ => passD dead0 σ) (pa_cons (pv 4) pa_nil)) (pv 0) (nomark _)) (pss_one (ps_raise rfl tk (pmk_oex T.x_NoText.1 i_NoText_init.1 i_NoText_init.2.1 i_NoText_init.2.2.1 (hr.mono (by decide)) i_NoText_init.2.2.2 .nil passZ rfl T.g_NoText (pa_cons (pe_int) pa_nil)))) (pss_nil))
    (pss_one (ps_ret (pv 4)))))))), pure_read_map T h⟩), T.g_read_map, F.kp, kbn_of F fun _ _ _ _ _ _ ws hl => match ws, hl with | [_], _ => rfl⟩
theorem ok_l_pot (T : Tx K mg) : Cal P w K mg base CX0 1 "_law_pot" ["_law_script", "_law_k"] (sp_l_pot K) := by
  obtain ⟨fd, F⟩ := T.d_l_pot
  exact ⟨_, fd, F.ok (CX := CX0) (N := N_l_pot) (ps := ["_law_script", "_law_k"]) (k := 0) (sp := sp_l_pot K) sc_l_pot (fun vs H Q E h => len_l_pot h) (fun cdv A outer s H vs Q E hr h => ⟨t_l_pot K, PSs.nox (pss_cons (ps_set (i := 2) sc_l_pot.nd rfl (by first | exact Or.inl rfl | exact Or.inr rfl) (pe_ifExp (pt_cmpR (op_ltI) (pv 1) (pe_callB call_lenA rfl T.f_len (by decide +kernel) (pa_cons (pv 0) pa_nil)) (nomark _)) (pe_ix ix_seq (pv 0) (pv 1) (fun _ _ => rfl)) (pe_int)))
    (pss_one (ps_ret (pe_lst (pa_cons (pe_callB (call_max2I rfl) rfl T.f_max (by decide +kernel) (pa_cons (pe_int) (pa_cons (pe_op op_subI (pe_callB call_absI rfl T.f_abs (by decide +kernel) (pa_cons (pv 2) pa_nil)) (pe_op op_powI (pe_int) (pe_int))) pa_nil))) (pa_cons (pe_op op_addA (pe_op op_addA (pe_op op_modI (pe_callB call_absI rfl T.f_abs (by decide +kernel) (pa_cons (pv 2) pa_nil)) (pe_int)) (pe_op op_mulI (pe_int) (pv 1))) (pe_int)) pa_nil)))))), pure_l_pot T h⟩), T.g_l_pot, F.kp, F.bindsN fun _ _ _ _ _ _ us hl => match us, hl with | [_, _], _ => rfl⟩
theorem ok_l_digit (T : Tx K mg) : Cal P w K mg base CX0 1 "_law_digit" ["_law_pot_here", "_law_many"] (sp_l_digit K) := by
  obtain ⟨fd, F⟩ := T.d_l_digit
  exact ⟨_, fd, F.ok (CX := CX0) (N := N_l_digit) (ps := ["_law_pot_here", "_law_many"]) (k := 0) (sp := sp_l_digit K) sc_l_digit (fun vs H Q E h => len_l_digit h) (fun cdv A outer s H vs Q E hr h => ⟨t_l_digit K, PSs.nox (pss_cons (ps_if (pt_cmpR (op_gtI) (pe_ix ix_seq (pv 0) (pe_int) (fun _ _ => rfl)) (pe_int) (nomark _)) (pss_cons (ps_set (i := 2) sc_l_digit.nd rfl (by first | exact Or.inl rfl | exact Or.inr rfl) (pe_op op_modI (pe_ix ix_seq (pv 0) (pe_int) (fun _ _ => rfl)) (pv 1)))
    (pss_cons (ps_asg (pe_op op_divI (pe_ix ix_seq (pv 0) (pe_int) (fun _ _ => rfl)) (pv 1)) (pg_sub (pv 0) (pe_int) set_list))
    (pss_one (ps_ret (pv 2))))) (pss_nil))
    (pss_cons (ps_asg (pe_op op_modI (pe_op op_addA (pe_op op_mulI (pe_ix ix_seq (pv 0) (pe_int) (fun _ _ => rfl)) (pe_int)) (pe_int)) (pe_int)) (pg_sub (pv 0) (pe_int) set_list))
    (pss_one (ps_ret (pe_op op_modI (pe_op op_divI (pe_op op_modI (pe_op op_mulI (pe_ix ix_seq (pv 0) (pe_int) (fun _ _ => rfl)) (pe_ix ix_seq (pv 0) (pe_int) (fun _ _ => rfl))) (pe_int)) (pe_int)) (pv 1)))))), pure_l_digit T h⟩), T.g_l_digit, F.kp, F.bindsN fun _ _ _ _ _ _ us hl => match us, hl with | [_, _], _ => rfl⟩
theorem ok_l_name (T : Tx K mg) (c_l_digit : Cal P w K mg base CX0 1 "_law_digit" ["_law_pot_here", "_law_many"] (sp_l_digit K)) : Cal P w K mg base CX0 2 "_law_name" ["_law_pot_here", "_law_used"] (sp_l_name K) := by
  obtain ⟨fd, F⟩ := T.d_l_name
  exact ⟨_, fd, F.ok (CX := CX0) (N := N_l_name) (ps := ["_law_pot_here", "_law_used"]) (k := 1) (sp := sp_l_name K) sc_l_name (fun vs H Q E h => len_l_name h) (fun cdv A outer s H vs Q E hr h => ⟨t_l_name K, PSs.nox (pss_cons (ps_set (i := 2) sc_l_name.nd rfl (by first | exact Or.inl rfl | exact Or.inr rfl) (pe_str))
    (pss_cons (ps_set (i := 3) sc_l_name.nd rfl (by first | exact Or.inl rfl | exact Or.inr rfl) (pe_op op_addA (pe_int) (pe_wcall c_l_digit hr (by decide) (fun σ => passD dead0 σ) (pa_cons (pv 0) (pa_cons (pe_ix ix_seq (pe_lst (pa_cons (pe_int) (pa_cons (pe_int) (pa_cons (pe_int) pa_nil)))) (pe_wcall c_l_digit hr (by decide) (fun σ => passD dead0 σ) (pa_cons (pv 0) (pa_cons (pe_int) pa_nil))) (fun _ _ => rfl)) pa_nil)))))
    (pss_cons (ps_set (i := 4) sc_l_name.nd rfl (by first | exact Or.inl rfl | exact Or.inr rfl) (pe_m1 PySem.F.slot_str_join PySem.F.type_str_join mt_joinS (pe_str) (pe_lc (own := [("_law_k", 5)]) (g := (gName 5)) (by rfl) sc_l_name.nd (pi_range1 rfl T.f_range (pa_cons (pv 3) pa_nil)) (blkOk_by (own := [("_law_k", 5)]) (N := N_l_name) (sc := defScope s_l_name) (by decide +kernel)) (fun _ _ _ _ _ => (pg_name (i := 5) sc_l_name.nd rfl (by first | exact Or.inl rfl | exact Or.inr rfl))) (fun _ _ _ _ _ => pts_nil) (fun _ _ _ _ _ => pe_ix ix_seq (pv 2) (pe_wcall c_l_digit hr (by decide) (fun σ => passD dead0 σ) (pa_cons (pv 0) (pa_cons (pe_int) pa_nil))) (fun _ _ => rfl)))))
    (pss_cons (ps_if (PW.pt (pw_and (pt_cmpR (op_neA (hu64 hr)) (pv 1) (pe_lst pa_nil) (nomark _)) (pw_and1 (pt_cmpR (op_eqA (hu64 hr)) (pe_wcall c_l_digit hr (by decide) (fun σ => passD dead0 σ) (pa_cons (pv 0) (pa_cons (pe_int) pa_nil))) (pe_int) (nomark _))))) (pss_one (ps_set (i := 4) sc_l_name.nd rfl (by first | exact Or.inl rfl | exact Or.inr rfl) (pe_slice sl_A (pe_op op_addA (pe_ix ix_seq (pv 1) (pe_un un_neg (pe_int)) (fun _ _ => rfl)) (pv 4)) po_none (po_some (pe_int))))) (pss_nil))
    (pss_cons (ps_if (pt_cmpR (op_inA) (pv 4) (pv 1) rfl) (pss_one (ps_set (i := 4) sc_l_name.nd rfl (by first | exact Or.inl rfl | exact Or.inr rfl) (pe_ix ix_seq (pe_lc (own := [("_law_letter", 6)]) (g := (gName 6)) (by rfl) sc_l_name.nd (pi_str (pv 2)) (blkOk_by (own := [("_law_letter", 6)]) (N := N_l_name) (sc := defScope s_l_name) (by decide +kernel)) (fun _ _ _ _ _ => (pg_name (i := 6) sc_l_name.nd rfl (by first | exact Or.inl rfl | exact Or.inr rfl))) (fun _ _ _ _ _ => pts_one (pt_cmpR (op_niA) (pv 6) (pv 1) rfl)) (fun _ _ _ _ _ => pv 6)) (pe_int) (fun _ _ => rfl)))) (pss_nil))
    (pss_one (ps_ret (pv 4)))))))), pure_l_name T h⟩), T.g_l_name, F.kp, F.bindsN fun _ _ _ _ _ _ us hl => match us, hl with | [_, _], _ => rfl⟩
theorem ok_l_names (T : Tx K mg) (c_l_name : Cal P w K mg base CX0 2 "_law_name" ["_law_pot_here", "_law_used"] (sp_l_name K)) : Cal P w K mg base CX0 3 "_law_names" ["_law_pot_here", "_law_many", "_law_used"] (sp_l_names K) := by
  obtain ⟨fd, F⟩ := T.d_l_names
  exact ⟨_, fd, F.ok (CX := CX0) (N := N_l_names) (ps := ["_law_pot_here", "_law_many", "_law_used"]) (k := 2) (sp := sp_l_names K) sc_l_names (fun vs H Q E h => len_l_names h) (fun cdv A outer s H vs Q E hr h => ⟨t_l_names K, PSs.nox (pss_cons (ps_set (i := 3) sc_l_names.nd rfl (by first | exact Or.inl rfl | exact Or.inr rfl) (pe_lst pa_nil))
    (pss_cons (ps_for PassesOwn.never rfl (pi_range1 rfl T.f_range (pa_cons (pv 1) pa_nil)) (pg_name (i := 4) sc_l_names.nd rfl (by first | exact Or.inl rfl | exact Or.inr rfl)) (pss_one (ps_expr (pe_bm PySem.F.plainAttrs_list PySem.F.slot_list_append PySem.F.type_list_append mt_append (pv 3) (pa_cons (pe_wcall c_l_name hr (by decide) (fun σ => passD dead0 σ) (pa_cons (pv 0) (pa_cons (pe_op op_addA (pv 2) (pv 3)) pa_nil))) pa_nil)))))
    (pss_one (ps_ret (pv 3))))), pure_l_names T h⟩), T.g_l_names, F.kp, F.bindsN fun _ _ _ _ _ _ us hl => match us, hl with | [_, _, _], _ => rfl⟩
theorem ok_l_rows (T : Tx K mg) (c_l_names : Cal P w K mg base CX0 3 "_law_names" ["_law_pot_here", "_law_many", "_law_used"] (sp_l_names K)) (c_l_digit : Cal P w K mg base CX0 1 "_law_digit" ["_law_pot_here", "_law_many"] (sp_l_digit K)) : Cal P w K mg base CX0 4 "_law_rows" ["_law_pot_here"] (sp_l_rows K) := by
  obtain ⟨fd, F⟩ := T.d_l_rows
  exact ⟨_, fd, F.ok (CX := CX0) (N := N_l_rows) (ps := ["_law_pot_here"]) (k := 3) (sp := sp_l_rows K) sc_l_rows (fun vs H Q E h => len_l_rows h) (fun cdv A outer s H vs Q E hr h => ⟨t_l_rows K, PSs.nox (pss_cons (ps_set (i := 1) sc_l_rows.nd rfl (by first | exact Or.inl rfl | exact Or.inr rfl) (pe_wcall c_l_names hr (by decide) (fun σ => passD dead0 σ) (pa_cons (pv 0) (pa_cons (pe_op op_addA (pe_int) (pe_wcall c_l_digit hr (by decide) (fun σ => passD dead0 σ) (pa_cons (pv 0) (pa_cons (pe_int) pa_nil)))) (pa_cons (pe_lst pa_nil) pa_nil)))))
    (pss_cons (ps_set (i := 2) sc_l_rows.nd rfl (by first | exact Or.inl rfl | exact Or.inr rfl) (pe_wcall c_l_names hr (by decide) (fun σ => passD dead0 σ) (pa_cons (pv 0) (pa_cons (pe_op op_addA (pe_int) (pe_wcall c_l_digit hr (by decide) (fun σ => passD dead0 σ) (pa_cons (pv 0) (pa_cons (pe_int) pa_nil)))) (pa_cons (pv 1) pa_nil)))))
    (pss_one (ps_ret (pe_tup (pa_cons (pv 1) (pa_cons (pe_lc (own := [("_law_name_here", 3)]) (g := (gName 3)) (by rfl) sc_l_rows.nd (pi_list (pv 2)) (blkOk_by (own := [("_law_name_here", 3)]) (N := N_l_rows) (sc := defScope s_l_rows) (by decide +kernel)) (fun _ _ _ _ _ => (pg_name (i := 3) sc_l_rows.nd rfl (by first | exact Or.inl rfl | exact Or.inr rfl))) (fun _ _ _ _ _ => pts_nil) (fun _ _ _ _ _ => pe_tup (pa_cons (pv 3) (pa_cons (pe_ix ix_seq (pv 1) (pe_wcall c_l_digit hr (by decide) (fun σ => passD dead0 σ) (pa_cons (pv 0) (pa_cons (pe_callB call_lenA rfl T.f_len (by decide +kernel) (pa_cons (pv 1) pa_nil)) pa_nil))) (fun _ _ => rfl)) pa_nil)))) pa_nil))))))), pure_l_rows T h⟩), T.g_l_rows, F.kp, F.bindsN fun _ _ _ _ _ _ us hl => match us, hl with | [_], _ => rfl⟩
theorem ok_l_among (T : Tx K mg) (c_l_digit : Cal P w K mg base CX0 1 "_law_digit" ["_law_pot_here", "_law_many"] (sp_l_digit K)) : Cal P w K mg base CX0 2 "_law_among" ["_law_pot_here", "_law_some"] (sp_l_among K) := by
  obtain ⟨fd, F⟩ := T.d_l_among
  exact ⟨_, fd, F.ok (CX := CX0) (N := N_l_among) (ps := ["_law_pot_here", "_law_some"]) (k := 1) (sp := sp_l_among K) sc_l_among (fun vs H Q E h => len_l_among h) (fun cdv A outer s H vs Q E hr h => ⟨t_l_among K, PSs.nox (pss_one (ps_ret (pe_ix ix_seq (pv 1) (pe_wcall c_l_digit hr (by decide) (fun σ => passD dead0 σ) (pa_cons (pv 0) (pa_cons (pe_callB call_lenA rfl T.f_len (by decide +kernel) (pa_cons (pv 1) pa_nil)) pa_nil))) (fun _ _ => rfl)))), pure_l_among T h⟩), T.g_l_among, F.kp, F.bindsN fun _ _ _ _ _ _ us hl => match us, hl with | [_, _], _ => rfl⟩
theorem ok_l_is_name (T : Tx K mg) : Cal P w K mg base CX0 1 "_law_is_name" ["_law_word"] (sp_l_is_name K) := by
  obtain ⟨fd, F⟩ := T.d_l_is_name
  exact ⟨_, fd, F.ok (CX := CX0) (N := N_l_is_name) (ps := ["_law_word"]) (k := 0) (sp := sp_l_is_name K) sc_l_is_name (fun vs H Q E h => len_l_is_name h) (fun cdv A outer s H vs Q E hr h => ⟨t_l_is_name K, PSs.nox (pss_one (ps_ret (pe_and (pe_chain (op_leI) (op_leI) (pe_int) (pe_callB call_lenA rfl T.f_len (by decide +kernel) (pa_cons (pv 0) pa_nil)) (pe_int)) (pe_one (pe_callB (cr_all rfl) rfl T.f_all (by decide +kernel) (pa_cons (pe_lc (own := [("_law_sign", 1)]) (g := (gName 1)) (by rfl) sc_l_is_name.nd (pi_str (pv 0)) (blkOk_by (own := [("_law_sign", 1)]) (N := N_l_is_name) (sc := defScope s_l_is_name) (by decide +kernel)) (fun _ _ _ _ _ => (pg_name (i := 1) sc_l_is_name.nd rfl (by first | exact Or.inl rfl | exact Or.inr rfl))) (fun _ _ _ _ _ => pts_nil) (fun _ _ _ _ _ => pe_cmpR op_inSgn (pv 1) (pe_str) rfl)) pa_nil)))))), pure_l_is_name T h⟩), T.g_l_is_name, F.kp, F.bindsN fun _ _ _ _ _ _ us hl => match us, hl with | [_], _ => rfl⟩
theorem ok_l_due (T : Tx K mg) (c_l_is_name : Cal P w K mg base CX0 1 "_law_is_name" ["_law_word"] (sp_l_is_name K)) : Cal P w K mg base CX0 2 "_law_due" ["_law_line"] (sp_l_due K) := by
  obtain ⟨fd, F⟩ := T.d_l_due
  exact ⟨_, fd, F.ok (CX := CX0) (N := N_l_due) (ps := ["_law_line"]) (k := 1) (sp := sp_l_due K) sc_l_due (fun vs H Q E h => len_l_due h) (fun cdv A outer s H vs Q E hr h => ⟨t_l_due K, PSs.nox (pss_cons (ps_set (i := 1) sc_l_due.nd rfl (by first | exact Or.inl rfl | exact Or.inr rfl) (pe_m1 PySem.F.slot_str_split PySem.F.type_str_split mt_splitS (pv 0) (pe_str)))
    (pss_cons (ps_set (i := 2) sc_l_due.nd rfl (by first | exact Or.inl rfl | exact Or.inr rfl) (pe_lc (own := [("_law_word", 5)]) (g := (gName 5)) (by rfl) sc_l_due.nd (pi_list (pv 1)) (blkOk_by (own := [("_law_word", 5)]) (N := N_l_due) (sc := defScope s_l_due) (by decide +kernel)) (fun _ _ _ _ _ => (pg_name (i := 5) sc_l_due.nd rfl (by first | exact Or.inl rfl | exact Or.inr rfl))) (fun _ _ _ _ _ => pts_one (pt_cmpR op_niSgn (pe_str) (pv 5) rfl)) (fun _ _ _ _ _ => pv 5)))
    (pss_cons (ps_setLc (i := 3) (own := [("_law_word", 5)]) (g := (gName 5)) (by rfl) sc_l_due.nd rfl rfl (sw_true rfl rfl rfl (by decide +kernel)) (pi_list (pv 1)) (blkOk_by (own := [("_law_word", 5)]) (N := N_l_due) (sc := defScope s_l_due) (by decide +kernel)) (fun _ _ _ _ _ => (pg_name (i := 5) sc_l_due.nd rfl (by first | exact Or.inl rfl | exact Or.inr rfl))) (fun _ _ _ _ _ => pts_one (pt_cmpR op_inSgn (pe_str) (pv 5) rfl)) (fun _ _ _ _ _ => pe_m1 PySem.F.slot_str_split PySem.F.type_str_split mt_splitS (pv 5) (pe_str)))
    (pss_cons (ps_if (PW.pt (pw_or (pt_cmpR (op_neA (hu64 hr)) (pv 1) (pe_op op_addA (pv 2) (pe_lc (own := [("_law_row", 6)]) (g := (gName 6)) (by rfl) sc_l_due.nd (pi_list (pv 3)) (blkOk_by (own := [("_law_row", 6)]) (N := N_l_due) (sc := defScope s_l_due) (by decide +kernel)) (fun _ _ _ _ _ => (pg_name (i := 6) sc_l_due.nd rfl (by first | exact Or.inl rfl | exact Or.inr rfl))) (fun _ _ _ _ _ => pts_nil) (fun _ _ _ _ _ => pe_m1 PySem.F.slot_str_join PySem.F.type_str_join mt_joinS (pe_str) (pv 6)))) (nomark _)) (pw_or (pt_not (pt_chain (op_leI) (op_leI) (pe_int) (pe_callB call_lenA rfl T.f_len (by decide +kernel) (pa_cons (pv 2) pa_nil)) (pe_int))) (pw_or1 (pt_not (pt_chain (op_leI) (op_leI) (pe_int) (pe_callB call_lenA rfl T.f_len (by decide +kernel) (pa_cons (pv 3) pa_nil)) (pe_int))))))) (pss_one (ps_ret (pe_non))) (pss_nil))
    (pss_cons (ps_if (PW.pt (pw_or (pt_not (pt_val (pe_callB (cr_all rfl) rfl T.f_all (by decide +kernel) (pa_cons (pe_lc (own := [("_law_host", 7)]) (g := (gName 7)) (by rfl) sc_l_due.nd (pi_list (pv 2)) (blkOk_by (own := [("_law_host", 7)]) (N := N_l_due) (sc := defScope s_l_due) (by decide +kernel)) (fun _ _ _ _ _ => (pg_name (i := 7) sc_l_due.nd rfl (by first | exact Or.inl rfl | exact Or.inr rfl))) (fun _ _ _ _ _ => pts_nil) (fun _ _ _ _ _ => pe_wcall c_l_is_name hr (by decide) (fun σ => passD dead0 σ) (pa_cons (pv 7) pa_nil))) pa_nil)))) (pw_or1 (pt_not (pt_val (pe_callB (cr_all rfl) rfl T.f_all (by decide +kernel) (pa_cons (pe_lc (own := [("_law_row", 6)]) (g := (gName 6)) (by rfl) sc_l_due.nd (pi_list (pv 3)) (blkOk_by (own := [("_law_row", 6)]) (N := N_l_due) (sc := defScope s_l_due) (by decide +kernel)) (fun _ _ _ _ _ => (pg_name (i := 6) sc_l_due.nd rfl (by first | exact Or.inl rfl | exact Or.inr rfl))) (fun _ _ _ _ _ => pts_nil) (fun _ _ _ _ _ => pe_cmpR (op_eqA (hu64 hr)) (pe_callB call_lenA rfl T.f_len (by decide +kernel) (pa_cons (pv 6) pa_nil)) (pe_int) (nomark _))) pa_nil))))))) (pss_one (ps_ret (pe_non))) (pss_nil))
    (pss_cons (ps_set (i := 4) sc_l_due.nd rfl (by first | exact Or.inl rfl | exact Or.inr rfl) (pe_op op_addA (pv 2) (pe_lc (own := [("_law_row", 6)]) (g := (gName 6)) (by rfl) sc_l_due.nd (pi_list (pv 3)) (blkOk_by (own := [("_law_row", 6)]) (N := N_l_due) (sc := defScope s_l_due) (by decide +kernel)) (fun _ _ _ _ _ => (pg_name (i := 6) sc_l_due.nd rfl (by first | exact Or.inl rfl | exact Or.inr rfl))) (fun _ _ _ _ _ => pts_nil) (fun _ _ _ _ _ => pe_ix ix_seq (pv 6) (pe_int) (fun _ _ => rfl)))))
    (pss_cons (ps_if (pt_not (pt_val (pe_callB (cr_all rfl) rfl T.f_all (by decide +kernel) (pa_cons (pe_lc (own := [("_law_name_here", 8)]) (g := (gName 8)) (by rfl) sc_l_due.nd (pi_list (pv 4)) (blkOk_by (own := [("_law_name_here", 8)]) (N := N_l_due) (sc := defScope s_l_due) (by decide +kernel)) (fun _ _ _ _ _ => (pg_name (i := 8) sc_l_due.nd rfl (by first | exact Or.inl rfl | exact Or.inr rfl))) (fun _ _ _ _ _ => pts_nil) (fun _ _ _ _ _ => pe_and (pe_wcall c_l_is_name hr (by decide) (fun σ => passD dead0 σ) (pa_cons (pv 8) pa_nil)) (pe_one (pe_cmpR (op_eqA (hu64 hr)) (pe_bm PySem.F.plainAttrs_list PySem.F.slot_list_count PySem.F.type_list_count mt_countV (pv 4) (pa_cons (pv 8) pa_nil)) (pe_int) (nomark _))))) pa_nil)))) (pss_one (ps_ret (pe_non))) (pss_nil))
    (pss_cons (ps_if (pt_not (pt_val (pe_callB (cr_all rfl) rfl T.f_all (by decide +kernel) (pa_cons (pe_lc (own := [("_law_row", 6)]) (g := (gName 6)) (by rfl) sc_l_due.nd (pi_list (pv 3)) (blkOk_by (own := [("_law_row", 6)]) (N := N_l_due) (sc := defScope s_l_due) (by decide +kernel)) (fun _ _ _ _ _ => (pg_name (i := 6) sc_l_due.nd rfl (by first | exact Or.inl rfl | exact Or.inr rfl))) (fun _ _ _ _ _ => pts_nil) (fun _ _ _ _ _ => pe_cmpR (op_inA) (pe_ix ix_seq (pv 6) (pe_int) (fun _ _ => rfl)) (pv 2) rfl)) pa_nil)))) (pss_one (ps_ret (pe_non))) (pss_nil))
    (pss_one (ps_ret (pe_tup (pa_cons (pv 2) (pa_cons (pe_lc (own := [("_law_row", 6)]) (g := (gName 6)) (by rfl) sc_l_due.nd (pi_list (pv 3)) (blkOk_by (own := [("_law_row", 6)]) (N := N_l_due) (sc := defScope s_l_due) (by decide +kernel)) (fun _ _ _ _ _ => (pg_name (i := 6) sc_l_due.nd rfl (by first | exact Or.inl rfl | exact Or.inr rfl))) (fun _ _ _ _ _ => pts_nil) (fun _ _ _ _ _ => pe_tup (pa_cons (pe_ix ix_seq (pv 6) (pe_int) (fun _ _ => rfl)) (pa_cons (pe_ix ix_seq (pv 6) (pe_int) (fun _ _ => rfl)) pa_nil)))) pa_nil))))))))))))), pure_l_due T h⟩), T.g_l_due, F.kp, F.bindsN fun _ _ _ _ _ _ us hl => match us, hl with | [_], _ => rfl⟩
theorem ok_l_changed (T : Tx K mg) (c_l_digit : Cal P w K mg base CX0 1 "_law_digit" ["_law_pot_here", "_law_many"] (sp_l_digit K)) (c_l_among : Cal P w K mg base CX0 2 "_law_among" ["_law_pot_here", "_law_some"] (sp_l_among K)) : Cal P w K mg base CX0 3 "_law_changed" ["_law_pot_here", "_law_line"] (sp_l_changed K) := by
  obtain ⟨fd, F⟩ := T.d_l_changed
  exact ⟨_, fd, F.ok (CX := CX0) (N := N_l_changed) (ps := ["_law_pot_here", "_law_line"]) (k := 2) (sp := sp_l_changed K) sc_l_changed (fun vs H Q E h => len_l_changed h) (fun cdv A outer s H vs Q E hr h => ⟨t_l_changed K, PSs.nox (pss_cons (ps_set (i := 2) sc_l_changed.nd rfl (by first | exact Or.inl rfl | exact Or.inr rfl) (pe_m1 PySem.F.slot_str_split PySem.F.type_str_split mt_splitS (pv 1) (pe_str)))
    (pss_cons (ps_par (i := 3) (j := 4) (by rfl) sc_l_changed.nd rfl rfl (by decide) rfl rfl (pa_cons (pe_wcall c_l_digit hr (by decide) (fun σ => passD dead0 σ) (pa_cons (pv 0) (pa_cons (pe_callB call_lenA rfl T.f_len (by decide +kernel) (pa_cons (pv 2) pa_nil)) pa_nil))) (pa_cons (pe_wcall c_l_digit hr (by decide) (fun σ => passD dead0 σ) (pa_cons (pv 0) (pa_cons (pe_callB call_lenA rfl T.f_len (by decide +kernel) (pa_cons (pv 2) pa_nil)) pa_nil))) pa_nil)) (by rfl))
    (pss_cons (ps_set (i := 5) sc_l_changed.nd rfl (by first | exact Or.inl rfl | exact Or.inr rfl) (pe_wcall c_l_digit hr (by decide) (fun σ => passD dead0 σ) (pa_cons (pv 0) (pa_cons (pe_int) pa_nil))))
    (pss_cons (ps_if (pt_cmpR (op_eqA (hu64 hr)) (pv 5) (pe_int) (nomark _)) (pss_one (ps_ret (pe_m1 PySem.F.slot_str_join PySem.F.type_str_join mt_joinS (pe_str) (pe_op op_addA (pe_slice sl_A (pv 2) po_none (po_some (pv 3))) (pe_slice sl_A (pv 2) (po_some (pe_op op_addA (pv 3) (pe_int))) po_none))))) (pss_nil))
    (pss_cons (ps_if (pt_cmpR (op_eqA (hu64 hr)) (pv 5) (pe_int) (nomark _)) (pss_one (ps_ret (pe_m1 PySem.F.slot_str_join PySem.F.type_str_join mt_joinS (pe_str) (pe_op op_addA (pe_op op_addA (pe_slice sl_A (pv 2) po_none (po_some (pv 3))) (pe_lst (pa_cons (pe_ix ix_seq (pv 2) (pv 4) (fun _ _ => rfl)) pa_nil))) (pe_slice sl_A (pv 2) (po_some (pv 3)) po_none))))) (pss_nil))
    (pss_cons (ps_if (pt_cmpR (op_eqA (hu64 hr)) (pv 5) (pe_int) (nomark _)) (pss_cons (ps_asg (pe_tup (pa_cons (pe_ix ix_seq (pv 2) (pv 4) (fun _ _ => rfl)) (pa_cons (pe_ix ix_seq (pv 2) (pv 3) (fun _ _ => rfl)) pa_nil))) (pg_tup rfl (pgs_cons (pg_sub (pv 2) (pv 3) set_list) (pgs_cons (pg_sub (pv 2) (pv 4) set_list) pgs_nil))))
    (pss_one (ps_ret (pe_m1 PySem.F.slot_str_join PySem.F.type_str_join mt_joinS (pe_str) (pv 2))))) (pss_nil))
    (pss_cons (ps_if (pt_cmpR (op_eqA (hu64 hr)) (pv 5) (pe_int) (nomark _)) (pss_cons (ps_asg (pe_wcall c_l_among hr (by decide) (fun σ => passD dead0 σ) (pa_cons (pv 0) (pa_cons (pe_lst (pa_cons (pe_str) (pa_cons (pe_str) (pa_cons (pe_str) (pa_cons (pe_str) (pa_cons (pe_str) (pa_cons (pe_str) (pa_cons (pe_str) (pa_cons (pe_str) (pa_cons (pe_str) (pa_cons (pe_op op_addA (pe_str) (pe_ix ix_seq (pv 2) (pe_int) (fun _ _ => rfl))) (pa_cons (pe_str) pa_nil)))))))))))) pa_nil))) (pg_sub (pv 2) (pv 3) set_list))
    (pss_one (ps_ret (pe_m1 PySem.F.slot_str_join PySem.F.type_str_join mt_joinS (pe_str) (pv 2))))) (pss_nil))
    (pss_cons (ps_set (i := 6) sc_l_changed.nd rfl (by first | exact Or.inl rfl | exact Or.inr rfl) (pe_wcall c_l_digit hr (by decide) (fun σ => passD dead0 σ) (pa_cons (pv 0) (pa_cons (pe_op op_addA (pe_callB call_lenA rfl T.f_len (by decide +kernel) (pa_cons (pv 1) pa_nil)) (pe_int)) pa_nil))))
    (pss_cons (ps_if (pt_cmpR (op_ltI) (pv 5) (pe_int) (nomark _)) (pss_one (ps_ret (pe_op op_addA (pe_op op_addA (pe_slice sl_A (pv 1) po_none (po_some (pv 6))) (pe_ix ix_seq (pe_str) (pe_wcall c_l_digit hr (by decide) (fun σ => passD dead0 σ) (pa_cons (pv 0) (pa_cons (pe_int) pa_nil))) (fun _ _ => rfl))) (pe_slice sl_A (pv 1) (po_some (pv 6)) po_none)))) (pss_nil))
    (pss_one (ps_ret (pe_op op_addA (pe_slice sl_A (pv 1) po_none (po_some (pv 6))) (pe_slice sl_A (pv 1) (po_some (pe_op op_addA (pv 6) (pe_int))) po_none))))))))))))), pure_l_changed T h⟩), T.g_l_changed, F.kp, F.bindsN fun _ _ _ _ _ _ us hl => match us, hl with | [_, _], _ => rfl⟩
theorem ok_l_told (T : Tx K mg) (c_read_map : Cal P w K mg base (L2.CX P w) 7 "read_map" ["text"] (sp_read_map K)) : Cal P w K mg base CX0 8 "_law_told" ["_law_line"] (sp_l_told K) := by
  obtain ⟨fd, F⟩ := T.d_l_told
  exact ⟨_, fd, F.ok (CX := CX0) (N := N_l_told) (ps := ["_law_line"]) (k := 7) (sp := sp_l_told K) sc_l_told (fun vs H Q E h => len_l_told h) (fun cdv A outer s H vs Q E hr h => ⟨t_l_told K, PSs.nox (pss_cons (ps_set (i := 1) sc_l_told.nd rfl (by first | exact Or.inl rfl | exact Or.inr rfl) (pe_non))
    (pss_cons (ps_try_as (i := 2) (tb := fun W => tAsg (tTup (tCons (tC (.str "map")) (tCons (tCallS (sp_read_map K) (WE W) (tCons (tVar 0) tNil)) tNil))) (gName 1)) (ts := fun a cls d => tAsg (tTup (tCons (tC (.str "wrong")) (tCons (tXf a cls d (He.ga K "NoText") "row" (tVar 2)) (tCons (tAndV (tCB (rIsEd K (He.ga K "NoText") a cls d) (tCons (tVar 2) (tCons (tC (.ref (He.ga K "WalkError"))) tNil))) (tNotV (tCB (rIsEd K (He.ga K "NoText") a cls d) (tCons (tVar 2) (tCons (tC (.ref (He.ga K "NoMap"))) tNil))))) tNil)))) (gName 1)) (Wout := (fun _ _ _ _ => False)) rfl rfl sc_l_told.nd rfl rfl ⟨rfl, by decide, Or.inl T.g_NoText⟩ takes0 (fun W pn xe tkW hpas => pss_one (ps_set (i := 1) sc_l_told.nd rfl (by first | exact Or.inl rfl | exact Or.inr rfl) (pe_tup (pa_cons (pe_str) (pa_cons (pe_wcall c_read_map hr (by decide) (fun σ => passAt tkW σ) (pa_cons (pv 0) pa_nil)) pa_nil))))) (fun a oe cls d pn hz hf => pss_one (ps_set (i := 1) sc_l_told.nd rfl (by first | exact Or.inl rfl | exact Or.inr rfl) (pe_tup (pa_cons (pe_str) (pa_cons (pe_xf T.x_NoText.2.1 T.n_NoText_row hz hf (pv 2)) (pa_cons (pe_and (pe_callB (call_isEd (excD T.x_NoText T.y_obj) hz hf) rfl T.f_isinstance (by decide +kernel) (pa_cons (pv 2) (pa_cons (pe_glob rfl T.g_WalkError rfl) pa_nil))) (pe_one (pe_not (pe_callB (call_isEd (excD T.x_NoText T.y_obj) hz hf) rfl T.f_isinstance (by decide +kernel) (pa_cons (pv 2) (pa_cons (pe_glob rfl T.g_NoMap rfl) pa_nil)))))) pa_nil)))))))
    (pss_one (ps_ret (pv 1))))), pure_l_told T h⟩), T.g_l_told, F.kp, F.bindsN fun _ _ _ _ _ _ us hl => match us, hl with | [_], _ => rfl⟩
theorem ok_l_right (T : Tx K mg) (c_l_told : Cal P w K mg base CX0 8 "_law_told" ["_law_line"] (sp_l_told K)) (c_l_due : Cal P w K mg base CX0 2 "_law_due" ["_law_line"] (sp_l_due K)) (c_Map_init : Mak P w K mg base (L2N.CX P w) 5 "Map" (He.ga K "Map") ["self", "hosts", "walkers"] (sp_Map_init K)) (c_Map_eq : Met P w K mg base CX0 1 (He.ga K "Map") "__eq__" ["self", "other"] (sp_Map_eq K)) (c_map_text : Cal P w K mg base CX0 5 "map_text" ["grounds"] (sp_map_text K)) : Cal P w K mg base CX0 9 "_law_right" ["_law_line"] (sp_l_right K) := by
  obtain ⟨fd, F⟩ := T.d_l_right
  exact ⟨_, fd, F.ok (CX := CX0) (N := N_l_right) (ps := ["_law_line"]) (k := 8) (sp := sp_l_right K) sc_l_right (fun vs H Q E h => len_l_right h) (fun cdv A outer s H vs Q E hr h => ⟨t_l_right K, PSs.nox (pss_cons (ps_par (i := 1) (j := 2) (by rfl) sc_l_right.nd rfl rfl (by decide) rfl rfl (pa_cons (pe_wcall c_l_due hr (by decide) (fun σ => passD dead0 σ) (pa_cons (pv 0) pa_nil)) (pa_cons (pe_wcall c_l_told hr (by decide) (fun σ => passD dead0 σ) (pa_cons (pv 0) pa_nil)) pa_nil)) (by rfl))
    (pss_cons (ps_if (pt_cmpR (op_isNn) (pv 1) (pe_non) (nomark _)) (pss_one (ps_ret (pe_cmpR (op_eqA (hu64 hr)) (pv 2) (pe_tup (pa_cons (pe_str) (pa_cons (pe_int) (pa_cons (pe_bl) pa_nil)))) (nomark _)))) (pss_nil))
    (pss_one (ps_ret (pe_and (pe_cmpR (op_eqA (hu64 hr)) (pe_ix ix_seq (pv 2) (pe_int) (fun _ _ => rfl)) (pe_str) (nomark _)) (pe_and (pe_cmpR (op_eqOwn c_Map_eq hr (by decide)) (pe_ix ix_seq (pv 2) (pe_int) (fun _ _ => rfl)) (pe_wmake c_Map_init hr (by decide) (fun σ => passD deadN σ) (pa_cons (pe_ix ix_seq (pv 1) (pe_int) (fun _ _ => rfl)) (pa_cons (pe_ix ix_seq (pv 1) (pe_int) (fun _ _ => rfl)) pa_nil))) (nomark _)) (pe_one (pe_cmpR (op_eqA (hu64 hr)) (pe_wcall c_map_text hr (by decide) (fun σ => passD dead0 σ) (pa_cons (pe_ix ix_seq (pv 2) (pe_int) (fun _ _ => rfl)) pa_nil)) (pv 0) (nomark _))))))))), pure_l_right T h⟩), T.g_l_right, F.kp, F.bindsN fun _ _ _ _ _ _ us hl => match us, hl with | [_], _ => rfl⟩
theorem okF_law {fd : FuncData} (T : Tx K mg) (F : FunD K "law" "law" (defArgs s_law) (defBody s_law) (defScope s_law) [] [] (He.fAd K ("law", none)) fd) (c_l_pot : Cal P w K mg base CX0 1 "_law_pot" ["_law_script", "_law_k"] (sp_l_pot K)) (c_l_rows : Cal P w K mg base CX0 4 "_law_rows" ["_law_pot_here"] (sp_l_rows K)) (c_map_text : Cal P w K mg base CX0 5 "map_text" ["grounds"] (sp_map_text K)) (c_Map_init : Mak P w K mg base (L2N.CX P w) 5 "Map" (He.ga K "Map") ["self", "hosts", "walkers"] (sp_Map_init K)) (c_read_map : Cal P w K mg base (L2.CX P w) 7 "read_map" ["text"] (sp_read_map K)) (c_Map_eq : Met P w K mg base CX0 1 (He.ga K "Map") "__eq__" ["self", "other"] (sp_Map_eq K)) (c_l_digit : Cal P w K mg base CX0 1 "_law_digit" ["_law_pot_here", "_law_many"] (sp_l_digit K)) (c_l_changed : Cal P w K mg base CX0 3 "_law_changed" ["_law_pot_here", "_law_line"] (sp_l_changed K)) (c_l_right : Cal P w K mg base CX0 9 "_law_right" ["_law_line"] (sp_l_right K)) (c_l_told : Cal P w K mg base CX0 8 "_law_told" ["_law_line"] (sp_l_told K)) (c_l_among : Cal P w K mg base CX0 2 "_law_among" ["_law_pot_here", "_law_some"] (sp_l_among K)) (k_map_text : CalK P w K mg base CX0 5 "map_text" ["grounds"] (sp_map_text K)) (k_read_map : CalK P w K mg base (L2.CX P w) 7 "read_map" ["text"] (sp_read_map K)) : FnOk P w K mg base CX0 10 (He.ga K "law") fd ["_law_script"] (sp_law K) :=
  F.ok (CX := CX0) (N := N_law) (ps := ["_law_script"]) (k := 9) (sp := sp_law K) sc_law (fun vs H Q E h => len_law h) (fun cdv A outer s H vs Q E hr h => ⟨t_law K, PSs.nox (pss_cons (ps_for PassesOwn.never rfl (pi_range1 rfl T.f_range (pa_cons (pe_callB (call_max2I rfl) rfl T.f_max (by decide +kernel) (pa_cons (pe_int) (pa_cons (pe_callB (call_min2I rfl) rfl T.f_min (by decide +kernel) (pa_cons (pe_int) (pa_cons (pe_callB call_lenA rfl T.f_len (by decide +kernel) (pa_cons (pv 0) pa_nil)) pa_nil))) pa_nil))) pa_nil)) (pg_name (i := 1) sc_law.nd rfl (by first | exact Or.inl rfl | exact Or.inr rfl)) (pss_cons (ps_set (i := 2) sc_law.nd rfl (by first | exact Or.inl rfl | exact Or.inr rfl) (pe_wcall c_l_pot hr (by decide) (fun σ => passD dead0 σ) (pa_cons (pv 0) (pa_cons (pv 1) pa_nil))))
    (pss_cons (ps_for PassesOwn.never rfl (pi_range1 rfl T.f_range (pa_cons (pe_int) pa_nil)) (pg_name (i := 3) sc_law.nd rfl (by first | exact Or.inl rfl | exact Or.inr rfl)) (pss_cons (ps_asg (pe_wcall c_l_rows hr (by decide) (fun σ => passD dead0 σ) (pa_cons (pv 2) pa_nil)) (pg_tup rfl (pgs_cons (pg_name (i := 4) sc_law.nd rfl (by first | exact Or.inl rfl | exact Or.inr rfl)) (pgs_cons (pg_name (i := 5) sc_law.nd rfl (by first | exact Or.inl rfl | exact Or.inr rfl)) pgs_nil))))
    (pss_cons (ps_set (i := 6) sc_law.nd rfl (by first | exact Or.inl rfl | exact Or.inr rfl) (pe_wcallK (ks := ["grounds"]) k_map_text hr (by decide) (fun σ => passD dead0 σ) (pk_cons (pe_wmake c_Map_init hr (by decide) (fun σ => passD deadN σ) (pa_cons (pv 4) (pa_cons (pv 5) pa_nil))) pk_nil)))
    (pss_cons (ps_if (pt_cmpR (op_neA (hu64 hr)) (pv 6) (pe_m1 PySem.F.slot_str_join PySem.F.type_str_join mt_joinS (pe_str) (pe_op op_addA (pv 4) (pe_lc (own := [("_law_name_here", 8), ("_law_home", 9)]) (g := (gTup K 2 (gCons (gName 8) (gCons (gName 9) gNil)))) (by rfl) sc_law.nd (pi_list (pv 5)) (blkOk_by (own := [("_law_name_here", 8), ("_law_home", 9)]) (N := N_law) (sc := defScope s_law) (by decide +kernel)) (fun _ _ _ _ _ => (pg_tup rfl (pgs_cons (pg_name (i := 8) sc_law.nd rfl (by first | exact Or.inl rfl | exact Or.inr rfl)) (pgs_cons (pg_name (i := 9) sc_law.nd rfl (by first | exact Or.inl rfl | exact Or.inr rfl)) pgs_nil)))) (fun _ _ _ _ _ => pts_nil) (fun _ _ _ _ _ => pe_op op_addA (pe_op op_addA (pv 8) (pe_str)) (pv 9))))) (nomark _)) (pss_one (ps_ret (pe_bl))) (pss_nil))
    (pss_cons (ps_if (pt_not (pt_cmpR (op_eqOwn c_Map_eq hr (by decide)) (pe_wcallK (ks := ["text"]) k_read_map hr (by decide) (fun σ => passD deadX σ) (pk_cons (pv 6) pk_nil)) (pe_wmake c_Map_init hr (by decide) (fun σ => passD deadN σ) (pa_cons (pv 4) (pa_cons (pv 5) pa_nil))) (nomark _))) (pss_one (ps_ret (pe_bl))) (pss_nil))
    (pss_cons (ps_for PassesOwn.never rfl (pi_range1 rfl T.f_range (pa_cons (pe_wcall c_l_digit hr (by decide) (fun σ => passD dead0 σ) (pa_cons (pv 2) (pa_cons (pe_int) pa_nil))) pa_nil)) (pg_name (i := 7) sc_law.nd rfl (by first | exact Or.inl rfl | exact Or.inr rfl)) (pss_one (ps_set (i := 6) sc_law.nd rfl (by first | exact Or.inl rfl | exact Or.inr rfl) (pe_wcall c_l_changed hr (by decide) (fun σ => passD dead0 σ) (pa_cons (pv 2) (pa_cons (pv 6) pa_nil))))))
    (pss_one (ps_if (pt_not (pt_val (pe_wcall c_l_right hr (by decide) (fun σ => passD dead0 σ) (pa_cons (pv 6) pa_nil)))) (pss_one (ps_ret (pe_bl))) (pss_nil)))))))))
    (pss_one (ps_if (pt_cmpR (op_neA (hu64 hr)) (pe_wcall c_l_told hr (by decide) (fun σ => passD dead0 σ) (pa_cons (pe_wcall c_l_among hr (by decide) (fun σ => passD dead0 σ) (pa_cons (pv 2) (pa_cons (pe_lst (pa_cons (pe_non) (pa_cons (pe_int) (pa_cons (pe_lst (pa_cons (pe_str) pa_nil)) (pa_cons (pe_tup (pa_cons (pe_str) (pa_cons (pe_str) pa_nil))) (pa_cons (pe_dnewK) (pa_cons (pe_bl) pa_nil))))))) pa_nil))) pa_nil)) (pe_tup (pa_cons (pe_str) (pa_cons (pe_int) (pa_cons (pe_bl) pa_nil)))) (nomark _)) (pss_one (ps_ret (pe_bl))) (pss_nil))))))
    (pss_one (ps_ret (pe_bl)))), pure_law T h⟩)
theorem chain_law {fd : FuncData} (T : Tx K mg) (F : FunD K "law" "law" (defArgs s_law) (defBody s_law) (defScope s_law) [] [] (He.fAd K ("law", none)) fd) : FnOk P w K mg base CX0 10 (He.ga K "law") fd ["_law_script"] (sp_law K) := by
  have x_NoMap_init := ok_NoMap_init (P := P) (w := w) (base := base) T
  have x_NoText_init := ok_NoText_init (P := P) (w := w) (base := base) T
  have xh_NoText_init := okH_NoText_init (P := P) (w := w) (base := base) T
  have c_is_made_of := ok_is_made_of (P := P) (w := w) (base := base) T
  have c_is_name := ok_is_name (P := P) (w := w) (base := base) T c_is_made_of
  have c_want := ok_want (P := P) (w := w) (base := base) T x_NoMap_init
  have c_want_hosts := ok_want_hosts (P := P) (w := w) (base := base) T c_want c_is_name
  have c_want_walkers := ok_want_walkers (P := P) (w := w) (base := base) T c_want c_is_name
  have c_Map_init := ok_Map_init (P := P) (w := w) (base := base) T c_want_hosts c_want_walkers
  have c_Map_hosts := ok_Map_hosts (P := P) (w := w) (base := base) T
  have c_Map_walkers := ok_Map_walkers (P := P) (w := w) (base := base) T
  have c_Map_has_walker := ok_Map_has_walker (P := P) (w := w) (base := base) T c_Map_walkers
  have c_Map_want_walker := ok_Map_want_walker (P := P) (w := w) (base := base) T c_Map_has_walker
  have c_Map_home := ok_Map_home (P := P) (w := w) (base := base) T c_Map_want_walker
  have c_Map_eq := ok_Map_eq (P := P) (w := w) (base := base) T
  have c_map_text := ok_map_text (P := P) (w := w) (base := base) T c_Map_walkers c_Map_home c_Map_hosts
  have k_map_text := okK_map_text (P := P) (w := w) (base := base) T c_Map_walkers c_Map_home c_Map_hosts
  have c_read_map := ok_read_map (P := P) (w := w) (base := base) T c_Map_init c_map_text x_NoText_init xh_NoText_init
  have k_read_map := okK_read_map (P := P) (w := w) (base := base) T c_Map_init c_map_text x_NoText_init xh_NoText_init
  have c_l_pot := ok_l_pot (P := P) (w := w) (base := base) T
  have c_l_digit := ok_l_digit (P := P) (w := w) (base := base) T
  have c_l_name := ok_l_name (P := P) (w := w) (base := base) T c_l_digit
  have c_l_names := ok_l_names (P := P) (w := w) (base := base) T c_l_name
  have c_l_rows := ok_l_rows (P := P) (w := w) (base := base) T c_l_names c_l_digit
  have c_l_among := ok_l_among (P := P) (w := w) (base := base) T c_l_digit
  have c_l_is_name := ok_l_is_name (P := P) (w := w) (base := base) T
  have c_l_due := ok_l_due (P := P) (w := w) (base := base) T c_l_is_name
  have c_l_changed := ok_l_changed (P := P) (w := w) (base := base) T c_l_digit c_l_among
  have c_l_told := ok_l_told (P := P) (w := w) (base := base) T c_read_map
  have c_l_right := ok_l_right (P := P) (w := w) (base := base) T c_l_told c_l_due c_Map_init c_Map_eq c_map_text
  exact okF_law T F c_l_pot c_l_rows c_map_text c_Map_init c_read_map c_Map_eq c_l_digit c_l_changed c_l_right c_l_told c_l_among k_map_text k_read_map
end
end W93
namespace W93
open PySem PySem.Spec PyProof.Rows L2 LiI WB
abbrev R : PySem.W.OpenRow := PySem.W.OpenLaw.row PySem.Challenge.rw_walkbox_k93_whole_map_texts
abbrev hk : PySem.W.Hook := hookW 6 fb fn
def ob (s : PySem.W.SharedT) : AlW := obsWG 6 fb fn (HandSHeadRun.getT s)
theorem ob_eq (s : PySem.W.SharedT) : ob s = hk.obs s.abs := obsWG_eq (HandSHeadRun.getT_eq s)
def nms : List PySem.Str := ["_wall", "WalkError", "NoMap", "NoText", "NoSuch", "LETTERS", "MOST_LETTERS", "LEAST_HOSTS", "MOST_HOSTS", "MOST_WALKERS", "is_made_of", "is_name", "want", "want_hosts", "want_walkers", "Map", "map_text", "read_map", "_law_pot", "_law_digit", "_law_name", "_law_names", "_law_rows", "_law_among", "_law_is_name", "_law_due", "_law_changed", "_law_told", "_law_right"]
theorem run (w : World) : HandSHeadRun.RunEq R (PySem.W.view R.prog [33]) hk ob 4000 nms w := by
  intro os
  kernel_rfl
theorem facts {P : Program} {w : World} {K : PySem.W.Frag} {h : Heap} {mg : Str → Option Value} {f : Addr} (X : K.In h) (G : h.Ns mainGlobals mg) (hfa : mg ("law" : Str) = some (.ref f)) (c : SaysW fb fn K) :
    ∃ fd : FuncData, (∀ (s : Shared) (v : Value), BindsTo s fd ⟨[v], []⟩ [("_law_script", v)]) ∧ ∀ base : Heap, K.In base → base.Ns mainGlobals mg → FnOk P w K mg base CX0 10 f fd ["_law_script"] (sp_law K) := by
  have T := tx_of X G c
  obtain ⟨fd, F⟩ := T.d_law
  have e := hfa.symm.trans T.g_law
  cases e
  have b := FunD.bindsA (ps := ["_law_script"]) F fun _ _ _ _ _ _ us hl => match us, hl with | [_], _ => rfl
  exact ⟨fd, fun s v => b s [v] rfl, fun base _ _ => chain_law T F⟩
end W93
open PySem PySem.W PySem.Calls PyProof.Rows
theorem PySem.Challenge.cw_walkbox_k93_whole_map_texts_holds : PySem.Challenge.rw_walkbox_k93_whole_map_texts.Holds := by
  w_on; o_law
  refine HandSHeadRun.head_any (r := OpenLaw.row PySem.Challenge.rw_walkbox_k93_whole_map_texts) (q := view (OpenLaw.row PySem.Challenge.rw_walkbox_k93_whole_map_texts).prog [33]) (H := W93.hk) (ob := W93.ob) (M := 4000) (loose := W93.nms) (d := HandSHeadRun.topDef (OpenLaw.row PySem.Challenge.rw_walkbox_k93_whole_map_texts).prog 33) (kwd := []) W93.ob_eq
    (by kernel_rfl) (fun s => by kernel_rfl) W93.run (by kernel_rfl) (by kernel_rfl) (by kernel_rfl) (by rfl) (by first | assumption | decide +kernel) (by decide +kernel) ⟨rfl, rfl, rfl, rfl, rfl, by decide +kernel⟩ ?hw ?hc
  case hw => w_witness2
  case hc =>
    refine L2.walk_ofE (l := PySem.Challenge.rw_walkbox_k93_whole_map_texts) (n := 63) (k := 10) (x := "_law_script") (CX := L2.CX0) rfl (by decide) (by kernel_rfl) ⟨rfl, by decide, by decide⟩ ?F (fun _ _ _ _ z => z)
    intro w mg fa h Y G hmg0
    obtain ⟨K, KX, c⟩ := Y
    have hmg : mg ("law" : PySem.Str) = some (.ref fa) := by
      have e : (HandSHeadRun.topDef (OpenLaw.row PySem.Challenge.rw_walkbox_k93_whole_map_texts).prog 33).name = ("law" : PySem.Str) := by kernel_rfl
      rw [← e]
      exact hmg0
    obtain ⟨fd, hb, hF⟩ := W93.facts (P := (PySem.Challenge.rw_walkbox_k93_whole_map_texts).prog) (w := w) KX G hmg c
    exact ⟨K, fd, W93.sp_law K, KX, hb, fun H a ns hl _ hS => ⟨a, ns, rfl, hS, hl, fun _ => rfl⟩, hF⟩
