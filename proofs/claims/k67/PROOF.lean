import PyProof.Rows.All
import Wide.All
import OpenK.AllK
import Wide.FinOn
import KE.KStateDown
import HandS.ForMost
import HandS.Defaults
import HandS.Exc
import HandS.Property
import HandS.EndBits
import HandS.Head0
import HandS.Head1
import HandS.Head2
import HandS.HeadEnd
import HandS.HeadHook1
import HandS.HeadHook2
import KE.KOpsOwn
import PyProof.InstEq
import PyProof.StrOps2
import KE.KTupSum
import KE.KCallOwn
import KE.KStar
import HandS.Gcd
import HandS.Codes
import HandS.FStr
import HandS.RaiseMore
import HandS.ClsMeth
import HandS.Star
import HandS.OwnEq
import HandS.SlotsOwn
import HandS.Wide
import HandS.WideBits
import HandS.TupAny
import HandS.TupMul
import HandS.Conv
import HandS.Flow
import HandS.Zip
import HandS.WordsExc
import KE.GoesMore
import KE.GoesEnum
import HandS.IsInst
import HandS.JoinGen
import HandS.Evl
import HandS.Walk
import PySem.Challenge.RW_headpasses_k67_tables_joined_and_turned
set_option Elab.async false
set_option linter.all false
set_option maxRecDepth 100000
set_option maxHeartbeats 0
/-! The head's facts: any checks of the written part, each def with the path to it. -/
namespace HP
open PySem PySem.Spec PyProof.Rows L2
/-! ### paths -/
/-- a built-in record's first field (the getter of a property, the def under a staticmethod or a classmethod) -/
def recA (K : PySem.W.Frag) (p : Addr) (kind : String) : Addr :=
  match PySem.W.recIn K p kind with
  | some (.ref g :: _) => g
  | _ => 0
abbrev gA (x : Str) (K : PySem.W.Frag) : Addr := He.ga K x
abbrev mA (C m : Str) (K : PySem.W.Frag) : Addr := He.ma K (He.ga K C) m
abbrev rA (C m : Str) (kind : String) (K : PySem.W.Frag) : Addr := recA K (mA C m K) kind
/-- one def of the text -/
structure Df where
  ad : PySem.W.Frag → Addr
  nm : Str
  ql : Str
  st : Stmt
  dv : List V := []
def Df.want (d : Df) : He.FnW := some (d.nm, d.ql, defArgs d.st, .stmts (defBody d.st), defScope d.st, mainGlobals, [], builtinsNs)
def fnAt (K : PySem.W.Frag) (a : Addr) : He.FnW :=
  match K.lookup a with
  | some o => (match o.data with
    | .func fd => some (fd.name, fd.qualname, fd.params, fd.body, fd.scope, fd.globals, fd.closure, fd.builtins)
    | _ => none)
  | _ => none
def Df.okB (K : PySem.W.Frag) (d : Df) : Bool :=
  PySem.W.keepIn K (.ref (d.ad K)) && (match K.lookup (d.ad K) with
    | some o => (match o.data with
      | .func fd => PySem.W.codeIn K fd.code d.ql && He.dflB K fd.defaults d.dv
      | _ => false)
    | _ => false)
theorem Df.fun_ {K : PySem.W.Frag} {d : Df} (e : fnAt K (d.ad K) = d.want) (c : d.okB K = true) :
    ∃ fd, FunD K d.nm d.ql (defArgs d.st) (defBody d.st) (defScope d.st) d.dv [] (d.ad K) fd := by
  obtain ⟨kp, c2⟩ := He.ba c
  unfold fnAt at e
  cases q : K.lookup (d.ad K) with
  | none =>
    rw [q] at c2
    cases c2
  | some o =>
    obtain ⟨oc, od, dt, osl⟩ := o
    rw [q] at c2 e
    cases dt with
    | func fd =>
      obtain ⟨n1, n2, n3, n4, n5, n6, n7, n8, n9, n10, n11, n12, n13, n14, n15⟩ := fd
      have e2 : (some (n1, n2, n3, n4, n5, n6, n7, n15) : He.FnW) = some (d.nm, d.ql, defArgs d.st, .stmts (defBody d.st), defScope d.st, mainGlobals, [], builtinsNs) := e
      simp only [Option.some.injEq, Prod.mk.injEq] at e2
      obtain ⟨h1, h2, h3, h4, h5, h6, h7, h8⟩ := e2
      subst h1 h2 h3 h4 h5 h6 h7 h8
      obtain ⟨k1, k2⟩ := He.ba (show (PySem.W.codeIn K n13 d.ql && He.dflB K n8 d.dv) = true from c2)
      exact ⟨_, ⟨oc, od, n8, n9, n10, n11, n12, n13, n14, osl, rfl, q, k1, He.dflB_ok k2, .inl rfl⟩, kp⟩
    | _ => cases c2
/-! ### the hook -/
abbrev Ob : Type := Bool × List He.FnW
def obK (fa : List (PySem.W.Frag → Bool)) (fn : List Df) (K : PySem.W.Frag) : Ob :=
  ((fa.all fun f => f K) && fn.all fun d => d.okB K, fn.map fun d => fnAt K (d.ad K))
def obV (fn : List Df) : Ob := (true, fn.map Df.want)
def Says (fa : List (PySem.W.Frag → Bool)) (fn : List Df) (K : PySem.W.Frag) : Prop := obK fa fn K = obV fn
def obG (n : Nat) (fa : List (PySem.W.Frag → Bool)) (fn : List Df) (g : Addr → Option Obj) : Ob := obK fa fn (He.frG g (cStatics :: He.asD g n))
def hook (n : Nat) (fa : List (PySem.W.Frag → Bool)) (fn : List Df) : PySem.W.Hook where
  α := Ob
  obs := fun s => obG n fa fn s.heap.get?
  val := fun _ => obV fn
  says := fun _ h => ∃ K : PySem.W.Frag, K.In h ∧ Says fa fn K
  of := fun _ _ e => ⟨_, He.frG_in, e⟩
  keeps := fun _ _ _ ⟨K, hK, c⟩ k => ⟨K, PySem.W.Frag.In.keeps hK k, c⟩
def obT (n : Nat) (fa : List (PySem.W.Frag → Bool)) (fn : List Df) (s : PySem.W.SharedT) : Ob := obG n fa fn (HandSHeadRun.getT s)
theorem obT_eq (n : Nat) (fa : List (PySem.W.Frag → Bool)) (fn : List Df) (s : PySem.W.SharedT) : obT n fa fn s = (hook n fa fn).obs s.abs := by
  have e : HandSHeadRun.getT s = s.abs.heap.get? := funext (HandSHeadRun.getT_eq s)
  unfold obT
  rw [e] <;> rfl
section
variable {fa : List (PySem.W.Frag → Bool)} {fn : List Df} {K : PySem.W.Frag}
theorem Says.fact (c : Says fa fn K) (i : Nat) {f : PySem.W.Frag → Bool} (h : fa[i]? = some f := by rfl) : f K = true := by
  have z : ((fa.all fun f => f K) && fn.all fun d => d.okB K) = true := congrArg (fun z : Ob => z.1) c
  exact List.all_eq_true.mp (He.ba z).1 f (List.mem_of_getElem? h)
theorem Says.def_ (c : Says fa fn K) (i : Nat) {d : Df} (h : fn[i]? = some d := by rfl) : ∃ fd, FunD K d.nm d.ql (defArgs d.st) (defBody d.st) (defScope d.st) d.dv [] (d.ad K) fd := by
  have z : ((fa.all fun f => f K) && fn.all fun d => d.okB K) = true := congrArg (fun z : Ob => z.1) c
  have e : fn.map (fun d => fnAt K (d.ad K)) = fn.map Df.want := congrArg (fun z : Ob => z.2) c
  have e2 : (fn.map fun d => fnAt K (d.ad K))[i]? = (fn.map Df.want)[i]? := by rw [e]
  rw [List.getElem?_map, List.getElem?_map, h] at e2
  exact Df.fun_ (Option.some.inj e2) (List.all_eq_true.mp (He.ba z).2 d (List.mem_of_getElem? h))
end
/-! ### checks -/
def kGlo (x : Str) (K : PySem.W.Frag) : Bool := He.eqO (PySem.W.nsIn K mainGlobals x) (some (some (.ref (gA x K))))
def kFree (x : Str) (K : PySem.W.Frag) : Bool := He.eqO (PySem.W.nsIn K mainGlobals x) (some none)
def kInt (x : Str) (i : Int) (K : PySem.W.Frag) : Bool := (He.Fa.int x i).ok K
def kCls (x : Str) (K : PySem.W.Frag) : Bool := (He.Fa.cls x).ok K
def kNoat (x f : Str) (K : PySem.W.Frag) : Bool := (He.Fa.noat x f).ok K
def kMeth (x m : Str) (K : PySem.W.Frag) : Bool := (He.Fa.meth x m).ok K
def kMkr (x : Str) (K : PySem.W.Frag) : Bool := (He.Fa.mkr x).ok K
def kFnIn (p : PySem.W.Frag → Addr) (K : PySem.W.Frag) : Bool := PySem.W.fnIn K (p K)
def kIsCls (x : Str) (K : PySem.W.Frag) : Bool := PySem.W.isClsIn K (gA x K)
def kSelfF (x : Str) (K : PySem.W.Frag) : Bool := PySem.W.selfFirst K (gA x K)
def kNoSeq (x : Str) (K : PySem.W.Frag) : Bool := PySem.W.noSeq K (gA x K)
/-- a property of a class: its record, its getter -/
def kProp (x m : Str) (K : PySem.W.Frag) : Bool :=
  He.eqO (PySem.W.findIn K (.ref (gA x K)) m) (some (some (.ref (mA x m K)))) &&
  (He.eqO (PySem.W.specialIn K (.ref (mA x m K)) "__get__") (some (some (.builtin "property.__get__"))) &&
  (decide (PySem.W.takesIn K (.ref (mA x m K)) = some true) &&
  (match PySem.W.recIn K (mA x m K) "property" with
    | some (.ref _ :: _) => true
    | _ => false)))
theorem kProp_ok {x m : Str} {K : PySem.W.Frag} (c : kProp x m K = true) : PropOf K (gA x K) m (mA x m K) (rA x m "property" K) := by
  obtain ⟨c1, c⟩ := He.ba c
  obtain ⟨c2, c⟩ := He.ba c
  obtain ⟨c3, c4⟩ := He.ba c
  refine ⟨He.eqO_ok c1, He.eqO_ok c2, of_decide_eq_true c3, ?_⟩
  cases q : PySem.W.recIn K (mA x m K) "property" with
  | none =>
    rw [q] at c4
    cases c4
  | some l =>
    rw [q] at c4
    cases l with
    | nil => cases c4
    | cons v r =>
      cases v with
      | ref g =>
        refine ⟨r, ?_⟩
        have e : rA x m "property" K = g := by
          show recA K (mA x m K) "property" = g
          unfold recA
          rw [q]
        rw [e]
      | _ => cases c4
/-! ### the end -/
theorem walk_end {l : PySem.W.OpenLaw} {n k : Nat} {q : Program} {loose : List Str} {XP : (Str → Option Value) → Heap → Prop} {YP : World → Heap → Prop} {d : DefRec} {x : Str} {CX : World → CXT}
    (hn : l.most = some n) (hn2 : n ≤ sizeLine) (hdf : d.params.defaults = []) (hr : Room k callerA)
    (F : ∀ (w : World) (mg : Str → Option Value) (fa : Addr) (h : Heap), YP w h → h.Ns mainGlobals mg → mg d.name = some (.ref fa) →
      ∃ (K : PySem.W.Frag) (fd : FuncData) (sp : Sp), K.In h ∧ (∀ (s : Shared) (u : Value), BindsTo s fd ⟨[u], []⟩ [(x, u)]) ∧
        (∀ (H : Hp) (a : Addr) (ns : List Int), ns.length ≤ n → (∀ z ∈ ns, Builtin.Int.intBits z ≤ 1048576) → Only H → SqL K H a (ns.map V.int) → sp [.ref a] H (fun v _ => v = .bl true) fun _ _ _ => False) ∧
        ∀ base : Heap, K.In base → base.Ns mainGlobals mg → FnOk l.prog w K mg base (CX w) k fa fd [x] sp)
    (hCX : ∀ (w : World) (H : Hp) (s : Shared) (e : Value) (s' : Shared), CX w [] H s (fun _ _ _ => False) e s' → False) :
    PySem.W.WalkO q loose XP YP l.row.toRowW d [] (fun f vs => PySem.call f vs) := by
  refine Att.attach_callB hn hdf fun w s₀ s₁ mg mb fa o pm cd doc a vs ns G Y ho hd hcd hmg hobj hints hlen hbits hg => ?_
  obtain ⟨K, fd, sp, KX, hb, hsp, hF⟩ := F w mg fa _ Y G.T.g hmg
  exact law_call KX G.T.g G.T.b G.T.builtins G.T.nolimit hg hobj hints (Nat.le_trans hlen hn2) hr hF hb (fun H hO hS => hsp H a ns hlen hbits hO hS) fun H e s' => hCX w H s₁ e s'
end HP
/-! Rules over the hand layer that this claim needs besides. -/
namespace HP
open PySem PySem.Spec PyProof.Rows L2
/-! ### calls by positional promises -/
def tCallR (sp : Sp) (E : XK) (t : TA) : TE := fun σ H Q => t σ H fun vs H1 => sp vs H1 Q E
section
variable {X : Cx} {CX : CXT} {k : Nat} {f C : Addr} {sp : Sp} {E : XK} {x m : Str} {e o : Expr} {es : List Expr} {ta te : TE} {t : TA} {p pos apos : Pos}
theorem pe_callR (F : FnR X.prog X.w X.K X.mg X.base CX k f sp) (hr : Room k X.A) (hk : PySem.W.keepIn X.K (.ref f) = true) (hg : Gl X x) (hm : X.mg x = some (.ref f)) (hx : Passes CX X E) (ha : PA X (e :: es) t)
    (hd : (x == ("__debug__" : Str)) = false := by decide) (he : starEach (e :: es) X.env = (false, eval e X.env) :: starEach es X.env := by rfl) (hpl : (backTo pos (starEach es X.env)).any (·.1) = false := by rfl) :
    PE X (.Call (.Name x p) (e :: es) [] pos) (tCallR sp E t) := by
  refine ⟨fun pins s σ H Q I h => ?_⟩
  refine wpAny_Call_Name_kw (ld_glob I hg hm ?_ hd)
  refine PySem.W.callWith_K (h₀ := X.base) I.ok.mod.kin hk (thn (ha.run pos pins s σ H _ I h) fun us s1 ⟨vs, H1, I1, r, q⟩ => ⟨I1.kIn, ?_⟩) he hpl
  exact wpAny_call (run_fnR F hr hx I1 r q)
theorem pe_callR0 (F : FnR X.prog X.w X.K X.mg X.base CX k f sp) (hr : Room k X.A) (hk : PySem.W.keepIn X.K (.ref f) = true) (hg : Gl X x) (hm : X.mg x = some (.ref f)) (hx : Passes CX X E)
    (hd : (x == ("__debug__" : Str)) = false := by decide) : PE X (.Call (.Name x p) [] [] pos) (tCallR sp E tNil) := by
  refine ⟨fun pins s σ H Q I h => ?_⟩
  refine wpAny_Call_Name_kw (ld_glob I hg hm ?_ hd)
  refine PySem.W.callWith_K0 (first := []) I.kIn hk ?_
  exact wpAny_call (run_fnR (us := []) (vs := []) F hr hx I .nil h)
theorem pe_methR0 {pl : Sem Bool} (he : PE X o ta) (c : Cls X.K C) (hm : Meth X.K C m f) (F : FnR X.prog X.w X.K X.mg X.base CX k f sp) (hr : Room k X.A) (hx : Passes CX X E)
    (ht : eval (.Call (.Attribute o m apos) [] [] pos) X.env = (do
      let ov ← eval o X.env
      standAt apos.atName
      let (f, first) ← holding [ov] (getMethod ov m pl)
      callWith pos f first (backTo pos (starEach [] X.env)) (backToKw pos (keywordEach [] X.env))) := by rfl) :
    PE X (.Call (.Attribute o m apos) [] [] pos) (tMethR C m sp E ta tNil) := by
  refine ⟨fun pins s σ H Q I h => ?_⟩
  refine PySem.W.methodCall_KW (pl := pl) (thn (he.run pins s σ H _ I h) fun u s1 ⟨x, H1, I1, rx, a, dx, fs, ex, ea, l, q⟩ => ?_) ht
  subst ex
  obtain rfl : u = Value.ref a := rx
  refine getmeth_ok I1 ea c hm l ?_
  refine PySem.W.callWith_K0 (first := [.ref a]) I1.kIn hm.kp ?_
  exact wpAny_call (run_fnR (us := [.ref a]) (vs := [.ref a]) F hr hx I1 (.cons rfl .nil) q)
end
/-! ### a property by a positional promise -/
def tPropR (C : Addr) (sp : Sp) (E : XK) (ta : TE) : TE := fun σ H Q => ta σ H fun x H1 => ∃ a dx fs, x = .ref a ∧ H1 a = some (.ins C dx fs) ∧ sp [.ref a] H1 Q E
section
variable {X : Cx} {CX : CXT} {k : Nat} {C p g : Addr} {sp : Sp} {E : XK} {f : Str} {e : Expr} {ta : TE} {pos : Pos}
theorem pe_propR (he : PE X e ta) (c : Cls X.K C) (hp : PropOf X.K C f p g) (F : FnR X.prog X.w X.K X.mg X.base CX k g sp) (hr : Room (k + 1) X.A) (hx : Passes CX X.nox E)
    (hab : attributeBase e f X.env (eval e X.env) = eval e X.env := by rfl) : PE X (.Attribute e f pos) (tPropR C sp E ta) := by
  refine ⟨fun pins s σ H Q I h => ?_⟩
  refine attr_of hab (thn (he.run pins s σ H _ I h) fun u s1 ⟨x, H1, I1, rx, a, dx, fs, ex, ea, q⟩ => ?_)
  subst ex
  obtain rfl : u = Value.ref a := rx
  obtain ⟨mA, O, _⟩ := ins_get I1.hok ea
  obtain ⟨od, J, _⟩ := O.look
  obtain ⟨rest, hrec⟩ := hp.rec_
  have J1 := I1.tok (s1.toks + 1)
  have hc : (PySem.W.clsIn X.K C).isSome = true := by
    obtain ⟨cd, hc, _⟩ := PySem.W.any_some c.hd
    rw [hc]
    rfl
  refine PySem.W.get_bind I1.kIn J (PySem.W.plainGet_of (c.get f)).1 (PySem.W.findObj_data hc hp.at_ hp.get hp.tak) (PySem.W.plainGet_of (c.get f)).2 (wpAny_call (PySem.W.prop_get (s := { s1 with toks := s1.toks + 1 }) I1.kIn hrec ?_))
  refine codeAny_mono (F X.A.in1 X.stack { s1 with toks := s1.toks + 1 } H1 [.ref a] [.ref a] Q E hr.in1 J1.env0.in1 (.cons rfl .nil) q) fun r s' hq => ?_
  cases r with
  | error er => exact False.elim (hx pins σ H1 { s1 with toks := s1.toks + 1 } er s' (J1.wish _) hq)
  | ok fl =>
    cases fl with
    | ret u =>
      obtain ⟨v, H', I3, rv, q3⟩ := J1.after hq
      show wpAny _ _ (handedOut u) _ _ _
      rw [PySem.W.handedOut_of (handed_of rv)]
      exact wpAny_pure ⟨v, H', I3, rv, q3⟩
    | next => exact False.elim hq
    | brk => exact False.elim hq
    | cont => exact False.elim hq
end
/-! ### own operators -/
/-- x op y, x an instance of the class at C: the promise of its method -/
def rOwn2 (C : Addr) (sp : Sp) (E : XK) (G : V → Hp → Prop) : R2 := fun x y H Q => ∃ a dx fs, x = .ref a ∧ H a = some (.ins C dx fs) ∧ G y H ∧ sp [x, y] H Q E
def isIns (C : Addr) : V → Hp → Prop := fun y H => ∃ b dy gs, y = .ref b ∧ H b = some (.ins C dy gs)
def isInt : V → Hp → Prop := fun y _ => ∃ i, y = .int i
section
variable {X : Cx} {CX : CXT} {n : Nat} {C g : Addr} {sp : Sp} {E : XK}
theorem cmpBack_of {pins : List (Addr × Obj)} {σ : L2.St} {Q : VK} {u : Value} {s' : Shared} (h : EP X pins σ Q u s') : PySem.W.CmpBack (EP X pins σ Q) u s' := by
  obtain ⟨v, H', I, r, q⟩ := h
  cases v with
  | non => cases r; exact ⟨.non, H', I, rfl, q⟩
  | bl b => cases r; exact ⟨.bl b, H', I, rfl, q⟩
  | int i => obtain ⟨t, rfl⟩ := r; exact ⟨.int i, H', I, ⟨t, rfl⟩, q⟩
  | str i => obtain ⟨t, rfl⟩ := r; exact ⟨.str i, H', I, ⟨t, rfl⟩, q⟩
  | byt i => obtain ⟨t, rfl⟩ := r; exact ⟨.byt i, H', I, ⟨t, rfl⟩, q⟩
  | flt i => obtain ⟨t, rfl⟩ := r; exact ⟨.flt i, H', I, ⟨t, rfl⟩, q⟩
  | ref a => cases r; exact ⟨.ref a, H', I, rfl, q⟩
  | ty z => cases r; exact ⟨.ty z, H', I, rfl, q⟩
/-- a method of an instance, called by the machine -/
theorem run_own {pins : List (Addr × Obj)} {σ : L2.St} {H : Hp} {s : Shared} {Q : VK} {vs : List V} {us : List Value} (F : FnR X.prog X.w X.K X.mg X.base CX n g sp) (hr : Room n X.A) (hx : Passes CX X E) (I : Inv X pins σ H s) (r : Vals vs us) (h : sp vs H Q E) :
    wpAny (model X.prog X.w) X.A (call (.ref g) us) (EP X pins σ Q) X.xe s := wpAny_call (run_fnR F hr hx I r h)
theorem ins_at {pins : List (Addr × Obj)} {σ : L2.St} {H : Hp} {s : Shared} {a dx : Addr} {fs : List (Str × V)} (I : Inv X pins σ H s) (h : H a = some (.ins C dx fs)) : ∃ ox od, PySem.W.InstAt s.heap a ox C od ∧ ox.data = .plain := by
  obtain ⟨mA, O, _⟩ := ins_get I.hok h
  obtain ⟨od, J, _⟩ := O.look
  exact ⟨_, _, J, rfl⟩
/-- both operands instances of C -/
theorem op_ownI {op : Operator} (hs : PySem.W.findIn X.K (.ref C) (PySem.dunder op.info.2) = some (some (.ref g))) (hf : PySem.W.isFn X.K (.ref g) = true) (hc : PySem.W.selfFirst X.K C = true) (F : FnR X.prog X.w X.K X.mg X.base CX n g sp) (hr : Room n X.A) (hx : Passes CX X E) :
    OpR X (binaryOp op) (rOwn2 C sp E (isIns C)) := by
  intro pins s σ H x y v u Q I rx ry hq
  obtain ⟨a, dx, fs, rfl, ha, ⟨b, dy, gs, rfl, hb⟩, q⟩ := hq
  cases rx
  cases ry
  obtain ⟨ox, od, J, _⟩ := ins_at I ha
  obtain ⟨oy, oe, J', _⟩ := ins_at I hb
  obtain ⟨m, hF⟩ := I.fr
  refine PySem.W.binop_K hF I.ok.mod.kin J J'.type hc hs hf (thn (run_own (vs := [V.ref a, V.ref b]) F hr hx I (.cons rfl (.cons rfl .nil)) q) fun u' s' z => cmpBack_of z)
/-- the second operand an int -/
theorem op_ownN {op : Operator} {fo ro rc : Option Value} (hs : PySem.W.findIn X.K (.ref C) (PySem.dunder op.info.2) = some (some (.ref g))) (hf : PySem.W.isFn X.K (.ref g) = true) (hc : PySem.W.selfFirst X.K C = true)
    (h3 : PySem.W.findIn X.K (.ref C) (dunderR op.info.2) = some rc) (hp : rc = none ∨ ∃ g : Addr, rc = some (.ref g)) (h1 : PySem.W.findIn X.K (.type "int") (PySem.dunder op.info.2) = some fo) (h2 : PySem.W.findIn X.K (.type "int") (dunderR op.info.2) = some ro)
    (hsub : PySem.W.subIn X.K (.type "int") (.ref C) = some false) (F : FnR X.prog X.w X.K X.mg X.base CX n g sp) (hr : Room n X.A) (hx : Passes CX X E) :
    OpR X (binaryOp op) (rOwn2 C sp E isInt) := by
  intro pins s σ H x y v u Q I rx ry hq
  obtain ⟨a, dx, fs, rfl, ha, ⟨i, rfl⟩, q⟩ := hq
  cases rx
  obtain ⟨t, rfl⟩ := ry
  obtain ⟨ox, od, J, _⟩ := ins_at I ha
  obtain ⟨m, hF⟩ := I.fr
  exact PySem.W.ksp_binT hF I.ok.mod.kin J rfl hc hs hf h3 hp h1 h2 hsub (thn (run_own (vs := [V.ref a, V.int i]) F hr hx I (.cons rfl (.cons ⟨t, rfl⟩ .nil)) q) fun u' s' z => cmpBack_of z)
end
/-! ### own ==, != and in -/
theorem looks_cls {M : Model} {h : Heap} {a : Addr} {o : Obj} {T : Value} (ho : h.get? a = some o) (hc : o.cls = T) : PySem.W.Looks M h (typeOf (.ref a)) T := by
  subst hc
  exact (PySem.W.Looks.ld ho).andThen .now
/-- what may stand beside an instance of C in a comparison -/
def okRight (K : PySem.W.Frag) (C : Addr) : V → Hp → Prop := fun y H => match y with
  | .ref b => (∃ dy gs, H b = some (.ins C dy gs)) ∨ (∃ C' dy gs, H b = some (.ins C' dy gs) ∧ PySem.W.notFirst K C (.ref C') = true) ∨ (∃ xs, SqL K H b xs) ∨ (∃ xs, SqT K H b xs)
  | .ty _ => False
  | .byt _ => False
  | .flt _ => False
  | _ => True
/-- the built-in types that may stand there -/
def rightTypes : List String := ["int", "str", "bool", "NoneType", "list", "tuple"]
def rightsB (K : PySem.W.Frag) (C : Addr) : Bool := rightTypes.all fun T => PySem.W.notFirst K C (.type T)
section
variable {X : Cx} {CX : CXT} {n : Nat} {C g : Addr} {sp : Sp} {E : XK}
theorem right_type {pins : List (Addr × Obj)} {σ : L2.St} {H : Hp} {s : Shared} {y : V} {u : Value} (I : Inv X pins σ H s) (ry : RelV y u) (h : okRight X.K C y H) (hT : rightsB X.K C = true) :
    ∃ tb, PySem.W.Looks (model X.prog X.w) s.heap (typeOf u) tb ∧ PySem.W.notFirst X.K C tb = true := by
  have hT' : ∀ T ∈ rightTypes, PySem.W.notFirst X.K C (.type T) = true := fun T h => List.all_eq_true.mp hT T h
  cases y with
  | non => cases ry; exact ⟨.type "NoneType", PySem.W.Looks.of_pure rfl, hT' _ (by simp [rightTypes])⟩
  | bl b => cases ry; exact ⟨.type "bool", PySem.W.Looks.of_pure rfl, hT' _ (by simp [rightTypes])⟩
  | int i => obtain ⟨t, rfl⟩ := ry; exact ⟨.type "int", PySem.W.Looks.of_pure rfl, hT' _ (by simp [rightTypes])⟩
  | str i => obtain ⟨t, rfl⟩ := ry; exact ⟨.type "str", PySem.W.Looks.of_pure rfl, hT' _ (by simp [rightTypes])⟩
  | byt i => exact h.elim
  | flt i => exact h.elim
  | ty z => exact h.elim
  | ref b =>
    cases ry
    rcases h with ⟨dy, gs, h⟩ | ⟨C', dy, gs, h, hn⟩ | ⟨xs, h⟩ | ⟨xs, h⟩
    · obtain ⟨ox, od, J, _⟩ := ins_at I h
      exact ⟨.ref C, J.type, by simp [PySem.W.notFirst]⟩
    · obtain ⟨ox, od, J, _⟩ := ins_at I h
      exact ⟨.ref C', J.type, hn⟩
    · obtain ⟨its, r, ⟨o, k, ho, hc, _⟩, _⟩ := I.list h
      exact ⟨.type "list", looks_cls ho hc, hT' _ (by simp [rightTypes])⟩
    · obtain ⟨its, r, ⟨o, ho, hc, _⟩, _⟩ := I.tuple h
      exact ⟨.type "tuple", looks_cls ho hc, hT' _ (by simp [rightTypes])⟩
/-- x op y by the own comparison method -/
theorem op_ownC {op : CmpOp} (hop : ∀ a b, compareOp op a b = richCompare op a b) (hs : PySem.W.findIn X.K (.ref C) (cmpInfo op).2.1 = some (some (.ref g))) (hf : PySem.W.isFn X.K (.ref g) = true) (hT : rightsB X.K C = true)
    (F : FnR X.prog X.w X.K X.mg X.base CX n g sp) (hr : Room n X.A) (hx : Passes CX X E) : OpR X (compareOp op) (rOwn2 C sp E (okRight X.K C)) := by
  intro pins s σ H x y v u Q I rx ry hq
  obtain ⟨a, dx, fs, rfl, ha, hy, q⟩ := hq
  cases rx
  obtain ⟨ox, od, J, _⟩ := ins_at I ha
  obtain ⟨tb, hb, hn⟩ := right_type I ry hy hT
  obtain ⟨m, hF⟩ := I.fr
  rw [hop]
  exact PySem.W.cmp_K hr.units0 hF I.ok.mod.kin J hb hn hs hf (thn (run_own (vs := [V.ref a, y]) F hr hx I (.cons rfl (.cons ry .nil)) q) fun u' s' z => cmpBack_of z)
/-- the machine's != of a class that has == alone -/
theorem objNe {M : Model} {A : Around} {E' : Value → Shared → Prop} {K : PySem.W.Frag} {s : Shared} {a : Addr} {ox : Obj} {od : Option Obj} {b : Value} {Q : Fin → Shared → Prop} (X : K.In s.heap) (I : PySem.W.InstAt s.heap a ox C od)
    (hs : PySem.W.findIn K (.ref C) "__eq__" = some (some (.ref g))) (hf : PySem.W.isFn K (.ref g) = true) (hu : A.units < cLine)
    (h : wpAny M A (call (.ref g) [.ref a, b]) (fun v s' => ∃ k, v = .bool k ∧ Q (.done (.ret (.bool (!k)))) s') E' s) : wpAny M A (Builtin.«object.__ne__» ⟨[.ref a, b], []⟩) Q E' s := by
  unfold Builtin.«object.__ne__»
  refine wpAny_bind (wpAny_of_eq (a := (.ref a, [b])) (by first | rfl | kernel_rfl) ?_)
  refine wpAny_bind (wpAny_cRoomFor hu ?_)
  refine wpAny_bind (PySem.W.ifBound_K X I hs hf (wpAny_mono h (fun v s' hv => ?_) fun _ _ z => z))
  obtain ⟨k, rfl, q⟩ := hv
  exact wpAny_bind (wpAny_truthy_bool (wpAny_pure q))
/-- a built-in method, bound, called -/
theorem ifBound_B {M : Model} {A : Around} {E' : Value → Shared → Prop} {K : PySem.W.Frag} {s : Shared} {a : Addr} {ox : Obj} {od : Option Obj} {name : Str} {id : String} {args : List Value} {Q : Option Value → Shared → Prop} (X : K.In s.heap) (I : PySem.W.InstAt s.heap a ox C od)
    (hs : PySem.W.findIn K (.ref C) name = some (some (.builtin id))) (hb : typeOf (.builtin id) = pure (.type "wrapper_descriptor"))
    (h : wpAny M A (call (.builtin id) (.ref a :: args)) (fun v => Q (some v)) E' s) : wpAny M A (callSpecialIfBound? (.ref a) name args) Q E' s := by
  have bnd : bindSpecial (.builtin id) (.ref a) = pure (.builtin id, [.ref a]) := by
    unfold bindSpecial
    rw [hb]
    rfl
  simp only [callSpecialIfBound?, bindSpecialIfBound?]
  refine wpAny_holding (wpAny_bind (wpAny_bind (wpAny_bind (I.type.here ((PySem.W.looks_findIn X hs).here ?_)))))
  refine wpAny_bind (wpAny_askSetting (wpAny_ite ?_))
  have fin : wpAny M A (call (.builtin id) ([.ref a] ++ args) >>= fun v => pure (some v)) Q E' s := wpAny_bind (wpAny_mono h (fun v s' h' => wpAny_pure h') fun _ _ h' => h')
  rw [bnd]
  split
  · exact wpAny_bind (wpAny_pure (wpAny_pure (by exact fin)))
  · exact wpAny_tryCatch (wpAny_bind (wpAny_pure (wpAny_pure (by exact fin))))
theorem ne_wd : typeOf (.builtin "object.__ne__") = pure (.type "wrapper_descriptor") := by show builtinType _ = _; rw [builtinType_eq_fast]; kernel_rfl
/-- a rich comparison that the left side answers -/
theorem rc_left {A : Around} {E' : Value → Shared → Prop} {P : Program} {w : World} {K : PySem.W.Frag} {s : Shared} {a : Addr} {ox : Obj} {od : Option Obj} {op : CmpOp} {b tb : Value} {Q : Value → Shared → Prop} (hu : A.units < cLine) (X : K.In s.heap) (I : PySem.W.InstAt s.heap a ox C od)
    (hb : PySem.W.Looks (model P w) s.heap (typeOf b) tb) (hn : PySem.W.notFirst K C tb = true)
    (one : wpAny (model P w) A (tryCompare (.ref a) (cmpInfo op).2.1 b) (fun r s' => ∃ v, r = some v ∧ Q v s') E' s) : wpAny (model P w) A (richCompare op (.ref a) b) Q E' s := by
  unfold richCompare
  simp only [oneThing_ref]
  refine wpAny_holding (wpAny_bind (wpAny_cRoomFor hu (wpAny_bind (I.type.here (wpAny_bind (hb.here ?_))))))
  by_cases q : (Value.ref C != tb) = true
  · rw [if_pos q]
    have e : PySem.W.subIn K tb (.ref C) = some false := by
      rcases Bool.or_eq_true_iff.mp hn with e | e
      · rw [beq_iff_eq.mp e] at q
        simp at q
      · exact beq_iff_eq.mp e
    refine wpAny_bind ((PySem.W.looks_subIn X e).here ?_)
    simp only [Bool.false_eq_true, if_false]
    refine wpAny_bind (wpAny_mono one (fun r s' z => ?_) fun _ _ e => e)
    obtain ⟨v, rfl, hq⟩ := z
    exact wpAny_pure hq
  · rw [if_neg q]
    refine wpAny_bind (wpAny_pure ?_)
    simp only [Bool.false_eq_true, if_false]
    refine wpAny_bind (wpAny_mono one (fun r s' z => ?_) fun _ _ e => e)
    obtain ⟨v, rfl, hq⟩ := z
    exact wpAny_pure hq
def rOwnNe (K : PySem.W.Frag) (C : Addr) (sp : Sp) (E : XK) : R2 := fun x y H Q => ∃ a dx fs, x = .ref a ∧ H a = some (.ins C dx fs) ∧ okRight K C y H ∧ sp [x, y] H (fun v H' => ∃ k, v = .bl k ∧ Q (.bl (!k)) H') E
/-- x != y by the own == -/
theorem op_ownNe (hs : PySem.W.findIn X.K (.ref C) "__eq__" = some (some (.ref g))) (hf : PySem.W.isFn X.K (.ref g) = true) (h2 : PySem.W.findIn X.K (.ref C) "__ne__" = some (some (.builtin "object.__ne__")))
    (hob : PySem.W.subIn X.K (.ref C) (.type "object") = some true) (hT : rightsB X.K C = true) (F : FnR X.prog X.w X.K X.mg X.base CX n g sp) (hr : Room (n + 1) X.A) (hx : Passes CX X E) : OpR X (compareOp .NotEq) (rOwnNe X.K C sp E) := by
  intro pins s σ H x y v u Q I rx ry hq
  obtain ⟨a, dx, fs, rfl, ha, hy, q⟩ := hq
  cases rx
  obtain ⟨ox, od, J, _⟩ := ins_at I ha
  obtain ⟨tb, hb, hn⟩ := right_type I ry hy hT
  show wpAny _ _ (richCompare .NotEq (.ref a) u) _ _ _
  refine rc_left hr.units0 I.kIn J hb hn ?_
  show wpAny _ _ (tryCompare (.ref a) "__ne__" u) _ _ _
  unfold tryCompare
  refine wpAny_bind (ifBound_B I.kIn J h2 ne_wd (wpAny_call (codeAny_call_builtin PySem.F.cmp_object.ne.plain PySem.F.cmpEntry_ne (PySem.W.check_slot PySem.F.cmpKind_ne PySem.F.cmpSplit_ne (J.type.andThen (PySem.W.looks_subIn I.kIn hob)) (PySem.F.cmpArgs_ne _ _) ?_))))
  refine objNe (A := X.A.in1) I.kIn J hs hf hr.in1.units0 ?_
  refine wpAny_call (codeAny_mono (F X.A.in1 X.stack s H [.ref a, u] [.ref a, y] _ E hr.in1 I.env0.in1 (.cons rfl (.cons ry .nil)) q) fun r s' hq => ?_)
  cases r with
  | error er => exact hx pins σ H s er s' I hq
  | ok fl =>
    cases fl with
    | ret u2 =>
      obtain ⟨v2, H', I3, rv, k, ev, q3⟩ := I.after hq
      subst ev
      cases rv
      exact ⟨k, rfl, wpAny_pure ⟨.bool (!k), rfl, V.bl (!k), _, I3, rfl, q3⟩⟩
    | next => exact False.elim hq
    | brk => exact False.elim hq
    | cont => exact False.elim hq
/-- v in x, v not in x, by the own __contains__ (a bool) -/
def rOwnIn (C : Addr) (sp : Sp) (E : XK) (neg : Bool) : R2 := fun y x H Q => ∃ a dx fs, x = .ref a ∧ H a = some (.ins C dx fs) ∧ sp [x, y] H (fun v H' => ∃ k, v = .bl k ∧ Q (.bl (if neg then !k else k)) H') E
theorem op_ownIn (hs : PySem.W.findIn X.K (.ref C) "__contains__" = some (some (.ref g))) (hf : PySem.W.isFn X.K (.ref g) = true) (F : FnR X.prog X.w X.K X.mg X.base CX n g sp) (hr : Room n X.A) (hx : Passes CX X E) : OpR X (compareOp .In) (rOwnIn C sp E false) := by
  intro pins s σ H y x v u Q I ry rx hq
  obtain ⟨a, dx, fs, rfl, ha, q⟩ := hq
  cases rx
  obtain ⟨ox, od, J, _⟩ := ins_at I ha
  obtain ⟨m, hF⟩ := I.fr
  refine PySem.W.in_K hF I.ok.mod.kin J hs hf (thn (run_own (vs := [V.ref a, y]) F hr hx I (.cons rfl (.cons ry .nil)) q) fun u2 s' z => ?_)
  obtain ⟨v2, H', I3, rv, k, ev, q3⟩ := z
  subst ev
  cases rv
  exact wpAny_truthy_bool ⟨V.bl k, _, I3, rfl, q3⟩
theorem op_ownNotIn (hs : PySem.W.findIn X.K (.ref C) "__contains__" = some (some (.ref g))) (hf : PySem.W.isFn X.K (.ref g) = true) (F : FnR X.prog X.w X.K X.mg X.base CX n g sp) (hr : Room n X.A) (hx : Passes CX X E) : OpR X (compareOp .NotIn) (rOwnIn C sp E true) := by
  intro pins s σ H y x v u Q I ry rx hq
  obtain ⟨a, dx, fs, rfl, ha, q⟩ := hq
  cases rx
  obtain ⟨ox, od, J, _⟩ := ins_at I ha
  obtain ⟨m, hF⟩ := I.fr
  refine PySem.W.notIn_K hF I.ok.mod.kin J hs hf (thn (run_own (vs := [V.ref a, y]) F hr hx I (.cons rfl (.cons ry .nil)) q) fun u2 s' z => ?_)
  obtain ⟨v2, H', I3, rv, k, ev, q3⟩ := z
  subst ev
  cases rv
  exact wpAny_truthy_bool ⟨V.bl (!k), _, I3, rfl, q3⟩
end
/-! ### x op= y without an own in-place method -/
section
variable {M : Model} {A : Around} {E' : Value → Shared → Prop} {K : PySem.W.Frag} {s : Shared} {a C : Addr} {ox : Obj} {od : Option Obj}
/-- none of the classes of C's order has the in-place method: told of the classes one by one -/
def noInpl (K : PySem.W.Frag) (C : Addr) (name : Str) : Bool := match PySem.W.clsIn K C with
  | some cd => cd.mro.all fun c => PySem.W.findIn K c name == some none
  | none => false
theorem fills_none {nm : String} {add : Bool} {h : Heap} (X : K.In h) (hn : noInpl K C (dunderI nm) = true) : PySem.W.Looks M h (fillsInplaceSlot (.ref C) nm add) false := by
  unfold noInpl at hn
  cases hc : PySem.W.clsIn K C with
  | none =>
    rw [hc] at hn
    cases hn
  | some cd =>
    rw [hc] at hn
    have all : ∀ c ∈ cd.mro, PySem.W.findIn K c (dunderI nm) = some none := fun c hm => beq_iff_eq.mp (List.all_eq_true.mp hn c hm)
    have Lm : PySem.W.Looks M h (mroOf (.ref C)) cd.mro := (PySem.W.looks_clsIn X hc).andThen (f := fun cd => pure cd.mro) .now
    unfold fillsInplaceSlot
    refine Lm.andThen ?_
    have go : ∀ (l : List Value) (f : Value → Sem Bool), (∀ c ∈ l, PySem.W.Looks M h (f c) false) → PySem.W.Looks M h (l.anyM f) false := by
      intro l f
      induction l with
      | nil => intro _; exact .now
      | cons c r ih =>
        intro hl
        exact (hl c (List.mem_cons_self ..)).andThen (ih fun d hd => hl d (List.mem_cons_of_mem _ hd))
    refine go _ _ fun c hm => ?_
    exact (PySem.W.looks_findIn X (all c hm)).andThen .now
end
section
variable {X : Cx} {CX : CXT} {n : Nat} {C g : Addr} {sp : Sp} {E : XK}
theorem iop_ownI {op : Operator} (hi : noInpl X.K C (dunderI op.info.2) = true) (hs : PySem.W.findIn X.K (.ref C) (PySem.dunder op.info.2) = some (some (.ref g))) (hf : PySem.W.isFn X.K (.ref g) = true) (hc : PySem.W.selfFirst X.K C = true)
    (F : FnR X.prog X.w X.K X.mg X.base CX n g sp) (hr : Room n X.A) (hx : Passes CX X E) : OpR X (inplaceOp op) (rOwn2 C sp E (isIns C)) := by
  intro pins s σ H x y v u Q I rx ry hq
  obtain ⟨a, dx, fs, rfl, ha, ⟨b, dy, gs, rfl, hb⟩, q⟩ := hq
  cases rx
  cases ry
  obtain ⟨ox, od, J, _⟩ := ins_at I ha
  obtain ⟨oy, oe, J', _⟩ := ins_at I hb
  obtain ⟨cd, rest, hcd, hm⟩ := PySem.W.ksp_first hc
  have one := PySem.W.ksp_try (M := model X.prog X.w) I.kIn J hs hf (thn (run_own (vs := [V.ref a, V.ref b]) F hr hx I (.cons rfl (.cons rfl .nil)) q) fun u' s' z => cmpBack_of z)
  unfold inplaceOp
  refine wpAny_holding (wpAny_bind (J.type.here ?_))
  refine wpAny_bind ((fills_none I.kIn hi).here ?_)
  simp only [Bool.false_eq_true, if_false]
  refine wpAny_bind ?_
  unfold binaryOp1
  refine wpAny_bind (J.type.here (wpAny_bind (J'.type.here (wpAny_bind ((PySem.W.fills_K I.kIn hcd hm hs).here ?_)))))
  simp only [beq_self_eq_true, if_true]
  refine wpAny_bind (wpAny_pure ?_)
  simp only [Bool.and_false, Bool.false_eq_true, if_false, Bool.false_and]
  refine wpAny_bind (wpAny_pure ?_)
  simp only [Bool.false_eq_true, if_false]
  refine wpAny_bind (wpAny_mono one (fun r s' z => ?_) fun _ _ e => e)
  obtain ⟨v2, rfl, hq⟩ := z
  exact wpAny_pure (wpAny_pure hq)
end
/-! ### calls with keywords, by promises -/
/-- a promise for a call with the keywords ks -/
def FnK (P : Program) (w : World) (K : PySem.W.Frag) (mg : Str → Option Value) (base : Heap) (CX : CXT) (k : Nat) (f : Addr) (ks : List Str) (sp : List V → List V → Hp → VK → XK → Prop) : Prop :=
  ∀ (A : Around) (outer : List Env) (s : Shared) (H : Hp) (us ws : List Value) (vs zs : List V) (Q : VK) (E : XK), Room k A → Env0 P w K mg base A outer s H → Vals vs us → Vals zs ws → zs.length = ks.length → sp vs zs H Q E →
    codeAny (model P w) A (.call (.ref f) ⟨us, ks.zip ws⟩) (CR CX outer P w H s Q E) s
/-- by the def's own promise: gV puts the values in the parameters' order -/
theorem FnOk.kws {P : Program} {w : World} {K : PySem.W.Frag} {mg : Str → Option Value} {base : Heap} {CX : CXT} {k n : Nat} {f : Addr} {fd : FuncData} {ps ks : List Str} {sp : Sp} {g : List Value → List Value → List Value} {gV : List V → List V → List V}
    (F : FnOk P w K mg base CX k f fd ps sp) (hb : KBn K fd ps n ks g gV) : FnK P w K mg base CX k f ks (fun vs zs H Q E => vs.length = n ∧ sp (gV vs zs) H Q E) := by
  intro A outer s H us ws vs zs Q E hr e0 r rz hz ⟨hn, hs⟩
  exact F.run A outer s H ⟨us, ks.zip ws⟩ (g us ws) (gV vs zs) Q E hr e0 (hb.to s us ws (e0.mod.kin.keeps fun b o e => (e0.bs b o e).1) (r.length.symm.trans hn) (rz.length.symm.trans hz)) (hb.rel r rz) hs
def tCallKw (sp : List V → List V → Hp → VK → XK → Prop) (E : XK) (t tk : TA) (n : Nat) : TE := fun σ H Q => t σ H fun vs H1 => tk σ H1 fun zs H2 => zs.length = n ∧ sp vs zs H2 Q E
def tMethKw (C : Addr) (m : Str) (sp : List V → List V → Hp → VK → XK → Prop) (E : XK) (ta : TE) (tk : TA) (n : Nat) : TE := fun σ H Q => ta σ H fun x H1 => ∃ a dx fs, x = .ref a ∧ H1 a = some (.ins C dx fs) ∧ fs.lookup m = none ∧ tk σ H1 fun zs H2 => zs.length = n ∧ sp [x] zs H2 Q E
section
variable {X : Cx} {CX : CXT} {k : Nat} {f C p g : Addr} {ks : List Str} {sk : List V → List V → Hp → VK → XK → Prop} {sp : Sp} {E : XK} {x m : Str} {e o : Expr} {es : List Expr} {kws : List Keyword} {ta te : TE} {t tk : TA} {pp pos apos : Pos} {mc : Value}
theorem run_fnK {pins : List (Addr × Obj)} {σ : L2.St} {H : Hp} {s : Shared} {Q : VK} {us ws : List Value} {vs zs : List V} (F : FnK X.prog X.w X.K X.mg X.base CX k f ks sk) (hr : Room k X.A) (hx : Passes CX X E)
    (I : Inv X pins σ H s) (r : Vals vs us) (rz : Vals zs ws) (hz : zs.length = ks.length) (h : sk vs zs H Q E) : wpAny (model X.prog X.w) X.A (call (.ref f) us (ks.zip ws)) (EP X pins σ Q) X.xe s := by
  refine wpAny_call (codeAny_mono (F X.A X.stack s H us ws vs zs Q E hr I.env0 r rz hz h) fun r s' hq => ?_)
  cases r with
  | error e => exact hx pins σ H s e s' I hq
  | ok fl =>
    cases fl with
    | ret u => exact I.after hq
    | next => exact False.elim hq
    | brk => exact False.elim hq
    | cont => exact False.elim hq
/-- o.m(k = v, ..) -/
theorem pe_methK {pl : Sem Bool} (he : PE X o ta) (c : Cls X.K C) (hm : Meth X.K C m f) (F : FnK X.prog X.w X.K X.mg X.base CX k f ks sk) (hr : Room k X.A) (hx : Passes CX X E) (hkw : PK X kws tk)
    (hall : (backToKw pos (keywordEach kws X.env)).all (·.1.isSome) = true := by rfl) (hks : (backToKw pos (keywordEach kws X.env)).filterMap (·.1) = ks := by rfl)
    (hpl : ((backTo pos (starEach [] X.env)).any (·.1) || (backToKw pos (keywordEach kws X.env)).any (·.1.isNone)) = false := by rfl)
    (ht : eval (.Call (.Attribute o m apos) [] kws pos) X.env = (do
      let ov ← eval o X.env
      standAt apos.atName
      let (f, first) ← holding [ov] (getMethod ov m pl)
      callWith pos f first (backTo pos (starEach [] X.env)) (backToKw pos (keywordEach kws X.env))) := by rfl) :
    PE X (.Call (.Attribute o m apos) [] kws pos) (tMethKw C m sk E ta tk ks.length) := by
  refine ⟨fun pins s σ H Q I h => ?_⟩
  refine PySem.W.methodCall_KW (pl := pl) (thn (he.run pins s σ H _ I h) fun u s1 ⟨x, H1, I1, rx, a, dx, fs, ex, ea, l, q⟩ => ?_) ht
  subst ex
  obtain rfl : u = Value.ref a := rx
  refine getmeth_ok I1 ea c hm l ?_
  refine PySem.W.callWith_KW0 (first := [.ref a]) (h₀ := X.base) I.ok.mod.kin hm.kp hall (thn (hkw.run pos pins s1 σ H1 _ I1 q) fun ws s2 ⟨zs, H2, I2, rz, hz, q2⟩ => ⟨I2.kIn, ?_⟩) hpl
  rw [hks]
  exact run_fnK (us := [.ref a]) (vs := [.ref a]) F hr hx I2 (.cons rfl .nil) rz hz q2
/-- f(k = v, ..) -/
theorem pe_callK0 (F : FnK X.prog X.w X.K X.mg X.base CX k f ks sk) (hr : Room k X.A) (hk : PySem.W.keepIn X.K (.ref f) = true) (hg : Gl X x) (hm : X.mg x = some (.ref f)) (hx : Passes CX X E) (hkw : PK X kws tk)
    (hd : (x == ("__debug__" : Str)) = false := by decide) (hall : (backToKw pos (keywordEach kws X.env)).all (·.1.isSome) = true := by rfl) (hks : (backToKw pos (keywordEach kws X.env)).filterMap (·.1) = ks := by rfl)
    (hpl : ((backTo pos (starEach [] X.env)).any (·.1) || (backToKw pos (keywordEach kws X.env)).any (·.1.isNone)) = false := by rfl) :
    PE X (.Call (.Name x pp) [] kws pos) (tCallKw sk E tNil tk ks.length) := by
  refine ⟨fun pins s σ H Q I h => ?_⟩
  refine wpAny_Call_Name_kw (ld_glob I hg hm ?_ hd)
  refine PySem.W.callWith_KW0 (first := []) (h₀ := X.base) I.ok.mod.kin hk hall (thn (hkw.run pos pins s σ H _ I h) fun ws s2 ⟨zs, H2, I2, rz, hz, q2⟩ => ⟨I2.kIn, ?_⟩) hpl
  rw [hks]
  exact run_fnK (us := []) (vs := []) F hr hx I2 .nil rz hz q2
/-! ### static methods, read off the class -/
structure SMet (K : PySem.W.Frag) (C : Addr) (mc : Value) (m : Str) (p g : Addr) : Prop where
  rd : PySem.W.readsIn K C mc = true
  ga : PySem.W.specialIn K (.ref C) "__getattribute__" = some (some (.builtin "type.__getattribute__"))
  at_ : PySem.W.findCls K (.ref C) mc m = some (.get (.builtin "staticmethod.__get__") (.ref p) .none (.ref C))
  rc : ∃ rest, PySem.W.recIn K p "staticmethod" = some (.ref g :: rest)
  kp : PySem.W.keepIn K (.ref g) = true
theorem getsmet_ok {A : Around} {E' : Value → Shared → Prop} {pins : List (Addr × Obj)} {σ : L2.St} {H : Hp} {s : Shared} {pl : Sem Bool} {Q : Value × List Value → Shared → Prop} (I : Inv X pins σ H s) (c : SMet X.K C mc m p g)
    (h : ∀ s', Inv X pins σ H s' → Q (.ref g, []) s') : wpAny (model X.prog X.w) A (getMethod (.ref C) m pl) Q E' s := by
  obtain ⟨rest, hp⟩ := c.rc
  refine PySem.W.method_cls I.kIn c.ga ?_
  refine PySem.W.cls_bind I.kIn c.rd c.at_ ?_
  refine wpAny_call (PySem.W.sm_get (s := { s with toks := s.toks + 1 }) I.kIn hp (PySem.W.handed_on rfl ?_))
  exact h _ (I.tok _)
def tStat (C : Addr) (sp : Sp) (E : XK) (ta : TE) (t : TA) : TE := fun σ H Q => ta σ H fun x H1 => x = .ref C ∧ t σ H1 fun vs H2 => sp vs H2 Q E
def tStatK (C : Addr) (sk : List V → List V → Hp → VK → XK → Prop) (E : XK) (ta : TE) (tk : TA) (n : Nat) : TE := fun σ H Q => ta σ H fun x H1 => x = .ref C ∧ tk σ H1 fun zs H2 => zs.length = n ∧ sk [] zs H2 Q E
theorem pe_stat {pl : Sem Bool} (he : PE X o ta) (c : SMet X.K C mc m p g) (F : FnR X.prog X.w X.K X.mg X.base CX k g sp) (hr : Room k X.A) (hx : Passes CX X E) (ha : PA X (e :: es) t)
    (hst : starEach (e :: es) X.env = (false, eval e X.env) :: starEach es X.env := by rfl) (hpl : (backTo pos (starEach es X.env)).any (·.1) = false := by rfl)
    (ht : eval (.Call (.Attribute o m apos) (e :: es) [] pos) X.env = (do
      let ov ← eval o X.env
      standAt apos.atName
      let (f, first) ← holding [ov] (getMethod ov m pl)
      callWith pos f first (backTo pos (starEach (e :: es) X.env)) (backToKw pos (keywordEach [] X.env))) := by rfl) :
    PE X (.Call (.Attribute o m apos) (e :: es) [] pos) (tStat C sp E ta t) := by
  refine ⟨fun pins s σ H Q I h => ?_⟩
  refine PySem.W.methodCall_KW (pl := pl) (thn (he.run pins s σ H _ I h) fun u s1 ⟨x, H1, I1, rx, ex, q⟩ => ?_) ht
  subst ex
  obtain rfl : u = Value.ref C := rx
  refine getsmet_ok I1 c fun s2 I2 => ?_
  refine PySem.W.callWith_K (first := []) (h₀ := X.base) I.ok.mod.kin c.kp (thn (ha.run pos pins s2 σ H1 _ I2 q) fun us s3 ⟨vs, H2, I3, r, q2⟩ => ⟨I3.kIn, ?_⟩) hst hpl
  exact wpAny_call (run_fnR F hr hx I3 r q2)
theorem pe_statK {pl : Sem Bool} (he : PE X o ta) (c : SMet X.K C mc m p g) (F : FnK X.prog X.w X.K X.mg X.base CX k g ks sk) (hr : Room k X.A) (hx : Passes CX X E) (hkw : PK X kws tk)
    (hall : (backToKw pos (keywordEach kws X.env)).all (·.1.isSome) = true := by rfl) (hks : (backToKw pos (keywordEach kws X.env)).filterMap (·.1) = ks := by rfl)
    (hpl : ((backTo pos (starEach [] X.env)).any (·.1) || (backToKw pos (keywordEach kws X.env)).any (·.1.isNone)) = false := by rfl)
    (ht : eval (.Call (.Attribute o m apos) [] kws pos) X.env = (do
      let ov ← eval o X.env
      standAt apos.atName
      let (f, first) ← holding [ov] (getMethod ov m pl)
      callWith pos f first (backTo pos (starEach [] X.env)) (backToKw pos (keywordEach kws X.env))) := by rfl) :
    PE X (.Call (.Attribute o m apos) [] kws pos) (tStatK C sk E ta tk ks.length) := by
  refine ⟨fun pins s σ H Q I h => ?_⟩
  refine PySem.W.methodCall_KW (pl := pl) (thn (he.run pins s σ H _ I h) fun u s1 ⟨x, H1, I1, rx, ex, q⟩ => ?_) ht
  subst ex
  obtain rfl : u = Value.ref C := rx
  refine getsmet_ok I1 c fun s2 I2 => ?_
  refine PySem.W.callWith_KW0 (first := []) (h₀ := X.base) I.ok.mod.kin c.kp hall (thn (hkw.run pos pins s2 σ H1 _ I2 q) fun ws s3 ⟨zs, H2, I3, rz, hz, q2⟩ => ⟨I3.kIn, ?_⟩) hpl
  rw [hks]
  exact run_fnK (us := []) (vs := []) F hr hx I3 .nil rz hz q2
end
/-! ### C( *y), str(x) of an own class, x(k = v) -/
section
variable {X : Cx} {CX : CXT} {k n : Nat} {f C g : Addr} {ks : List Str} {sk : List V → List V → Hp → VK → XK → Prop} {sp : Sp} {E : XK} {x m : Str} {e o : Expr} {es : List Expr} {kws : List Keyword} {ta te tf : TE} {t tk : TA} {pp ps_ pos apos : Pos}
def tMakeS (K : PySem.W.Frag) (C : Addr) (sp : Sp) (E : XK) (te : TE) : TE := fun σ H Q => te σ H fun y H1 => ∃ a xs, y = V.ref a ∧ (SqT K H1 a xs ∨ SqL K H1 a xs) ∧ ∀ x dx, H1 x = Option.none → H1 dx = Option.none → dx ≠ x →
  sp (V.ref x :: xs) (upd (upd H1 dx (.own x)) x (.ins C dx [])) (fun v H2 => v = .non ∧ Q (.ref x) H2) E
theorem pe_makeS (M : Mk X.K C f) (F : FnR X.prog X.w X.K X.mg X.base CX k f sp) (hr : Room (k + 1) X.A) (hg : Gl X x) (hm : X.mg x = some (.ref C)) (hx : Passes CX X E) (he : PE X e te) (hd : (x == ("__debug__" : Str)) = false := by decide)
    (hst : starEach [.Starred e ps_] X.env = [(true, eval e X.env)] := by rfl) : PE X (.Call (.Name x pp) [.Starred e ps_] [] pos) (tMakeS X.K C sp E te) := by
  refine ⟨fun pins s σ H Q I h => ?_⟩
  refine wpAny_Call_Name_kw (ld_glob I hg hm ?_ hd)
  refine PySem.W.callWith_S (h₀ := X.base) I.ok.mod.kin M.kp (thn (he.run pins s σ H _ I h) fun v s1 ⟨y, H1, I1, ry, a, xs, ey, hxs, q⟩ => ?_) hst
  subst ey
  obtain rfl : v = Value.ref a := ry
  exact StX.star_any I1 hxs fun us s2 I2 rv => ⟨I2.kIn, StX.run_makeR M F hr hx I2 rv q⟩
/-- a made instance by a positional promise, no argument -/
def rStrOwn (C : Addr) (sp : Sp) (E : XK) : List V → Hp → VK → Prop := fun xs H Q => ∃ a dx fs, xs = [.ref a] ∧ H a = some (.ins C dx fs) ∧ sp [.ref a] H (fun v H' => (∃ z : Str, v = .str z) ∧ Q v H') E
theorem call_strOwn (hs : PySem.W.findIn X.K (.ref C) "__str__" = some (some (.ref g))) (hf : PySem.W.isFn X.K (.ref g) = true) (F : FnR X.prog X.w X.K X.mg X.base CX n g sp) (hr : Room (n + 2) X.A) (hx : Passes CX X E) : CallR X (.type "str") (rStrOwn C sp E) := by
  intro pins s σ H xs us Q I r h
  obtain ⟨a, dx, fs, rfl, ha, q⟩ := h
  obtain rfl := r.ref1
  obtain ⟨ox, od, J, _⟩ := ins_at I ha
  have hr1 : Room (n + 1) X.A.in1 := hr.in1
  refine PySem.W.kso_call hr1.in1.units0 I.kIn J hs hf ?_
  refine wpAny_call (codeAny_mono (F X.A.in1.in1 X.stack s H [.ref a] [.ref a] _ E hr1.in1 I.env0.in1.in1 (.cons rfl .nil) q) fun r s' hq => ?_)
  cases r with
  | error er => exact hx pins σ H s er s' I hq
  | ok fl =>
    cases fl with
    | ret u =>
      obtain ⟨v, H', I3, rv, ⟨z, ez⟩, q3⟩ := I.after hq
      subst ez
      obtain ⟨tz, rfl⟩ := rv
      exact ⟨V.str z, H', I3, ⟨tz, rfl⟩, q3⟩
    | next => exact False.elim hq
    | brk => exact False.elim hq
    | cont => exact False.elim hq
/-- f(k = v, ..), f an instance of C -/
def tCallOK (C : Addr) (sk : List V → List V → Hp → VK → XK → Prop) (E : XK) (tf : TE) (tk : TA) (n : Nat) : TE := fun σ H Q => tf σ H fun y H1 => ∃ a, y = V.ref a ∧ tk σ H1 fun zs H2 => (∃ dx fs, H2 a = some (.ins C dx fs)) ∧ zs.length = n ∧ sk [.ref a] zs H2 Q E
theorem pe_callOK {fe : Expr} (hf : PE X fe tf) (c : StX.CallO X.K C g) (F : FnK X.prog X.w X.K X.mg X.base CX k g ks sk) (hr : Room k X.A) (hx : Passes CX X E) (hkw : PK X kws tk)
    (ht : eval (.Call fe [] kws pos) X.env = (do callWith pos (← eval fe X.env) [] (backTo pos (starEach [] X.env)) (backToKw pos (keywordEach kws X.env))) := by rfl)
    (hall : (backToKw pos (keywordEach kws X.env)).all (·.1.isSome) = true := by rfl) (hks : (backToKw pos (keywordEach kws X.env)).filterMap (·.1) = ks := by rfl)
    (hpl : ((backTo pos (starEach [] X.env)).any (·.1) || (backToKw pos (keywordEach kws X.env)).any (·.1.isNone)) = false := by rfl) : PE X (.Call fe [] kws pos) (tCallOK C sk E tf tk ks.length) := by
  refine ⟨fun pins s σ H Q I h => ?_⟩
  rw [ht]
  refine wpAny_bind (thn (hf.run pins s σ H _ I h) fun u s1 ⟨y, H1, I1, ry, a, ey, q⟩ => ?_)
  subst ey
  obtain rfl : u = Value.ref a := ry
  unfold callWith
  refine wpAny_bind (wpAny_holding (PyProof.Rows.evalArgs_kw2_nil hall (thn (hkw.run pos pins s1 σ H1 _ I1 q) fun ws s2 ⟨zs, H2, I2, rz, ⟨dx, fs, ha⟩, hz, q2⟩ => ?_)))
  refine wpAny_bind (wpAny_standAt ?_)
  obtain ⟨ox, od, J, hd⟩ := ins_at I2 ha
  have L := PySem.W.kco_keeper (M := model X.prog X.w) J hd
  simp only [hpl]
  refine wpAny_bind (L.here ?_)
  have tail : ∀ {t : Sem Value}, wpAny (model X.prog X.w) X.A t (EP X pins σ Q) X.xe s2 → wpAny (model X.prog X.w) X.A (t >>= fun r => holding [r] point >>= fun _ => pure r) (EP X pins σ Q) X.xe s2 :=
    fun ht => wpAny_bind (wpAny_mono ht (fun r s₂ hr => wpAny_bind (wpAny_holding (wpAny_point (wpAny_pure hr)))) fun _ _ y => y)
  refine tail (wpAny_operateT ?_)
  rw [hks]
  refine wpAny_call (PySem.W.kco_code I2.kIn J hd c.at_ c.fn c.fi ?_)
  refine codeAny_mono (F X.A X.stack s2 H2 [.ref a] ws [.ref a] zs Q E hr I2.env0 (.cons rfl .nil) rz hz q2) fun r s' hq => ?_
  cases r with
  | error e => exact hx pins σ H2 s2 e s' I2 hq
  | ok fl =>
    cases fl with
    | ret u => exact I2.after hq
    | next => exact False.elim hq
    | brk => exact False.elim hq
    | cont => exact False.elim hq
end
/-! ### sums of tuples, repeated texts, a tuple once -/
section
variable {X : Cx}
def rSumT (K : PySem.W.Frag) : List V → Hp → VK → Prop := fun vs H Q => ∃ (a : Addr) (ns : List Int), vs = [V.ref a] ∧ SqT K H a (ns.map V.int) ∧ Q (.int ns.sum) H
theorem cr_sumT (hc : X.calm = true) : CallR X (.builtin "sum") (rSumT X.K) := by
  intro pins s σ H xs us Q I r h
  obtain ⟨a, ns, rfl, hT, q⟩ := h
  obtain rfl := r.ref1
  obtain ⟨its, rv, ht, hz⟩ := I.tuple hT
  have hi : IntsAre its ns := rv.ints
  obtain ⟨xs, hx⟩ := hi.allInts.items
  have hn : numsOf its.toArray.toList = ns := by rw [show its.toArray.toList = its from rfl, hi.numsOf]
  rw [hx] at hn
  rw [nums_intItems] at hn
  rw [hx] at ht
  refine PySem.W.ktm_sumG (I.ok.hd hc) ht fun h' tk t' hk => ?_
  rw [preSum_eq, List.take_of_length_le (by simp), hn]
  exact ⟨.int ns.sum, H, I.kept (t' := tk) hk, ⟨t', rfl⟩, q⟩
/-- a text so many times -/
def repStr (x : Str) (n : Nat) : Str := ⟨(List.replicate n x.cps.toList).flatten.toArray⟩
def rMulS : R2 := fun x y H Q => ∃ (z : Str) (n : Int), x = .str z ∧ y = .int n ∧ 0 ≤ n ∧ n ≤ 100000 ∧ z.length ≤ 100 ∧ Q (.str (repStr z n.toNat)) H
theorem rep_fold (c : Array Nat) : ∀ (m : Nat) (acc : Array Nat), (List.replicate m c).foldl (· ++ ·) acc = ⟨acc.toList ++ (List.replicate m c.toList).flatten⟩
  | 0, acc => by simp
  | m + 1, acc => by
    rw [List.replicate_succ, List.foldl_cons, rep_fold c m]
    simp [List.replicate_succ]
theorem op_mulS : OpR X (binaryOp .Mult) rMulS := by
  intro pins s σ H x y v u Q I rx ry h
  obtain ⟨z, n, rfl, rfl, h0, h1, hz, q⟩ := h
  obtain ⟨t, rfl⟩ := rx
  obtain ⟨t', rfl⟩ := ry
  have b1 : (decide (n < -(2 ^ 63 : Int)) || decide (n ≥ 2 ^ 63)) = false := by
    rw [decide_eq_false (by omega), decide_eq_false (by omega)] <;> rfl
  have hm : z.length * n.toNat ≤ 10000000 := by
    have : z.length * n.toNat ≤ 100 * 100000 := Nat.mul_le_mul hz (by omega)
    omega
  refine PySem.P.mul_str b1 (fun h2 h3 => ?_) (fun h2 h3 => ?_) ?_
  · have hz' : ((z.length : Nat) : Int) ≤ 100 := by omega
    have : (100 : Int) ≤ (2 ^ 63 - 1) / n := by
      have := Int.le_ediv_iff_mul_le (a := 100) (b := 2 ^ 63 - 1) (c := n) (by omega)
      rw [this]
      omega
    omega
  · show decide _ = false
    refine decide_eq_false ?_
    rw [sizeLine_eq]
    omega
  · by_cases c1 : n < 1
    · rw [if_pos c1]
      have e : n.toNat = 0 := by omega
      rw [e] at q
      exact ⟨by decide, V.str (repStr z 0), H, I.tok _, ⟨_, rfl⟩, q⟩
    · rw [if_neg c1]
      by_cases c2 : (n == 1 || z.length == 0) = true
      · rw [if_pos c2]
        have e : repStr z n.toNat = z := by
          rcases Bool.or_eq_true_iff.mp c2 with c2 | c2
          · have e1 : n.toNat = 1 := by
              have := beq_iff_eq.mp c2
              omega
            unfold repStr
            rw [e1]
            obtain ⟨c⟩ := z
            simp
          · have e1 : z.cps.size = 0 := beq_iff_eq.mp c2
            obtain ⟨c⟩ := z
            have e2 : c.toList = [] := by
              have : c.toList.length = 0 := by rw [Array.length_toList]; exact e1
              exact List.eq_nil_of_length_eq_zero this
            unfold repStr
            simp only [e2]
            have : (List.replicate n.toNat ([] : List Nat)).flatten = [] := by simp
            rw [this]
            have : c = #[] := by
              apply Array.ext'
              rw [e2]
            rw [this]
        rw [e] at q
        exact ⟨V.str z, H, I, ⟨t, rfl⟩, q⟩
      · rw [if_neg c2]
        have e : (⟨(List.replicate n.toNat z.cps).foldl (· ++ ·) #[]⟩ : Str) = repStr z n.toNat := by
          rw [rep_fold]
          rfl
        rw [e]
        have hl : (repStr z n.toNat).length = n.toNat * z.length := by
          show (List.replicate n.toNat z.cps.toList).flatten.toArray.size = _
          rw [List.size_toArray, PyProof.Rows.lm_len_rep_flat, Array.length_toList]
          rfl
        refine ⟨?_, V.str (repStr z n.toNat), H, I.tok _, ⟨_, rfl⟩, q⟩
        rw [hl, sizeLine_eq, Nat.mul_comm]
        omega
end
end HP
/-! enumerate over a tuple, over a text. -/
namespace HP
open PySem PySem.Spec PyProof.Rows L2
theorem meets_enum1 {v : Value} {o : Obj} {Hb : Heap → Prop} (B : Begins v o Hb) :
    Meets (Builtin.«enumerate.__new__» ⟨[.type "enumerate", v], []⟩) (fun _ R s => Hb s.heap ∧
      R (.ok (.ret (.ref (s.heap.push o).objs.size))) { s with heap := (s.heap.push o).push { cls := .type "enumerate", data := .fields #[.none, .bool false, .ref s.heap.objs.size, rawInt 0, .none, .none] } }) :=
  .of_wp fun prog w A R s h => by
    obtain ⟨hp, g, d, tk, os⟩ := s
    obtain ⟨h1, h⟩ := h
    have hsub := sub_enumerate
    have q1 : ∀ {A : Around} {E : Value → Shared → Prop} {tk : Nat} {Q : Value → Shared → Prop}, Q (.ref hp.objs.size) ⟨hp.push o, g, d, tk, os⟩ → wpAny (model prog w) A (pyIter v) Q E ⟨hp, g, d, tk, os⟩ := fun q => B.iter _ _ _ _ _ _ h1 q
    wp_walk using q1
    refine wpAny_stack_any fun st => wpAny_pure ?_
    split
    · rename_i c _ _ _ _ _
      cases (c == Value.type "enumerate")
      · wp_walk using q1
        exact ⟨_, rfl, h⟩
      · wp_walk using q1
        exact ⟨_, rfl, h⟩
    · wp_walk using q1
      exact ⟨_, rfl, h⟩
theorem enum_begin1 {prog : Program} {w : World} {A : Around} {E : Value → Shared → Prop} {s : Shared} {v : Value} {o : Obj} {Hb : Heap → Prop} {Q : Value → Shared → Prop} (B : Begins v o Hb) (h1 : Hb s.heap)
    (h : ∀ h', IsEnum h' (s.heap.objs.size + 1) s.heap.objs.size 0 .none → h'.get? s.heap.objs.size = some o → (∀ b o, s.heap.get? b = some o → h'.get? b = some o) → Q (.ref (s.heap.objs.size + 1)) { s with heap := h' }) :
    wpAny (model prog w) A (call (.type "enumerate") [v]) Q E s := by
  refine callType_new F.called_enumerate (by decide) (F.typeCall_enumerate_1 _) (F.newCall_enumerate_1 _) (fun obj => F.args_object_init_2 obj _) F.entry_enumerate_new (meets_enum1 B) ⟨h1, ?_⟩
  have hz : (s.heap.push o).objs.size = s.heap.objs.size + 1 := Heap.size_push ..
  show _ ∧ _
  rw [hz]
  have he : IsEnum ((s.heap.push o).push { cls := .type "enumerate", data := .fields #[.none, .bool false, .ref s.heap.objs.size, rawInt 0, .none, .none] }) (s.heap.objs.size + 1) s.heap.objs.size 0 .none := by
    have := Heap.get?_push_size (s.heap.push o) (o := { cls := .type "enumerate", data := .fields #[.none, .bool false, .ref s.heap.objs.size, rawInt 0, .none, .none] }) rfl
    rw [hz] at this
    exact this
  exact ⟨⟨_, he, rfl⟩, h _ he (Heap.get?_push_of_some _ (Heap.get?_push_size _ B.free)) fun b o x => Heap.get?_push_of_some _ (Heap.get?_push_of_some _ x)⟩
/-- the pairs of a row of values -/
def ItE (n : Nat) (at_ : Nat → V) : It :=
  ⟨fun i _ => i < n, fun i H v H' => ∃ T, v = .ref T ∧ H T = none ∧ H' = upd H T (.tup [.int (i : Nat), at_ i]), fun i _ => i = n⟩
/-- a turn of enumerate over what draws -/
theorem enum_turn {X : Cx} {pins : List (Addr × Obj)} {σ : L2.St} {H : Hp} {s : Shared} {E : Value → Shared → Prop} {elts : List Expr} {kk : Nat} {tpos : Pos} {e it : Addr} {fpd : List Addr} {n i : Nat} {P : Nat → Value → Prop} {St : Nat → Heap → Prop} {old : Value} {x : V}
    (I : Inv X pins σ H s) (hf : ∀ b ∈ [e, it], FpOk X pins H b) (D : Draws X.prog X.w X.A.in1 it fpd n P St) (he : IsEnum s.heap e it ((i : Nat) : Int) old) (hst : St i s.heap) (hi : i < n) (hne : e ≠ it) (hef : e ∉ fpd) (hit : it < s.heap.objs.size) (hP : ∀ u, P i u → RelV x u) :
    wpAny (model X.prog X.w) X.A (pyNext (.ref e)) (fun r s1 => ∃ u, r = some u ∧
      wpAny (model X.prog X.w) X.A (letOwnedTupleGo (.Tuple elts kk tpos) (.ref e) u) (fun _ s2 => ∃ T old', IsEnum s2.heap e it ((i + 1 : Nat) : Int) old' ∧ (∃ h1, St (i + 1) h1 ∧ ∀ b o, b ≠ e → h1.get? b = some o → s2.heap.get? b = some o) ∧
        u = .ref T ∧ H T = none ∧ Inv X pins σ (upd H T (.tup [.int (i : Nat), x])) s2 ∧ ∀ b ∈ [e, it], (upd H T (.tup [.int (i : Nat), x])) b = none) E s1) E s := by
  have hel : e < s.heap.objs.size := Heap.lt_size he
  refine wpAny_pyNext_enum_itemD D he hst hi hne hef fun xv h' tk hPx ho hst' hT hsz hk => ?_
  refine ⟨_, rfl, wpAny_letOwnedTupleGo_enum (s := { s with heap := h', toks := tk + 1 }) ho fun h'' he' sb => ?_⟩
  have hT2 : h''.get? s.heap.objs.size = some { cls := .type "tuple", data := .seq #[.int i tk, xv] } := (sb.2 _ (Nat.ne_of_gt hel)).trans hT
  have new : ObjOk X.prog X.w (upd H s.heap.objs.size (.tup [.int (i : Nat), x])) h'' s.heap.objs.size (.tup [.int (i : Nat), x]) :=
    ⟨by show 2 ≤ sizeLine; decide, [.int i tk, xv], .cons ⟨_, rfl⟩ (.cons (hP xv hPx) .nil), ⟨_, hT2, rfl, _, rfl⟩⟩
  have I1 : Inv X pins σ (upd H s.heap.objs.size (.tup [.int (i : Nat), x])) { s with heap := h'', toks := tk + 1 } :=
    I.turnedNew (ch := [e, it]) (fun b ob hb q => (sb.2 b (fun z => hb (by simp [z]))).trans (hk b ob (fun z => hb (by simp [z])) (fun z => hb (by simp [z])) q)) hf (Nat.le_refl _) new
  refine ⟨s.heap.objs.size, xv, ?_, ⟨h', hst', fun b o hb q => (sb.2 b hb).trans q⟩, rfl, I.hok.fresh (Nat.le_refl _), I1, fun b hb => ?_⟩
  · have e1 : ((i + 1 : Nat) : Int) = (i : Int) + 1 := by omega
    rw [e1]
    exact he'
  · have hb' : b < s.heap.objs.size := by
      have e' : b = e ∨ b = it := by simpa using hb
      rcases e' with z | z
      · rw [z]; exact hel
      · rw [z]; exact hit
    rw [upd_ne (Nat.ne_of_lt hb')]
    exact (hf b hb).1
/-! ### over a text -/
def atS (x : Str) (i : Nat) : V := .str ⟨#[x.cps.getD i 0]⟩
theorem turn_enumS {P : Program} {w : World} {K : PySem.W.Frag} {elts : List Expr} {kk : Nat} {tpos : Pos} (x : Str) (t : Tok) (e it : Addr) :
    Turn P w K (.Tuple elts kk tpos) (ItE x.cps.size (atS x)) [e, it] e (fun i h => (∃ old, IsEnum h e it ((i : Nat) : Int) old) ∧ h.IsStrIter it (strIterType x) x t i ∧ e ≠ it) where
  mem := by simp
  obj := fun i h st b hb => by
    obtain ⟨⟨old, he⟩, ⟨o, ho, hc, hd⟩, _⟩ := st
    have e' : b = e ∨ b = it := by simpa using hb
    rcases e' with z | z
    · rw [z]; exact ⟨_, he, fun v q => nomatch q⟩
    · rw [z]; exact ⟨o, ho, fun v q => by rw [hd] at q; cases q⟩
  keep := fun i h h' st k => by
    obtain ⟨⟨old, he⟩, ⟨o, ho, r⟩, hne⟩ := st
    exact ⟨⟨old, k e (by simp) _ he⟩, ⟨o, k it (by simp) o ho, r⟩, hne⟩
  item := by
    intro X hP hw hK hc i pins s σ H E I hf st hg
    subst hP hw hK
    obtain ⟨⟨old, he⟩, hit, hne⟩ := st
    have hi : i < x.cps.size := hg
    have hil : it < s.heap.objs.size := by obtain ⟨_, q, _⟩ := hit; exact Heap.lt_size q
    refine thn (enum_turn (elts := elts) (kk := kk) (tpos := tpos) (x := atS x i) I hf (Draws.text (A := X.A.in1) (I.ok.hd hc) it x t) he hit hi hne (by simpa using hne) hil (fun u hu => ?_)) fun r s1 h1 => ?_
    · obtain ⟨c, u', hc', rfl⟩ := hu
      refine ⟨u', ?_⟩
      show Value.str ⟨#[c]⟩ u' = Value.str ⟨#[x.cps.getD i 0]⟩ u'
      have : x.cps.getD i 0 = c := by
        rw [Array.getD_eq_getD_getElem?, hc']
        rfl
      rw [this]
    · obtain ⟨u, rfl, h2⟩ := h1
      refine ⟨u, rfl, thn h2 fun _ s2 ⟨T, old', h3, ⟨h4, h5, h6⟩, h7, h8, h9, h10⟩ => ?_⟩
      subst h7
      refine ⟨.ref T, _, h9, rfl, ⟨T, rfl, h8, rfl⟩, ⟨⟨old', h3⟩, ?_, hne⟩, h10⟩
      obtain ⟨o, ho, r⟩ := h5
      exact ⟨o, h6 it o (Ne.symm hne) ho, r⟩
  done := by
    intro X hP hw hK hc i pins s σ H E I hf st hg
    subst hP hw hK
    obtain ⟨⟨old, he⟩, hit, hne⟩ := st
    obtain ⟨f0, f1, f2, f3, f4, f5⟩ := hf it (by simp)
    have hi : i = x.cps.size := hg
    subst hi
    have D := Draws.text (prog := X.prog) (w := X.w) (A := X.A.in1) (I.ok.hd hc) it x t
    exact wpAny_pyNext_enum_endD D he hit fun h' eb => ⟨rfl, I.turned (t' := s.toks) (fun b o hb q => eb b o hb q) f0 f1 f3 f4 f5⟩
  self := fun A i s Q E st h => let ⟨⟨_, he⟩, _⟩ := st; wpAny_pyIter_enum he h
def iEnumS (ta : TA) : TI := fun σ H R => ta σ H fun vs H1 => ∃ x : Str, vs = [.str x] ∧ R (ItE x.cps.size (atS x)) H1
theorem pi_enumS {X : Cx} {e : Expr} {ta : TA} {p pos tpos : Pos} {elts : List Expr} {kk : Nat} (hg : Gl X "enumerate") (hm : X.mg "enumerate" = none) (ha : PA X [e] ta) (hs : starEach [e] X.env = [(false, eval e X.env)] := by rfl) :
    PI X (.Tuple elts kk tpos) (.Call (.Name "enumerate" p) [e] [] pos) (iEnumS ta) := by
  refine ⟨fun pins s σ H R I h => ?_⟩
  refine Call_ (ld_blt I hg hm boot_enumerate (PyProof.Rows.callWith_type1 (thn (ha.run pos pins s σ H _ I h) fun us s1 ⟨vs, H1, I1, r1, q1⟩ => ?_) hs rfl))
  obtain ⟨x, ex, q⟩ := q1
  subst ex
  obtain ⟨u, rfl, ru⟩ := vals1 r1
  obtain ⟨t, rfl⟩ := ru
  refine enum_begin1 (begins_text x t) trivial fun h' he ho hk => wpAny_pyIter_enum he ?_
  have I2 : Inv X pins σ H1 { s1 with heap := h' } := I1.kept (t' := s1.toks) hk
  refine ⟨s1.heap.objs.size + 1, [s1.heap.objs.size + 1, s1.heap.objs.size], _, _, H1, rfl, I2, turn_enumS x t (s1.heap.objs.size + 1) s1.heap.objs.size, ⟨⟨.none, he⟩, ⟨_, ho, rfl, rfl⟩, Nat.succ_ne_self _⟩, fun b hb => ?_, q⟩
  have e' : b = s1.heap.objs.size + 1 ∨ b = s1.heap.objs.size := by simpa using hb
  have hle : s1.heap.objs.size ≤ b := by
    rcases e' with z | z
    · rw [z]; exact Nat.le_add_right _ _
    · rw [z]; exact Nat.le_refl _
  exact I1.fpOk hle (I1.hok.fresh hle)
/-! ### over a tuple -/
def ItET (K : PySem.W.Frag) (t : Addr) : It :=
  ⟨fun i H => ∃ xs x, SqT K H t xs ∧ xs[i]? = some x, fun i H v H' => ∃ T x, v = .ref T ∧ H T = none ∧ H' = upd H T (.tup [.int (i : Nat), x]) ∧ ∀ xs, SqT K H t xs → xs[i]? = some x, fun i H => ∃ xs, SqT K H t xs ∧ i = xs.length⟩
theorem turn_enumT {P : Program} {w : World} {K : PySem.W.Frag} {elts : List Expr} {kk : Nat} {tpos : Pos} (t e it : Addr) :
    Turn P w K (.Tuple elts kk tpos) (ItET K t) [e, it] e (fun i h => (∃ old, IsEnum h e it ((i : Nat) : Int) old) ∧ h.IsTupleIter it t i ∧ e ≠ it) where
  mem := by simp
  obj := fun i h st b hb => by
    obtain ⟨⟨old, he⟩, ⟨o, ho, hc, hd⟩, _⟩ := st
    have e' : b = e ∨ b = it := by simpa using hb
    rcases e' with z | z
    · rw [z]; exact ⟨_, he, fun v q => nomatch q⟩
    · rw [z]; exact ⟨o, ho, fun v q => by rw [hd] at q; cases q⟩
  keep := fun i h h' st k => by
    obtain ⟨⟨old, he⟩, hit, hne⟩ := st
    exact ⟨⟨old, k e (by simp) _ he⟩, hit.at fun o q => k it (by simp) o q, hne⟩
  item := by
    intro X hP hw hK hc i pins s σ H E I hf st hg
    subst hP hw hK
    obtain ⟨⟨old, he⟩, hit, hne⟩ := st
    obtain ⟨xs, x, hT, hx⟩ := hg
    obtain ⟨its, rv, ht, hz⟩ := I.tuple hT
    have hi : i < its.toArray.size := by
      rw [List.size_toArray, ← rv.length]
      exact (List.getElem?_eq_some_iff.mp hx).1
    have hil : it < s.heap.objs.size := by obtain ⟨_, q, _⟩ := hit; exact Heap.lt_size q
    obtain ⟨ot, hot, hct, nt, hdt⟩ := id ht
    have tne : ∀ b, b = e ∨ b = it → t ≠ b := by
      rintro b (rfl | rfl) rfl
      · rw [he] at hot; cases hot; simp at hct
      · obtain ⟨o2, ho2, hc2, _⟩ := hit
        rw [ho2] at hot; cases hot; rw [hc2] at hct; simp at hct
    have D := Draws.tuple (prog := X.prog) (w := X.w) (A := X.A.in1) (I.ok.hd hc) it t (tne it (.inr rfl)) its.toArray
    refine thn (enum_turn (elts := elts) (kk := kk) (tpos := tpos) (x := x) I hf D he ⟨hit, ht⟩ hi hne (by simp [hne, (tne e (.inl rfl)).symm]) hil (fun u hu => ?_)) fun r s1 h1 => ?_
    · obtain ⟨u', hu', ru⟩ := rv.get hx
      have : u = u' := by
        have h2 : its[i]? = some u := by simpa using hu
        rw [h2] at hu'
        exact Option.some.inj hu'
      rw [this]
      exact ru
    · obtain ⟨u, rfl, h2⟩ := h1
      refine ⟨u, rfl, thn h2 fun _ s2 ⟨T, old', h3, ⟨h4, ⟨h5, h5'⟩, h6⟩, h7, h8, h9, h10⟩ => ?_⟩
      subst h7
      refine ⟨.ref T, _, h9, rfl, ⟨T, x, rfl, h8, rfl, fun ys hy => by rw [I.tuple_inj hy hT]; exact hx⟩, ⟨⟨old', h3⟩, h5.at fun o q => h6 it o (Ne.symm hne) q, hne⟩, h10⟩
  done := by
    intro X hP hw hK hc i pins s σ H E I hf st hg
    subst hP hw hK
    obtain ⟨⟨old, he⟩, hit, hne⟩ := st
    obtain ⟨f0, f1, f2, f3, f4, f5⟩ := hf it (by simp)
    obtain ⟨xs, hT, hi⟩ := hg
    obtain ⟨its, rv, ht, hz⟩ := I.tuple hT
    have hn : its.toArray.size = i := by
      rw [List.size_toArray, ← rv.length, hi]
    obtain ⟨ot, hot, hct, nt, hdt⟩ := id ht
    have tne : t ≠ it := by
      rintro rfl
      obtain ⟨o2, ho2, hc2, _⟩ := hit
      rw [ho2] at hot; cases hot; rw [hc2] at hct; simp at hct
    have D := Draws.tuple (prog := X.prog) (w := X.w) (A := X.A.in1) (I.ok.hd hc) it t tne its.toArray
    refine wpAny_pyNext_enum_endD D he (by rw [hn]; exact ⟨hit, ht⟩) fun h' eb => ⟨rfl, I.turned (t' := s.toks) (fun b o hb q => eb b o hb q) f0 f1 f3 f4 f5⟩
  self := fun A i s Q E st h => let ⟨⟨_, he⟩, _⟩ := st; wpAny_pyIter_enum he h
def iEnumT (K : PySem.W.Frag) (ta : TA) : TI := fun σ H R => ta σ H fun vs H1 => ∃ a xs, vs = [.ref a] ∧ SqT K H1 a xs ∧ R (ItET K a) H1
theorem pi_enumT {X : Cx} {e : Expr} {ta : TA} {p pos tpos : Pos} {elts : List Expr} {kk : Nat} (hg : Gl X "enumerate") (hm : X.mg "enumerate" = none) (ha : PA X [e] ta) (hs : starEach [e] X.env = [(false, eval e X.env)] := by rfl) :
    PI X (.Tuple elts kk tpos) (.Call (.Name "enumerate" p) [e] [] pos) (iEnumT X.K ta) := by
  refine ⟨fun pins s σ H R I h => ?_⟩
  refine Call_ (ld_blt I hg hm boot_enumerate (PyProof.Rows.callWith_type1 (thn (ha.run pos pins s σ H _ I h) fun us s1 ⟨vs, H1, I1, r1, q1⟩ => ?_) hs rfl))
  obtain ⟨a, xs, ex, hT, q⟩ := q1
  subst ex
  obtain rfl := r1.ref1
  obtain ⟨its, rv, ht, hz⟩ := I1.tuple hT
  refine enum_begin1 (begins_tuple a its.toArray) ht fun h' he ho hk => wpAny_pyIter_enum he ?_
  have I2 : Inv X pins σ H1 { s1 with heap := h' } := I1.kept (t' := s1.toks) hk
  refine ⟨s1.heap.objs.size + 1, [s1.heap.objs.size + 1, s1.heap.objs.size], _, _, H1, rfl, I2, turn_enumT a (s1.heap.objs.size + 1) s1.heap.objs.size, ⟨⟨.none, he⟩, ⟨_, ho, rfl, rfl⟩, Nat.succ_ne_self _⟩, fun b hb => ?_, q⟩
  have e' : b = s1.heap.objs.size + 1 ∨ b = s1.heap.objs.size := by simpa using hb
  have hle : s1.heap.objs.size ≤ b := by
    rcases e' with z | z
    · rw [z]; exact Nat.le_add_right _ _
    · rw [z]; exact Nat.le_refl _
  exact I1.fpOk hle (I1.hok.fresh hle)
end HP
/-! more checks of the written part -/
namespace HP
open PySem PySem.Spec PyProof.Rows L2
/-- no in-place method -/
def kNoin (C : Str) (nm : String) (K : PySem.W.Frag) : Bool := noInpl K (gA C K) (PySem.dunderI nm)
/-- what isinstance asks of an instance -/
def kIns (C : Str) (K : PySem.W.Frag) : Bool := He.eqO (PySem.W.findIn K (.ref (gA C K)) "__class__") (some (some (.builtin "object.__class__"))) &&
  (He.eqO (PySem.W.specialIn K (.builtin "object.__class__") "__get__") (some (some (.builtin "getset_descriptor.__get__"))) && (decide (PySem.W.takesIn K (.builtin "object.__class__") = some true) && decide (PySem.W.mroIn K (gA C K) (.type "object") = some true)))
theorem kIns_ok {C : Str} {K : PySem.W.Frag} (c : kIns C K = true) (cl : Cls K (gA C K)) {H : Hp} {a dx : Addr} {fs : List (Str × V)} (e : H a = some (.ins (gA C K) dx fs)) : TyX K H (.ref a) (.ref (gA C K)) := by
  obtain ⟨c1, c⟩ := He.ba c
  obtain ⟨c2, c⟩ := He.ba c
  obtain ⟨c3, c4⟩ := He.ba c
  exact .base (.ins e cl (He.eqO_ok c1) (He.eqO_ok c2) (of_decide_eq_true c3) (of_decide_eq_true c4))
theorem kit_self {K : PySem.W.Frag} {t : Value} (h : (t == t) = true) : PySem.W.kitOne K t t = some true := by
  unfold PySem.W.kitOne
  rw [if_pos h]
theorem kInt_ok {x : Str} {i : Int} {K : PySem.W.Frag} (c : kInt x i K = true) : ∃ t, PySem.W.nsIn K mainGlobals x = some (some (.int i t)) := by
  have z : (match PySem.W.nsIn K mainGlobals x with
    | some (some (.int j _)) => decide (j = i)
    | _ => false) = true := c
  cases q : PySem.W.nsIn K mainGlobals x with
  | none =>
    rw [q] at z
    cases z
  | some r =>
    rw [q] at z
    cases r with
    | none => cases z
    | some v =>
      cases v with
      | int j t =>
        have e : j = i := of_decide_eq_true z
        rw [e]
        exact ⟨t, rfl⟩
      | _ => cases z
def kRgt (C : Str) (K : PySem.W.Frag) : Bool := rightsB K (gA C K)
def kNe (C : Str) (K : PySem.W.Frag) : Bool := He.eqO (PySem.W.findIn K (.ref (gA C K)) "__ne__") (some (some (.builtin "object.__ne__"))) && decide (PySem.W.subIn K (.ref (gA C K)) (.type "object") = some true)
theorem kNe_ok {C : Str} {K : PySem.W.Frag} (c : kNe C K = true) : PySem.W.findIn K (.ref (gA C K)) "__ne__" = some (some (.builtin "object.__ne__")) ∧ PySem.W.subIn K (.ref (gA C K)) (.type "object") = some true := by
  obtain ⟨a, b⟩ := He.ba c
  exact ⟨He.eqO_ok a, of_decide_eq_true b⟩
def kSmet (C m : Str) (K : PySem.W.Frag) : Bool :=
  PySem.W.readsIn K (gA C K) (.type "type") &&
  (He.eqO (PySem.W.specialIn K (.ref (gA C K)) "__getattribute__") (some (some (.builtin "type.__getattribute__"))) &&
  ((match PySem.W.findCls K (.ref (gA C K)) (.type "type") m with
    | some (.get (.builtin b) (.ref p) .none (.ref c)) => decide (b = "staticmethod.__get__") && (decide (p = mA C m K) && decide (c = gA C K))
    | _ => false) &&
  ((match PySem.W.recIn K (mA C m K) "staticmethod" with
    | some (.ref _ :: _) => true
    | _ => false) &&
  PySem.W.keepIn K (.ref (rA C m "staticmethod" K)))))
theorem kSmet_ok {C m : Str} {K : PySem.W.Frag} (c : kSmet C m K = true) : SMet K (gA C K) (.type "type") m (mA C m K) (rA C m "staticmethod" K) := by
  obtain ⟨c1, c⟩ := He.ba c
  obtain ⟨c2, c⟩ := He.ba c
  obtain ⟨c3, c⟩ := He.ba c
  obtain ⟨c4, c5⟩ := He.ba c
  refine ⟨c1, He.eqO_ok c2, ?_, ?_, c5⟩
  · cases q : PySem.W.findCls K (.ref (gA C K)) (.type "type") m with
    | none =>
      rw [q] at c3
      cases c3
    | some r =>
      rw [q] at c3
      cases r with
      | val v => cases c3
      | get g a o t =>
        cases g <;> try (cases c3)
        cases a <;> try (cases c3)
        cases o <;> try (cases c3)
        cases t <;> try (cases c3)
        obtain ⟨e1, e⟩ := He.ba c3
        obtain ⟨e2, e3⟩ := He.ba e
        rw [of_decide_eq_true e1, of_decide_eq_true e2, of_decide_eq_true e3]
  · cases q : PySem.W.recIn K (mA C m K) "staticmethod" with
    | none =>
      rw [q] at c4
      cases c4
    | some l =>
      rw [q] at c4
      cases l with
      | nil => cases c4
      | cons v r =>
        cases v with
        | ref g =>
          refine ⟨r, ?_⟩
          have e : rA C m "staticmethod" K = g := by
            show recA K (mA C m K) "staticmethod" = g
            unfold recA
            rw [q]
          rw [e]
        | _ => cases c4
def kCallo (C : Str) (K : PySem.W.Frag) : Bool := He.eqO (PySem.W.findIn K (.ref (gA C K)) "__call__") (some (some (.ref (mA C "__call__" K)))) && (PySem.W.isFn K (.ref (mA C "__call__" K)) && PySem.W.fnIn K (mA C "__call__" K))
theorem kCallo_ok {C : Str} {K : PySem.W.Frag} (c : kCallo C K = true) : StX.CallO K (gA C K) (mA C "__call__" K) := by
  obtain ⟨c1, c⟩ := He.ba c
  obtain ⟨c2, c3⟩ := He.ba c
  exact ⟨He.eqO_ok c1, c2, c3⟩
/-- what an operator with an int behind the instance asks besides -/
def kNum (C : Str) (nm : String) (K : PySem.W.Frag) : Bool :=
  (match PySem.W.findIn K (.ref (gA C K)) (PySem.dunderR nm) with
    | some none => true
    | some (some (.ref _)) => true
    | _ => false) &&
  ((PySem.W.findIn K (.type "int") (PySem.dunder nm)).isSome && ((PySem.W.findIn K (.type "int") (PySem.dunderR nm)).isSome && decide (PySem.W.subIn K (.type "int") (.ref (gA C K)) = some false)))
structure NumOf (K : PySem.W.Frag) (C : Addr) (nm : String) : Prop where
  r : ∃ rc, PySem.W.findIn K (.ref C) (PySem.dunderR nm) = some rc ∧ (rc = none ∨ ∃ g : Addr, rc = some (.ref g))
  a : ∃ fo, PySem.W.findIn K (.type "int") (PySem.dunder nm) = some fo
  b : ∃ ro, PySem.W.findIn K (.type "int") (PySem.dunderR nm) = some ro
  s : PySem.W.subIn K (.type "int") (.ref C) = some false
theorem kNum_ok {C : Str} {nm : String} {K : PySem.W.Frag} (c : kNum C nm K = true) : NumOf K (gA C K) nm := by
  obtain ⟨c1, c⟩ := He.ba c
  obtain ⟨c2, c⟩ := He.ba c
  obtain ⟨c3, c4⟩ := He.ba c
  refine ⟨?_, Option.isSome_iff_exists.mp c2, Option.isSome_iff_exists.mp c3, of_decide_eq_true c4⟩
  cases q : PySem.W.findIn K (.ref (gA C K)) (PySem.dunderR nm) with
  | none =>
    rw [q] at c1
    cases c1
  | some r =>
    refine ⟨r, rfl, ?_⟩
    rw [q] at c1
    cases r with
    | none => exact .inl rfl
    | some v =>
      cases v with
      | ref g => exact .inr ⟨g, rfl⟩
      | _ => cases c1
section
variable {X : Cx} {CX : CXT} {n : Nat} {C g : Addr} {sp : Sp} {E : XK} {m : Str}
theorem op_meI {op : Operator} (M : Meth X.K C m g) (hc : PySem.W.selfFirst X.K C = true) (F : FnR X.prog X.w X.K X.mg X.base CX n g sp) (hr : Room n X.A) (hx : Passes CX X E) (he : PySem.dunder op.info.2 = m := by kernel_rfl) :
    OpR X (binaryOp op) (rOwn2 C sp E (isIns C)) := op_ownI (by rw [he]; exact M.at_) M.fn hc F hr hx
theorem op_meN {op : Operator} (M : Meth X.K C m g) (hc : PySem.W.selfFirst X.K C = true) (N : NumOf X.K C op.info.2) (F : FnR X.prog X.w X.K X.mg X.base CX n g sp) (hr : Room n X.A) (hx : Passes CX X E) (he : PySem.dunder op.info.2 = m := by kernel_rfl) :
    OpR X (binaryOp op) (rOwn2 C sp E isInt) := by
  obtain ⟨rc, r1, r2⟩ := N.r
  obtain ⟨fo, a⟩ := N.a
  obtain ⟨ro, b⟩ := N.b
  exact op_ownN (by rw [he]; exact M.at_) M.fn hc r1 r2 a b N.s F hr hx
theorem iop_meI {op : Operator} (hi : noInpl X.K C (PySem.dunderI op.info.2) = true) (M : Meth X.K C m g) (hc : PySem.W.selfFirst X.K C = true) (F : FnR X.prog X.w X.K X.mg X.base CX n g sp) (hr : Room n X.A) (hx : Passes CX X E) (he : PySem.dunder op.info.2 = m := by kernel_rfl) :
    OpR X (inplaceOp op) (rOwn2 C sp E (isIns C)) := iop_ownI hi (by rw [he]; exact M.at_) M.fn hc F hr hx
theorem op_meEq (M : Meth X.K C "__eq__" g) (hT : rightsB X.K C = true) (F : FnR X.prog X.w X.K X.mg X.base CX n g sp) (hr : Room n X.A) (hx : Passes CX X E) : OpR X (compareOp .Eq) (rOwn2 C sp E (okRight X.K C)) :=
  op_ownC (op := .Eq) (fun _ _ => rfl) M.at_ M.fn hT F hr hx
theorem op_meNe (M : Meth X.K C "__eq__" g) (h2 : PySem.W.findIn X.K (.ref C) "__ne__" = some (some (.builtin "object.__ne__")) ∧ PySem.W.subIn X.K (.ref C) (.type "object") = some true) (hT : rightsB X.K C = true)
    (F : FnR X.prog X.w X.K X.mg X.base CX n g sp) (hr : Room (n + 1) X.A) (hx : Passes CX X E) : OpR X (compareOp .NotEq) (rOwnNe X.K C sp E) := op_ownNe M.at_ M.fn h2.1 h2.2 hT F hr hx
theorem op_meIn (M : Meth X.K C "__contains__" g) (F : FnR X.prog X.w X.K X.mg X.base CX n g sp) (hr : Room n X.A) (hx : Passes CX X E) : OpR X (compareOp .In) (rOwnIn C sp E false) := op_ownIn M.at_ M.fn F hr hx
theorem op_meNotIn (M : Meth X.K C "__contains__" g) (F : FnR X.prog X.w X.K X.mg X.base CX n g sp) (hr : Room n X.A) (hx : Passes CX X E) : OpR X (compareOp .NotIn) (rOwnIn C sp E true) := op_ownNotIn M.at_ M.fn F hr hx
theorem call_meStr (M : Meth X.K C "__str__" g) (F : FnR X.prog X.w X.K X.mg X.base CX n g sp) (hr : Room (n + 2) X.A) (hx : Passes CX X E) : CallR X (.type "str") (rStrOwn C sp E) := call_strOwn M.at_ M.fn F hr hx
end
/-! ### the rest of the small rules -/
section
variable {X : Cx} {x : Str} {i : Int}
/-- a global int constant -/
theorem pe_gint {p : Pos} (hg : Gl X x) (hm : ∃ t, X.mg x = some (.int i t)) (hd : (x == ("__debug__" : Str)) = false := by decide) : PE X (.Name x p) (tC (.int i)) := by
  obtain ⟨t, e⟩ := hm
  exact pe_glob hg e ⟨t, rfl⟩ hd
end
end HP
/-! promises from defs -/
namespace HP
open PySem PySem.Spec PyProof.Rows L2
section
variable {P : Program} {w : World} {K : PySem.W.Frag} {mg : Str → Option Value} {base : Heap} {x qual : Str} {params : Arguments} {body : List Stmt} {scope : Scope} {dvs : List V} {f : Addr} {fd : FuncData} {CX : CXT} {N ps ks : List Str} {k n : Nat} {sp : Sp}
theorem raw0 (F : FnOk P w K mg base CX k f fd ps sp) (hb : Binds K fd ps []) : FnR P w K mg base CX k f sp :=
  (F.raw hb .nil).imp fun vs H Q E h => by
    show sp (vs ++ []) H Q E
    rw [List.append_nil]
    exact h
/-- all parameters given, no defaults -/
theorem rawN (D : FunD K x qual params body scope [] [] f fd) (F : FnOk P w K mg base CX k f fd ps sp)
    (h : ∀ (kV doc pm : Value) (an : Option Addr) (cdv ct : Value) (us : List Value), us.length = ps.length → bindArgs (PySem.W.fnOf x qual params body scope .none kV doc pm an cdv ct) ⟨us, []⟩ = pure (ps.zip us)) : FnR P w K mg base CX k f sp := raw0 F (D.bindsN h)
/-- n given, the defaults behind the first j fill up -/
theorem rawD (D : FunD K x qual params body scope dvs [] f fd) (F : FnOk P w K mg base CX k f fd ps sp) (n j : Nat) (hd : dvs ≠ []) (hn : n + (dvs.length - j) = ps.length)
    (h : ∀ (T : Addr) (kV doc pm : Value) (an : Option Addr) (cdv ct : Value) (us its : List Value), us.length = n → its.length = dvs.length →
      ∃ k, bindArgs (PySem.W.fnOf x qual params body scope (.ref T) kV doc pm an cdv ct) ⟨us, []⟩ = seqItems? (.ref T) >>= k ∧ k (some its.toArray) = pure (ps.zip (us ++ its.drop j))) : FnR P w K mg base CX k f (fun vs H Q E => sp (vs ++ dvs.drop j) H Q E) := by
  obtain ⟨ds, hv, hb⟩ := D.binds1 n j hd hn h
  exact F.raw hb hv
/-- with keywords, no defaults -/
theorem kbn0 (D : FunD K x qual params body scope [] [] f fd) (F : FnOk P w K mg base CX k f fd ps sp) (n : Nat) (ks : List Str)
    (h : ∀ (kV doc pm : Value) (an : Option Addr) (cdv ct : Value) (us ws : List Value), us.length = n → ws.length = ks.length → bindArgs (PySem.W.fnOf x qual params body scope .none kV doc pm an cdv ct) ⟨us, ks.zip ws⟩ = pure (ps.zip (us ++ ws))) :
    FnK P w K mg base CX k f ks (fun vs zs H Q E => vs.length = n ∧ sp (vs ++ zs) H Q E) := by
  have hb : KBn K fd ps n ks (fun us ws => us ++ ws) (fun vs zs => vs ++ zs) := by
    obtain ⟨oc, od, dV, kV, doc, pm, an, cdv, ct, osl, rfl, lk, hcd, hD, hK⟩ := D.ex
    rcases hD with ⟨_, rfl⟩ | ⟨e, _⟩
    · exact ⟨fun s us ws _ l1 l2 => .of_eq (h kV doc pm an cdv ct us ws l1 l2), fun r1 r2 => r1.append r2⟩
    · exact absurd rfl e
  exact HP.FnOk.kws F hb
/-- def f(a, .., *v) -/
theorem mkStar {pv : Str} (D : FunD K x qual params body scope [] [] f fd) (S : FnScope N (ps ++ [pv]) scope)
    (hb : ∀ (kV doc pm : Value) (an : Option Addr) (cdv ct : Value) (us rest : List Value), us.length = ps.length → bindArgs (PySem.W.fnOf x qual params body scope .none kV doc pm an cdv ct) ⟨us ++ rest, []⟩ = (newTuple rest >>= fun t => pure (ps.zip us ++ [(pv, t)])))
    (hbody : ∀ (cdv : Value) (A : Around) (outer : List Env) (s : Shared) (H : Hp) (vs : List V) (Q : VK) (E : XK), Room k (A.deeper (envOfC qual scope s.heap.objs.size f cdv)) → sp vs H Q E →
      ∃ t, PSs (cxOf (L2.CX P w) P w K mg base N qual scope f cdv A outer s H E) body t ∧ t { nx := fun _ H' => Q .non H', rt := Q } (start N vs) H) :
    FnR P w K mg base (L2.CX P w) (k + 1) f (fun vs H Q E => ∃ ws rest, vs = ws ++ rest ∧ ws.length = ps.length ∧ rest.length ≤ sizeLine ∧ ∀ p, H p = Option.none → sp (ws ++ [V.ref p]) (upd H p (.tup rest)) Q E) := by
  obtain ⟨oc, od, dV, kV, doc, pm, an, cdv, ct, osl, rfl, lk, hcd, hD, hK⟩ := D.ex
  rcases hD with ⟨_, rfl⟩ | ⟨e, _⟩
  · exact StX.fn_star lk hcd S StX.cxUp (hb kV doc pm an cdv ct) fun A outer s H vs Q E hr hsp => hbody cdv A outer s H vs Q E hr hsp
  · exact absurd rfl e
end
section
variable {P : Program} {w : World} {K : PySem.W.Frag} {mg : Str → Option Value} {base : Heap} {N : List Str} {qual : Str} {scope : Scope} {f : Addr} {cd : Value} {A : Around} {outer : List Env} {s : Shared} {H : Hp} {E : XK}
theorem pso : PassesOwn (model P w) (cxOf (L2.CX P w) P w K mg base N qual scope f cd A outer s H E).A (cxOf (L2.CX P w) P w K mg base N qual scope f cd A outer s H E).env (cxOf (L2.CX P w) P w K mg base N qual scope f cd A outer s H E).xe := passes_of rfl
theorem tko : Takes (cxOf (L2.CX P w) P w K mg base N qual scope f cd A outer s H E) (fun cls d _ H => E cls d H) := takes_of rfl rfl rfl rfl
end
end HP
/-! small rules: a tuple so many times, equality of rows of ints -/
namespace HP
open PySem PySem.Spec PyProof.Rows L2
/-! ### rows of ints -/
theorem dpAll_ints {K : PySem.W.Frag} {H : Hp} : ∀ ns : List Int, DpAll K H (ns.map V.int) (ns.map PyData.int)
  | [] => .nil
  | n :: ns => .cons (.int n) (dpAll_ints ns)
theorem eqvAll_ints : ∀ ns ms : List Int, PyData.eqvAll (ns.map PyData.int) (ms.map PyData.int) = decide (ns = ms)
  | [], [] => by simp [PyData.eqvAll]
  | [], _ :: _ => by simp [PyData.eqvAll]
  | _ :: _, [] => by simp [PyData.eqvAll]
  | n :: ns, m :: ms => by
    simp only [List.map_cons, PyData.eqvAll, PyData.eqv, eqvAll_ints ns ms]
    by_cases h : n = m
    · subst h; simp
    · simp [h]
theorem lay_ints : ∀ ns : List Int, PyData.canLayAll0 (ns.map PyData.int) = true
  | [] => by simp [PyData.canLayAll0]
  | n :: ns => by simp [PyData.canLayAll0, PyData.canLay0, lay_ints ns]
theorem depth_ints : ∀ ns : List Int, PyData.depthAll (ns.map PyData.int) = 0
  | [] => by simp [PyData.depthAll]
  | n :: ns => by simp [PyData.depthAll, PyData.depth, depth_ints ns]
theorem shaped_listI (ns : List Int) : SeqAt.shaped (.list (ns.map PyData.int)) = true := by
  simp [SeqAt.shaped, PyData.canLay0, PyData.depth, lay_ints, depth_ints]
theorem shaped_tupI (ns : List Int) : SeqAt.shaped (.tuple (ns.map PyData.int)) = true := by
  simp [SeqAt.shaped, PyData.canLay0, PyData.depth, lay_ints, depth_ints]
def rSeqI (K : PySem.W.Frag) (neg : Bool) : R2 := fun x y H Q => ∃ (a b : Addr) (ns ms : List Int), x = .ref a ∧ y = .ref b ∧ ((SqT K H a (ns.map V.int) ∧ SqT K H b (ms.map V.int)) ∨ (SqL K H a (ns.map V.int) ∧ SqL K H b (ms.map V.int))) ∧
  Q (.bl (if neg then !decide (ns = ms) else decide (ns = ms))) H
section
variable {X : Cx}
theorem OpR.imp {f : Value → Value → Sem Value} {r r' : R2} (h : OpR X f r) (i : ∀ x y H Q, r' x y H Q → r x y H Q) : OpR X f r' := fun pins s σ H x y v u Q I rx ry q => h pins s σ H x y v u Q I rx ry (i x y H Q q)
theorem op_eqI (hu : X.A.units + 64 < cLine) : OpR X (compareOp .Eq) (rSeqI X.K false) := OpR.imp (op_eqD hu) fun x y H Q h => by
  obtain ⟨a, b, ns, ms, rfl, rfl, h, q⟩ := h
  rcases h with ⟨h1, h2⟩ | ⟨h1, h2⟩
  · refine ⟨_, _, .tup h1 (dpAll_ints ns), .tup h2 (dpAll_ints ms), shaped_tupI ns, shaped_tupI ms, ?_⟩
    rw [PyData.eqv, eqvAll_ints]
    exact q
  · refine ⟨_, _, .lst h1 (dpAll_ints ns), .lst h2 (dpAll_ints ms), shaped_listI ns, shaped_listI ms, ?_⟩
    rw [PyData.eqv, eqvAll_ints]
    exact q
theorem op_neI (hu : X.A.units + 64 < cLine) : OpR X (compareOp .NotEq) (rSeqI X.K true) := OpR.imp (op_neD hu) fun x y H Q h => by
  obtain ⟨a, b, ns, ms, rfl, rfl, h, q⟩ := h
  rcases h with ⟨h1, h2⟩ | ⟨h1, h2⟩
  · refine ⟨_, _, .tup h1 (dpAll_ints ns), .tup h2 (dpAll_ints ms), shaped_tupI ns, shaped_tupI ms, ?_⟩
    rw [PyData.eqv, eqvAll_ints]
    exact q
  · refine ⟨_, _, .lst h1 (dpAll_ints ns), .lst h2 (dpAll_ints ms), shaped_listI ns, shaped_listI ms, ?_⟩
    rw [PyData.eqv, eqvAll_ints]
    exact q
end
/-! ### a tuple so many times -/
theorem tuple_mul1 (l : Addr) (items : Array Value) (n : Nat) (dd : Option Addr) (sl : Array (Option Value)) (u : Tok) :
    Meets (Builtin.«tuple.__mul__» ⟨[.ref l, .int 1 u], []⟩) (fun _ R s => s.heap.get? l = some { cls := .type "tuple", dict := dd, data := .seq items n, slots := sl } ∧
      R (.ok (.ret (Value.ref l))) s) :=
  .of_wp fun prog w A R s h => by
    obtain ⟨hp, g, d, tk, os⟩ := s
    obtain ⟨hl, h⟩ := h
    have f1 := AutoSeq1.idx_int
    have c1 : (items.isEmpty || (1 : Int) == 1) = true := by simp
    wp_walk using wpAny_loadPart' hl
    repeat (first
      | (refine wpAny_ite_false (decide_eq_false (by decide)) ?_; wp_walk using wpAny_loadPart' hl)
      | (refine wpAny_ite_true (decide_eq_true (by rw [c1])) ?_; wp_walk using wpAny_loadPart' hl))
    exact ⟨_, rfl, h⟩
def rRepA (K : PySem.W.Frag) : R2 := fun x y H Q => ∃ l k xs, x = .ref l ∧ y = .int k ∧ SqT K H l xs ∧ xs ≠ [] ∧ 1 ≤ k ∧ k ≤ 1000 ∧ xs.length ≤ 1000 ∧
  (k = 1 → Q (.ref l) H) ∧ (2 ≤ k → ∀ p, H p = none → Q (.ref p) (upd H p (.tup (List.replicate k.toNat xs).flatten)))
section
variable {X : Cx}
theorem op_mulT : OpR X (binaryOp .Mult) (rRepA X.K) := by
  intro pins s σ H x y v u Q I rx ry h
  obtain ⟨l, k, xs, ex, ey, hT, hne, h1, h2, hz, q1, q2⟩ := h
  by_cases c : 2 ≤ k
  · exact op_repT pins s σ H x y v u Q I rx ry ⟨l, k, xs, ex, ey, hT, hne, c, h2, hz, q2 c⟩
  · have e1 : k = 1 := by omega
    subst e1 ex ey
    have q := q1 rfl
    cases rx
    obtain ⟨t, rfl⟩ := ry
    obtain ⟨its, r, ⟨⟨cls, dd, data, sl⟩, ho, hc, n, hd⟩, hs⟩ := I.tuple hT
    simp only at hc hd
    subst hc hd
    refine wpAny_binaryOp_repeat_ref (T := "tuple") (U := "int") (by decide) ⟨_, ho, rfl⟩ (fun s' => typeIs_int s' 1 t) noFill_tuple_mul F.fills_int_mul F.slot_int_rmul repeat_tuple F.slot_int_index.lookup
      (call_meets F.slot_int_rmul (typeIs_int s 1 t) F.entry_int_rmul (F.args_int_rmul_2 _ _) (int_rmul_tuple 1 t l its.toArray n dd sl)
        ⟨ho, rfl, ⟨_, ho, rfl⟩, call_meets F.slot_tuple_mul ⟨_, ho, rfl⟩ F.entry_tuple_mul (F.args_tuple_mul_2 _ _) (tuple_mul1 l its.toArray n dd sl t) ⟨ho, ?_⟩⟩)
    exact ⟨.ref l, H, I, rfl, q⟩
end
/-! ### x op= y by an operator's rule -/
def ipR (r : R2) : TIp := fun x y H Q => r x y H Q
theorem ip_of {X : Cx} {op : Operator} {r : R2} (h : OpR X (inplaceOp op) r) : PIp X op (ipR r) := fun pins s σ H x y v u Q I rx ry q => h pins s σ H x y v u Q I rx ry q
end HP
/-! heaps that grow, comprehensions over walks. -/
namespace HP
open PySem PySem.Spec PyProof.Rows L2 Evl
/-- all but the object at p stays -/
def ExB (p : Addr) (H H' : Hp) : Prop := ∀ a o, a ≠ p → H a = some o → H' a = some o
theorem ExB.refl (p : Addr) (H : Hp) : ExB p H H := fun _ _ _ h => h
theorem ExB.trans {p : Addr} {H H1 H2 : Hp} (a : ExB p H H1) (b : ExB p H1 H2) : ExB p H H2 := fun x o n h => b x o n (a x o n h)
theorem ExB.of {p : Addr} {H H1 : Hp} (a : Ex H H1) : ExB p H H1 := fun x o _ h => a x o h
theorem ExB.upd {p : Addr} {H H1 : Hp} {o : HO} (a : ExB p H H1) : ExB p H (upd H1 p o) := fun x u n h => by
  rw [upd_ne n]
  exact a x u n h
/-- what is new since H1 stays -/
def Kn (H1 H H' : Hp) : Prop := ∀ a o, H1 a = none → H a = some o → H' a = some o
theorem Kn.of {H1 H H' : Hp} (e : Ex H H') : Kn H1 H H' := fun a o _ h => e a o h
theorem Kn.ofB {H1 H H' : Hp} {p : Addr} {o : HO} (hp : H1 p = some o) (e : ExB p H H') : Kn H1 H H' := fun a u n h => e a u (fun z => by
  rw [z, hp] at n
  cases n) h
theorem Kn.trans {H1 H H' H2 : Hp} (a : Kn H1 H H') (b : Kn H1 H' H2) : Kn H1 H H2 := fun x o n h => b x o n (a x o n h)
theorem upd_new {H : Hp} {p : Addr} {o : HO} (h : H p = none) : Ex H (upd H p o) := Ex.new h
/-- what a comprehension asks behind its iterable -/
def LcK (J : It) (g : TG) (tt : TT) (te : TE) (vs : List Nat) (σ : L2.St) (H1 : Hp) (Q : VK) : Prop := ∀ D, H1 D = none → ∃ W : Nat → Nat → Hp → Prop, (∃ m, W 0 m (upd H1 D (.lst []))) ∧ ∀ i m H, W i m H →
  (J.stop i H ∧ Q (.ref D) H) ∨ (J.go i H ∧ ∃ Nx : Hp → Prop, (∀ H', Nx H' → ∃ m', m' < m ∧ W (i + 1) m' H') ∧ ∀ x H', J.yld i H x H' → g x (wipe σ vs) H' fun σ2 H2 => wipe σ2 vs = wipe σ vs ∧ tt σ2 H2 fun b H3 =>
    if b = true then te σ2 H3 fun y H4 => ∃ acc, H4 D = some (.lst acc) ∧ acc.length < sizeLine ∧ Nx (upd H4 D (.lst (acc ++ [y]))) else Nx H3)
theorem lc_of {wi : TI} {g : TG} {tt : TT} {te : TE} {vs : List Nat} {σ : L2.St} {H : Hp} {Q : VK} (h : wi σ H fun J H1 => LcK J g tt te vs σ H1 Q) : tLc wi g tt te vs σ H Q := h
theorem lc_seq {wi : TI} {g : TG} {tt : TT} {te : TE} {vs : List Nat} {i : Nat} {rest : TS} {D : Ends} {σ : L2.St} {H : Hp} (h : wi σ H fun J H1 => LcK J g tt te vs σ H1 fun x H2 => rest D (σ.set i (some x)) H2) :
    tSeq (tAsg (tLc wi g tt te vs) (gName i)) rest D σ H := h
theorem lc_ret {wi : TI} {g : TG} {tt : TT} {te : TE} {vs : List Nat} {D : Ends} {σ : L2.St} {H : Hp} (h : wi σ H fun J H1 => LcK J g tt te vs σ H1 D.rt) : tRet (tLc wi g tt te vs) D σ H := h
section
variable {J : It} {n : Nat} {G : Hp → Prop} {Y : Nat → Hp → V → Hp → Prop}
/-- a comprehension whose turns only add to the heap: r i is what turn i gives -/
theorem lcP (w : Walk J n G Y) {g : TG} {tt : TT} {te : TE} {vs : List Nat} {σ : L2.St} {H1 : Hp} {Q : VK} (r : Nat → Option V) (hn : n ≤ 100000) (hG : ∀ H, Ex H1 H → G H)
    (hs : ∀ (i : Nat) (x : V) (H H' : Hp) (ky : VK) (k0 : Hp → Prop), i < n → Ex H1 H → Y i H x H' → (∀ y H4, r i = some y → Ex H H4 → ky y H4) → (∀ H3, r i = none → Ex H H3 → k0 H3) →
      g x (wipe σ vs) H' fun σ2 H2 => wipe σ2 vs = wipe σ vs ∧ tt σ2 H2 fun b H3 => if b = true then te σ2 H3 ky else k0 H3)
    (hd : ∀ D H, H1 D = none → Ex H1 H → H D = some (.lst ((List.range n).filterMap r)) → Q (.ref D) H) : LcK J g tt te vs σ H1 Q := by
  intro D hD
  have len : ∀ i, ((List.range i).filterMap r).length ≤ i := fun i => by
    have := List.length_filterMap_le r (List.range i)
    rw [List.length_range] at this
    exact this
  refine lc_it w (fun i H => Ex H1 H ∧ H D = some (.lst ((List.range i).filterMap r))) ⟨Ex.new hD, upd_same⟩ (fun i H _ p => hG H p.1) (fun i x H H' hi p y => ?_) fun H p => hd D H hD p.1 p.2
  obtain ⟨p1, p2⟩ := p
  refine hs i x H H' _ _ hi p1 y (fun y H4 er e4 => ?_) (fun H3 er e4 => ?_)
  · refine ⟨_, e4 D _ p2, Nat.lt_of_le_of_lt (len i) (Nat.lt_of_lt_of_le (Nat.lt_of_lt_of_le hi hn) (by decide)), Ex.mut (p1.trans e4) hD, ?_⟩
    rw [List.range_succ, List.filterMap_append]
    simp only [List.filterMap_cons, er, List.filterMap_nil]
    exact upd_same
  · refine ⟨p1.trans e4, ?_⟩
    rw [List.range_succ, List.filterMap_append]
    simp only [List.filterMap_cons, er, List.filterMap_nil, List.append_nil]
    exact e4 D _ p2
/-- a comprehension with a word of its own about what stands in the list and of the heap -/
theorem lcI (w : Walk J n G Y) {g : TG} {tt : TT} {te : TE} {vs : List Nat} {σ : L2.St} {H1 : Hp} {Q : VK} (I : Nat → List V → Hp → Prop) (hn : n ≤ 100000) (h0 : ∀ D v, H1 D = none → I 0 [] (upd H1 D v)) (hG : ∀ i acc H, I i acc H → G H)
    (hnew : ∀ i acc H D v, H1 D = none → I i acc H → I i acc (upd H D v))
    (hs : ∀ (i : Nat) (acc : List V) (x : V) (H H' : Hp) (ky : VK) (k0 : Hp → Prop), i < n → I i acc H → Y i H x H' → (∀ y H4, Kn H1 H H4 → I (i + 1) (acc ++ [y]) H4 → ky y H4) → (∀ H3, Kn H1 H H3 → I (i + 1) acc H3 → k0 H3) →
      g x (wipe σ vs) H' fun σ2 H2 => wipe σ2 vs = wipe σ vs ∧ tt σ2 H2 fun b H3 => if b = true then te σ2 H3 ky else k0 H3)
    (hd : ∀ D H acc, H1 D = none → I n acc H → H D = some (.lst acc) → acc.length ≤ n → Q (.ref D) H) : LcK J g tt te vs σ H1 Q := by
  intro D hD
  refine lc_it w (fun i H => ∃ acc, acc.length ≤ i ∧ I i acc H ∧ H D = some (.lst acc)) ⟨[], Nat.le_refl _, h0 _ _ hD, upd_same⟩ (fun i H _ ⟨acc, _, p, _⟩ => hG _ _ _ p) (fun i x H H' hi p y => ?_) fun H ⟨acc, l, p, q⟩ => hd D H acc hD p q l
  obtain ⟨acc, l, p1, p2⟩ := p
  refine hs i acc x H H' _ _ hi p1 y (fun y H4 e4 i4 => ?_) (fun H3 e4 i4 => ?_)
  · refine ⟨_, e4 D _ hD p2, Nat.lt_of_le_of_lt l (Nat.lt_of_lt_of_le (Nat.lt_of_lt_of_le hi hn) (by decide)), acc ++ [y], ?_, hnew _ _ _ _ _ hD i4, upd_same⟩
    rw [List.length_append, List.length_singleton]
    omega
  · exact ⟨acc, by omega, i4, e4 D _ hD p2⟩
theorem yes_eq (te : TE) (vs : List Nat) (σ : L2.St) (ky : VK) (k0 : Hp → Prop) :
    (fun (σ2 : L2.St) (H2 : Hp) => wipe σ2 vs = wipe σ vs ∧ tYes σ2 H2 fun b H3 => if b = true then te σ2 H3 ky else k0 H3) = fun σ2 H2 => wipe σ2 vs = wipe σ vs ∧ te σ2 H2 ky := by
  funext σ2 H2
  show (wipe σ2 vs = wipe σ vs ∧ if true = true then te σ2 H2 ky else k0 H2) = _
  rw [if_pos rfl]
/-- .. without a condition -/
theorem lcPY (w : Walk J n G Y) {g : TG} {te : TE} {vs : List Nat} {σ : L2.St} {H1 : Hp} {Q : VK} (f : Nat → V) (hn : n ≤ 100000) (hG : ∀ H, Ex H1 H → G H)
    (hs : ∀ (i : Nat) (x : V) (H H' : Hp) (ky : VK), i < n → Ex H1 H → Y i H x H' → (∀ H4, Ex H H4 → ky (f i) H4) → g x (wipe σ vs) H' fun σ2 H2 => wipe σ2 vs = wipe σ vs ∧ te σ2 H2 ky)
    (hd : ∀ D H, H1 D = none → Ex H1 H → H D = some (.lst ((List.range n).map f)) → Q (.ref D) H) : LcK J g tYes te vs σ H1 Q :=
  lcP w (fun i => some (f i)) hn hG (fun i x H H' ky k0 hi e y k1 _ => by
    rw [yes_eq]
    exact hs i x H H' ky hi e y fun H4 e4 => k1 _ H4 rfl e4) (fun D H hD e h => hd D H hD e (by rw [← List.filterMap_eq_map']; exact h))
theorem lcIY (w : Walk J n G Y) {g : TG} {te : TE} {vs : List Nat} {σ : L2.St} {H1 : Hp} {Q : VK} (I : Nat → List V → Hp → Prop) (hn : n ≤ 100000) (h0 : ∀ D v, H1 D = none → I 0 [] (upd H1 D v)) (hG : ∀ i acc H, I i acc H → G H)
    (hnew : ∀ i acc H D v, H1 D = none → I i acc H → I i acc (upd H D v))
    (hs : ∀ (i : Nat) (acc : List V) (x : V) (H H' : Hp) (ky : VK), i < n → I i acc H → Y i H x H' → (∀ y H4, Kn H1 H H4 → I (i + 1) (acc ++ [y]) H4 → ky y H4) → g x (wipe σ vs) H' fun σ2 H2 => wipe σ2 vs = wipe σ vs ∧ te σ2 H2 ky)
    (hd : ∀ D H acc, H1 D = none → I n acc H → H D = some (.lst acc) → acc.length ≤ n → Q (.ref D) H) : LcK J g tYes te vs σ H1 Q :=
  lcI w I hn h0 hG hnew (fun i acc x H H' ky k0 hi p y k1 _ => by
    rw [yes_eq]
    exact hs i acc x H H' ky hi p y k1) hd
end
end HP
/-! readings of slices, sums of rows, texts by code points. -/
namespace HP
open PySem PySem.Spec PyProof.Rows L2 Evl
section
variable {K : PySem.W.Frag} {H : Hp} {Q : VK} {a b : Addr} {xs ys : List V}
theorem slA_of {lo hi : Option Int} (hS : SqT K H a xs) (k : ∀ p H', Ex H H' → SqT K H' p (cutV xs lo hi) → Q (.ref p) H') : rSlA K (.ref a) lo hi H Q := by
  refine ⟨a, xs, rfl, hS, fun hw => ?_, fun _ p hp => k p _ (Ex.new hp) (st_of upd_same)⟩
  refine k a H (Ex.refl H) ?_
  have e : cutV xs lo hi = xs := by
    unfold cutV
    rw [hw.1, hw.2, List.drop_zero, Nat.sub_zero, List.take_of_length_le (Nat.le_refl _)]
  rw [e]
  exact hS
theorem slL_of {lo hi : Option Int} (hS : SqL K H a xs) (k : ∀ p H', H p = none → Ex H H' → H' p = some (.lst (cutV xs lo hi)) → Q (.ref p) H') : rSlL K (.ref a) lo hi H Q :=
  ⟨a, xs, rfl, hS, fun p hp => k p _ hp (Ex.new hp) upd_same⟩
theorem catA_of (ha : SqT K H a xs) (hb : SqT K H b ys) (hz : xs.length + ys.length ≤ 100000) (k : ∀ p H', Ex H H' → SqT K H' p (xs ++ ys) → Q (.ref p) H') : rCatA K (.ref a) (.ref b) H Q := by
  refine ⟨a, b, xs, ys, rfl, rfl, ha, hb, sz_of hz, fun e => ?_, fun _ e => ?_, fun _ _ p hp => k p _ (Ex.new hp) (st_of upd_same)⟩
  · subst e
    exact k b H (Ex.refl H) hb
  · subst e
    exact k a H (Ex.refl H) (by rw [List.append_nil]; exact ha)
theorem mulT_of {n : Int} (ha : SqT K H a xs) (hne : xs ≠ []) (h1 : 1 ≤ n) (h2 : n ≤ 1000) (hz : xs.length ≤ 1000) (k : ∀ p H', Ex H H' → SqT K H' p (List.replicate n.toNat xs).flatten → Q (.ref p) H') : rRepA K (.ref a) (.int n) H Q := by
  refine ⟨a, n, xs, rfl, rfl, ha, hne, h1, h2, hz, fun e => ?_, fun _ p hp => k p _ (Ex.new hp) (st_of upd_same)⟩
  subst e
  refine k a H (Ex.refl H) ?_
  have e : (List.replicate (1 : Int).toNat xs).flatten = xs := by simp
  rw [e]
  exact ha
theorem catL_of (ha : H a = some (.lst xs)) (hb : H b = some (.lst ys)) (hz : xs.length + ys.length ≤ 100000) (k : ∀ p H', H p = none → Ex H H' → H' p = some (.lst (xs ++ ys)) → Q (.ref p) H') : rCat (.ref a) (.ref b) H Q :=
  ⟨a, b, xs, ys, rfl, rfl, ha, hb, sz_of hz, fun p hp => k p _ hp (Ex.new hp) upd_same⟩
theorem tupOf_of (ha : SqL K H a xs ∨ SqT K H a xs) (k : ∀ p H', Ex H H' → SqT K H' p xs → Q (.ref p) H') :
    ∃ p ys, [V.ref a] = [.ref p] ∧ ((SqL K H p ys ∧ ∀ l, H l = none → Q (.ref l) (upd H l (.tup ys))) ∨ (SqT K H p ys ∧ Q (.ref p) H)) := by
  rcases ha with ha | ha
  · exact ⟨a, xs, rfl, .inl ⟨ha, fun l hl => k l _ (Ex.new hl) (st_of upd_same)⟩⟩
  · exact ⟨a, xs, rfl, .inr ⟨ha, k a H (Ex.refl H) ha⟩⟩
theorem eqI_of {neg : Bool} {ns ms : List Int} (h : (SqT K H a (ns.map V.int) ∧ SqT K H b (ms.map V.int)) ∨ (SqL K H a (ns.map V.int) ∧ SqL K H b (ms.map V.int))) (k : Q (.bl (if neg then !decide (ns = ms) else decide (ns = ms))) H) : rSeqI K neg (.ref a) (.ref b) H Q :=
  ⟨a, b, ns, ms, rfl, rfl, h, k⟩
end
/-! ### cuts -/
theorem cut_to {xs : List V} (k : Nat) : cutV xs none (some (k : Int)) = xs.take k := by
  unfold cutV
  rw [HT.sIx_nat, HT.sIx_none, List.drop_zero, Nat.sub_zero]
  by_cases h : k ≤ xs.length
  · rw [Nat.min_eq_left h]
  · rw [Nat.min_eq_right (by omega), List.take_of_length_le (Nat.le_refl _), List.take_of_length_le (by omega)]
theorem cut_from {xs : List V} (k : Nat) : cutV xs (some (k : Int)) none = xs.drop k := by
  unfold cutV
  rw [HT.sIx_nat, HT.sIx_none]
  by_cases h : k ≤ xs.length
  · rw [Nat.min_eq_left h, List.take_of_length_le (by rw [List.length_drop]; exact Nat.le_refl _)]
  · rw [Nat.min_eq_right (by omega), List.drop_eq_nil_of_le (Nat.le_refl _), List.drop_eq_nil_of_le (by omega)]
    simp
theorem cut_but {xs : List V} : cutV xs none (some (-1)) = xs.dropLast := by
  unfold cutV
  have e : HT.sIx xs.length xs.length (some (-1)) = xs.length - 1 := by
    show (if (-1 : Int) < 0 then ((-1 : Int) + (xs.length : Int)).toNat else min (-1 : Int).toNat xs.length) = _
    rw [if_pos (by decide)]
    omega
  rw [e, HT.sIx_none, List.drop_zero, Nat.sub_zero, List.dropLast_eq_take]
theorem cut_toI {ns : List Int} (k : Nat) : cutV (ns.map V.int) none (some (k : Int)) = (ns.take k).map V.int := by rw [cut_to, List.map_take]
theorem cut_fromI {ns : List Int} (k : Nat) : cutV (ns.map V.int) (some (k : Int)) none = (ns.drop k).map V.int := by rw [cut_from, List.map_drop]
theorem cut_butI {ns : List Int} : cutV (ns.map V.int) none (some (-1)) = (ns.dropLast).map V.int := by rw [cut_but, List.dropLast_eq_take, List.dropLast_eq_take, List.length_map, List.map_take]
theorem rep_mapI (n : Nat) (ns : List Int) : (List.replicate n (ns.map V.int)).flatten = (List.replicate n ns).flatten.map V.int := by
  rw [List.map_flatten, List.map_replicate]
/-! ### indexing -/
theorem at_int {ns : List Int} {i : Nat} {v : Int} (h : ns[i]? = some v) : atI (ns.map V.int) ((i : Nat) : Int) = some (V.int v) := atI_nat (by rw [List.getElem?_map, h]; rfl)
theorem get_map_int {ns : List Int} {i : Nat} {x : V} (h : (ns.map V.int)[i]? = some x) : ∃ v, ns[i]? = some v ∧ x = .int v ∧ i < ns.length := by
  rw [List.getElem?_map] at h
  cases e : ns[i]? with
  | none =>
    rw [e] at h
    cases h
  | some v =>
    rw [e] at h
    exact ⟨v, rfl, (Option.some.inj h).symm, (List.getElem?_eq_some_iff.mp e).1⟩
theorem ints_inj {ns ms : List Int} (h : ns.map V.int = ms.map V.int) : ns = ms := by
  induction ns generalizing ms with
  | nil =>
    cases ms with
    | nil => rfl
    | cons _ _ => simp at h
  | cons n ns ih =>
    cases ms with
    | nil => simp at h
    | cons m ms =>
      simp only [List.map_cons, List.cons.injEq, V.int.injEq] at h
      rw [h.1, ih h.2]
/-! ### what comprehensions give -/
theorem fm_all (f : Nat → V) (n : Nat) : (List.range n).filterMap (fun i => some (f i)) = (List.range n).map f := by
  rw [List.filterMap_eq_map']
theorem fm_map {α : Type} (xs : List α) (f : α → V) : (List.range xs.length).filterMap (fun i => xs[i]?.map f) = xs.map f := by
  induction xs with
  | nil => rfl
  | cons x xs ih =>
    rw [List.length_cons, List.range_succ_eq_map, List.filterMap_cons]
    simp only [List.getElem?_cons_zero, Option.map_some, List.filterMap_map, List.map_cons]
    congr 1
theorem rg_map {α β : Type} (xs : List α) (f : α → β) (g : Nat → β) (h : ∀ i x, xs[i]? = some x → g i = f x) : (List.range xs.length).map g = xs.map f := by
  apply List.ext_getElem?
  intro i
  rw [List.getElem?_map, List.getElem?_map]
  by_cases hi : i < xs.length
  · rw [List.getElem?_range hi, List.getElem?_eq_getElem hi]
    show some (g i) = some (f xs[i])
    rw [h i xs[i] (List.getElem?_eq_getElem hi)]
  · rw [List.getElem?_eq_none (by rw [List.length_range]; omega), List.getElem?_eq_none (by omega)]
    rfl
/-! ### what a change at a list leaves -/
theorem sqT_upd {K : PySem.W.Frag} {H : Hp} {l p : Addr} {xs ys : List V} {o : HO} (hl : H l = some (.lst ys)) (h : SqT K H p xs) : SqT K (upd H l o) p xs := by
  rcases h with h | h
  · refine .inl ?_
    have ne : p ≠ l := fun e => by
      subst e
      rcases h with h | ⟨u, h⟩
      · rw [hl] at h
        cases h
      · rw [hl] at h
        cases h
    rcases h with h | ⟨u, h⟩
    · exact .inl (by rw [upd_ne ne]; exact h)
    · exact .inr ⟨u, by rw [upd_ne ne]; exact h⟩
  · exact .inr h
theorem ifT {c : Bool} {P R : Prop} (h : c = true) (p : P) : if c = true then P else R := by
  rw [if_pos h]
  exact p
theorem ifF {c : Bool} {P R : Prop} (h : c = false) (p : R) : if c = true then P else R := by
  rw [if_neg (by rw [h]; exact Bool.false_ne_true)]
  exact p
/-! ### texts by code points -/
open SX
theorem cut_S_to (z : List Nat) (k : Nat) : cutS (S z) none (some (k : Int)) = S (z.take k) := by
  unfold cutS
  rw [HT.sIx_nat, HT.sIx_none, List.drop_zero, Nat.sub_zero, S_len]
  by_cases h : k ≤ z.length
  · rw [Nat.min_eq_left h]
  · rw [Nat.min_eq_right (by omega)]
    show S (z.take z.length) = S (z.take k)
    rw [List.take_of_length_le (Nat.le_refl _), List.take_of_length_le (by omega)]
theorem cut_S_from (z : List Nat) (k : Nat) : cutS (S z) (some (k : Int)) none = S (z.drop k) := by
  unfold cutS
  rw [HT.sIx_nat, HT.sIx_none, S_len]
  show S ((z.drop (min k z.length)).take _) = _
  by_cases h : k ≤ z.length
  · rw [Nat.min_eq_left h, List.take_of_length_le (by rw [List.length_drop]; exact Nat.le_refl _)]
  · rw [Nat.min_eq_right (by omega), List.drop_eq_nil_of_le (Nat.le_refl _), List.drop_eq_nil_of_le (by omega)]
    simp
theorem join_nil (ys : List (List Nat)) : Txt.join (S []) (ys.map S) = S ys.flatten := by
  rw [join_S]
  congr 1
  induction ys with
  | nil => rfl
  | cons y ys ih =>
    cases ys with
    | nil => simp [TL.joinL]
    | cons z zs =>
      simp only [TL.joinL] at ih ⊢
      rw [List.nil_append, ih]
      simp
theorem rep_S (z : List Nat) (n : Nat) : repStr (S z) n = S (List.replicate n z).flatten := rfl
theorem sum_le {l : List Nat} {b : Nat} (h : ∀ x ∈ l, x ≤ b) : l.sum ≤ l.length * b := by
  induction l with
  | nil => simp
  | cons x l ih =>
    have h1 := h x (List.mem_cons_self ..)
    have h2 := ih fun y hy => h y (List.mem_cons_of_mem _ hy)
    rw [List.sum_cons, List.length_cons, Nat.succ_mul]
    omega
theorem join_le (sep : Str) : ∀ ys : List Str, (Txt.join sep ys).length ≤ (ys.map (·.length)).sum + ys.length * sep.length
  | [] => Nat.zero_le _
  | [y] => by
    show y.length ≤ _
    simp
  | x :: y :: r => by
    have ih := join_le sep (y :: r)
    have e : (Txt.join sep (x :: y :: r)).length = x.length + sep.length + (Txt.join sep (y :: r)).length := by
      rw [TL.join_eq, TL.join_eq]
      show (x ++ sep ++ Str.join sep (y :: r)).length = _
      rw [PySem.Str.length_append, PySem.Str.length_append]
    rw [e, List.map_cons, List.sum_cons, List.length_cons (a := x), Nat.succ_mul]
    omega
theorem sz_big {n : Nat} (h : n ≤ 16777216) : n ≤ sizeLine := by
  rw [sizeLine_eq]
  exact h
theorem sum_lens (ys : List (List Nat)) : ((ys.map S).map (·.length)).sum = ys.flatten.length := by
  rw [lens, List.length_flatten]
end HP
/-! the rules again, with the written part K named (so that they stand in a comprehension too) and with readings that only tell that the heap grows. -/
namespace HP
open PySem PySem.Spec PyProof.Rows L2 Evl
def LenIs (K : PySem.W.Frag) (H : Hp) (p : Addr) (n : Nat) : Prop := ∃ ys, (SqL K H p ys ∨ SqT K H p ys) ∧ ys.length = n
theorem lenT {K : PySem.W.Frag} {H : Hp} {p : Addr} {ns : List Int} (h : SqT K H p (ns.map V.int)) : LenIs K H p ns.length := ⟨_, .inr h, List.length_map ..⟩
theorem lenL {K : PySem.W.Frag} {H : Hp} {p : Addr} {ns : List Int} (h : SqL K H p (ns.map V.int)) : LenIs K H p ns.length := ⟨_, .inl h, List.length_map ..⟩
def rLen (K : PySem.W.Frag) : List V → Hp → VK → Prop := fun xs H Q => ∃ p n, xs = [.ref p] ∧ LenIs K H p n ∧ Q (.int (n : Int)) H
def rSlTk (K : PySem.W.Frag) : V → Option Int → Option Int → Hp → VK → Prop := fun x lo hi H Q => ∃ a xs, x = .ref a ∧ SqT K H a xs ∧ ∀ p H', Ex H H' → SqT K H' p (cutV xs lo hi) → Q (.ref p) H'
def rSlLk (K : PySem.W.Frag) : V → Option Int → Option Int → Hp → VK → Prop := fun x lo hi H Q => ∃ a xs, x = .ref a ∧ SqL K H a xs ∧ ∀ p H', H p = none → Ex H H' → H' p = some (.lst (cutV xs lo hi)) → Q (.ref p) H'
def rCatT (K : PySem.W.Frag) : R2 := fun x y H Q => ∃ a b xs ys, x = .ref a ∧ y = .ref b ∧ SqT K H a xs ∧ SqT K H b ys ∧ xs.length + ys.length ≤ 100000 ∧ ∀ p H', Ex H H' → SqT K H' p (xs ++ ys) → Q (.ref p) H'
def rRepT (K : PySem.W.Frag) : R2 := fun x y H Q => ∃ a n xs, x = .ref a ∧ y = .int n ∧ SqT K H a xs ∧ xs ≠ [] ∧ 1 ≤ n ∧ n ≤ 1000 ∧ xs.length ≤ 1000 ∧ ∀ p H', Ex H H' → SqT K H' p (List.replicate n.toNat xs).flatten → Q (.ref p) H'
def rCatL : R2 := fun x y H Q => ∃ a b xs ys, x = .ref a ∧ y = .ref b ∧ H a = some (.lst xs) ∧ H b = some (.lst ys) ∧ xs.length + ys.length ≤ 100000 ∧ ∀ p H', H p = none → Ex H H' → H' p = some (.lst (xs ++ ys)) → Q (.ref p) H'
def rRepL : R2 := fun x y H Q => ∃ a n xs, x = .ref a ∧ y = .int n ∧ H a = some (.lst xs) ∧ -100000 ≤ n ∧ n ≤ 100000 ∧ xs.length * n.toNat ≤ 100000 ∧ ∀ p H', H p = none → Ex H H' → H' p = some (.lst (List.replicate n.toNat xs).flatten) → Q (.ref p) H'
def rTupOf (K : PySem.W.Frag) : List V → Hp → VK → Prop := fun vs H Q => ∃ a xs, vs = [.ref a] ∧ (SqL K H a xs ∨ SqT K H a xs) ∧ ∀ p H', Ex H H' → SqT K H' p xs → Q (.ref p) H'
def rLstOf (K : PySem.W.Frag) : List V → Hp → VK → Prop := fun vs H Q => ∃ a xs, vs = [.ref a] ∧ (SqL K H a xs ∨ SqT K H a xs) ∧ ∀ p H', H p = none → Ex H H' → H' p = some (.lst xs) → Q (.ref p) H'
def rJoin (K : PySem.W.Frag) : V → List V → Hp → VK → Prop := fun x xs H Q => ∃ a p, ∃ ys : List Str, x = .str a ∧ xs = [.ref p] ∧ (SqL K H p (ys.map V.str) ∨ SqT K H p (ys.map V.str)) ∧ (ys.map (·.length)).sum + ys.length * a.length ≤ 16777216 ∧ Q (.str (Txt.join a ys)) H
def rFldk (K : PySem.W.Frag) (f : Str) : V → Hp → VK → Prop := fun x H Q => ∃ a C dx fs v, x = .ref a ∧ H a = some (.ins C dx fs) ∧ Cls K C ∧ NoAttr K C f ∧ fs.lookup f = some v ∧ Q v H
section
variable {X : Cx} {K : PySem.W.Frag}
theorem CallR.imp {f : Value} {r r' : List V → Hp → VK → Prop} (h : CallR X f r) (i : ∀ xs H Q, r' xs H Q → r xs H Q) : CallR X f r' := fun pins s σ H xs us Q I rx q => h pins s σ H xs us Q I rx (i xs H Q q)
theorem len_K (K : PySem.W.Frag) (h : X.K = K := by rfl) : CallR X (.builtin "len") (rLen K) := by
  subst h
  exact CallR.imp call_len_seq fun xs H Q z => by
    obtain ⟨p, n, e, ⟨ys, h1, rfl⟩, q⟩ := z
    exact ⟨p, ys, e, h1, q⟩
theorem slT_K (K : PySem.W.Frag) (h : X.K = K := by rfl) : SlR X (rSlTk K) := by
  subst h
  intro pins s σ H x v vl vu lo hi sl Q I rx hs pl pu z
  obtain ⟨a, xs, rfl, hS, k⟩ := z
  exact sl_tupA pins s σ H _ v vl vu lo hi sl Q I rx hs pl pu (slA_of hS k)
theorem slL_K (K : PySem.W.Frag) (h : X.K = K := by rfl) : SlR X (rSlLk K) := by
  subst h
  intro pins s σ H x v vl vu lo hi sl Q I rx hs pl pu z
  obtain ⟨a, xs, rfl, hS, k⟩ := z
  exact sl_list pins s σ H _ v vl vu lo hi sl Q I rx hs pl pu (slL_of hS k)
theorem ixL_K (K : PySem.W.Frag) (h : X.K = K := by rfl) : IxR X (rIxL K) := by
  subst h
  exact ix_list
theorem ixT_K (K : PySem.W.Frag) (h : X.K = K := by rfl) : IxR X (rIxT K) := by
  subst h
  exact ix_tup
theorem catT_K (K : PySem.W.Frag) (h : X.K = K := by rfl) : OpR X (binaryOp .Add) (rCatT K) := by
  subst h
  exact OpR.imp op_catA fun x y H Q z => by
    obtain ⟨a, b, xs, ys, rfl, rfl, h1, h2, h3, k⟩ := z
    exact catA_of h1 h2 h3 k
theorem repT_K (K : PySem.W.Frag) (h : X.K = K := by rfl) : OpR X (binaryOp .Mult) (rRepT K) := by
  subst h
  exact OpR.imp op_mulT fun x y H Q z => by
    obtain ⟨a, n, xs, rfl, rfl, h1, h2, h3, h4, h5, k⟩ := z
    exact mulT_of h1 h2 h3 h4 h5 k
theorem catL_ : OpR X (binaryOp .Add) rCatL := OpR.imp op_cat fun x y H Q z => by
  obtain ⟨a, b, xs, ys, rfl, rfl, h1, h2, h3, k⟩ := z
  exact catL_of h1 h2 h3 k
theorem repL_ : OpR X (binaryOp .Mult) rRepL := OpR.imp op_rep fun x y H Q z => by
  obtain ⟨a, n, xs, rfl, rfl, h1, h2, h3, h4, k⟩ := z
  exact ⟨a, n, xs, rfl, rfl, h1, by omega, by omega, sz_of h4, fun l hl => k l _ hl (Ex.new hl) upd_same⟩
theorem eqI_K (K : PySem.W.Frag) (hu : X.A.units + 64 < cLine) (h : X.K = K := by rfl) : OpR X (compareOp .Eq) (rSeqI K false) := by
  subst h
  exact op_eqI hu
theorem neI_K (K : PySem.W.Frag) (hu : X.A.units + 64 < cLine) (h : X.K = K := by rfl) : OpR X (compareOp .NotEq) (rSeqI K true) := by
  subst h
  exact op_neI hu
theorem eqD_K (K : PySem.W.Frag) (hu : X.A.units + 64 < cLine) (h : X.K = K := by rfl) : OpR X (compareOp .Eq) (rEqD K) := by
  subst h
  exact op_eqD hu
theorem neD_K (K : PySem.W.Frag) (hu : X.A.units + 64 < cLine) (h : X.K = K := by rfl) : OpR X (compareOp .NotEq) (rNeD K) := by
  subst h
  exact op_neD hu
theorem inS_K (K : PySem.W.Frag) (h : X.K = K := by rfl) : OpR X (compareOp .In) (rIn K false) := by
  subst h
  exact op_in_seq
theorem ninS_K (K : PySem.W.Frag) (h : X.K = K := by rfl) : OpR X (compareOp .NotIn) (rIn K true) := by
  subst h
  exact op_notIn_seq
theorem tupOf_K (K : PySem.W.Frag) (h : X.K = K := by rfl) : CallR X (.type "tuple") (rTupOf K) := by
  subst h
  exact CallR.imp call_tuple_of fun xs H Q z => by
    obtain ⟨a, xs, rfl, h1, k⟩ := z
    exact tupOf_of h1 k
theorem lstOf_K (K : PySem.W.Frag) (h : X.K = K := by rfl) : CallR X (.type "list") (rLstOf K) := by
  subst h
  exact CallR.imp call_list_of fun xs H Q z => by
    obtain ⟨a, xs, rfl, h1, k⟩ := z
    exact ⟨a, xs, rfl, h1, fun l hl => k l _ hl (Ex.new hl) upd_same⟩
theorem isi_K (K : PySem.W.Frag) (h : X.K = K := by rfl) : CallR X (.builtin "isinstance") (rIsi K) := by
  subst h
  exact call_isi
theorem isiT_K (K : PySem.W.Frag) (h : X.K = K := by rfl) : CallR X (.builtin "isinstance") (rIsiT K) := by
  subst h
  exact call_isiT
theorem sumL_K (K : PySem.W.Frag) (hc : X.calm = true) (h : X.K = K := by rfl) : CallR X (.builtin "sum") (rSum K) := by
  subst h
  exact cr_sum hc
theorem sumT_K (K : PySem.W.Frag) (hc : X.calm = true) (h : X.K = K := by rfl) : CallR X (.builtin "sum") (rSumT K) := by
  subst h
  exact cr_sumT hc
theorem all_K (K : PySem.W.Frag) (hc : X.calm = true) (h : X.K = K := by rfl) : CallR X (.builtin "all") (rAll K) := by
  subst h
  exact cr_all hc
theorem any_K (K : PySem.W.Frag) (hc : X.calm = true) (h : X.K = K := by rfl) : CallR X (.builtin "any") (rAny K) := by
  subst h
  exact cr_any hc
theorem max_K (K : PySem.W.Frag) (hc : X.calm = true) (h : X.K = K := by rfl) : CallR X (.builtin "max") (rMax K) := by
  subst h
  exact cr_max hc
theorem min_K (K : PySem.W.Frag) (hc : X.calm = true) (h : X.K = K := by rfl) : CallR X (.builtin "min") (rMin K) := by
  subst h
  exact cr_min hc
end
section
variable {X : Cx} {CX : CXT} {k n : Nat} {C g : Addr} {sp : Sp} {E : XK} {o e fe a b tg : Expr} {es rest : List Expr} {to te ta tb tf : TE} {t : TA} {f : Str} {p pos apos : Pos}
theorem fld_K (K : PySem.W.Frag) (he : PE X e te) (hb : attributeBase e f X.env (eval e X.env) = eval e X.env := by rfl) (h : X.K = K := by rfl) : PE X (.Attribute e f pos) (tFld K te f) := by
  subst h
  exact pe_fld he hb
theorem join_K (K : PySem.W.Frag) (ho : PE X o to) (he : PE X e te) (h : X.K = K := by rfl) (hs : starEach [e] X.env = [(false, eval e X.env)] := by rfl) (hbase : attributeBase o "join" X.env (eval o X.env) = eval o X.env := by rfl) (hline : (apos.endLine == pos.line) = true := by rfl) :
    PE X (.Call (.Attribute o "join" apos) [e] [] pos) (tM1 (rJoin K) to te) := by
  subst h
  exact pe_join ho he hs hbase hline
def tCallOk (C : Addr) (sp : Sp) (E : XK) (tf : TE) (t : TA) : TE := fun σ H Q => tf σ H fun y H1 => ∃ a, y = V.ref a ∧ t σ H1 fun vs H2 => (∃ dx fs, H2 a = some (.ins C dx fs)) ∧ sp (V.ref a :: vs) H2 Q E
theorem callO_K (hf : PE X fe tf) (c : StX.CallO X.K C g) (F : FnR X.prog X.w X.K X.mg X.base CX k g sp) (hr : Room k X.A) (hx : Passes CX X E) (ha : PA X (e :: es) t)
    (ht : eval (.Call fe (e :: es) [] pos) X.env = (do callWith pos (← eval fe X.env) [] (backTo pos (starEach (e :: es) X.env)) (backToKw pos (keywordEach [] X.env))) := by rfl)
    (he : starEach (e :: es) X.env = (false, eval e X.env) :: starEach es X.env := by rfl) (hpl : (backTo pos (starEach es X.env)).any (·.1) = false := by rfl) : PE X (.Call fe (e :: es) [] pos) (tCallOk C sp E tf t) := by
  refine ⟨fun pins s σ H Q I h => ?_⟩
  refine Call_ (thn (hf.run pins s σ H _ I h) fun u s1 ⟨y, H1, I1, ry, a, ey, q⟩ => ?_) ht
  subst ey
  obtain rfl : u = Value.ref a := ry
  refine StX.callO_with (thn (ha.run pos pins s1 σ H1 _ I1 q) fun us s2 ⟨vs, H2, I2, r, hi, q2⟩ => ?_) he hpl
  have hi' : StX.InsC X H2 a C := .inr hi
  obtain ⟨ox, od, J, hd⟩ := StX.insC_at I2 hi'
  exact ⟨⟨C, ox, od, J, hd⟩, StX.run_callO c F hr hx I2 hi' r q2⟩
theorem tgt_K (K : PySem.W.Frag) {t : TGs} {n i : Nat} (hc : X.calm = true) (h : PGs X es t) (hk : X.K = K := by rfl) (hn : (assignEach es X.env).length = n := by rfl) (hst : (assignEach es X.env).findIdx? (·.1) = none := by rfl) : PG X (.Tuple es i pos) (gTup K n t) := by
  subst hk
  exact pg_tup hc h hn hst
theorem iterL_K (K : PySem.W.Frag) (he : PE X e te) (hk : X.K = K := by rfl) : PI X tg e (iList K te) := by
  subst hk
  exact pi_list he
theorem iterT_K (K : PySem.W.Frag) (he : PE X e te) (hk : X.K = K := by rfl) : PI X tg e (iTup K te) := by
  subst hk
  exact pi_tup he
end
theorem walk_enumT {K : PySem.W.Frag} {a : Addr} {xs : List V} : Walk (ItET K a) xs.length (fun H => SqT K H a xs) (YPair (fun i => some (.int (i : Nat))) (fun i => xs[i]?)) := by
  refine ⟨fun i _ hi q => ⟨xs, xs[i], q, by simp [hi]⟩, fun _ q => ⟨xs, q, rfl⟩, fun i H v H' _ q y => ?_⟩
  obtain ⟨T, x, h1, h2, h3, h4⟩ := y
  exact ⟨T, .int (i : Nat), x, h1, h2, h3, rfl, h4 xs q⟩
theorem walk_enumS {n : Nat} {f : Nat → V} : Walk (ItE n f) n (fun _ => True) (YPair (fun i => some (.int (i : Nat))) (fun i => some (f i))) := by
  refine ⟨fun i _ hi _ => hi, fun _ _ => rfl, fun i H v H' _ _ y => ?_⟩
  obtain ⟨T, h1, h2, h3⟩ := y
  exact ⟨T, .int (i : Nat), f i, h1, h2, h3, rfl, rfl⟩
theorem sqT_updI {K : PySem.W.Frag} {H : Hp} {l p C dx : Addr} {xs : List V} {fs : List (Str × V)} {o : HO} (hl : H l = some (.ins C dx fs)) (h : SqT K H p xs) : SqT K (upd H l o) p xs := by
  rcases h with h | h
  · refine .inl ?_
    have ne : p ≠ l := fun e => by
      subst e
      rcases h with h | ⟨u, h⟩
      · rw [hl] at h
        cases h
      · rw [hl] at h
        cases h
    rcases h with h | ⟨u, h⟩
    · exact .inl (by rw [upd_ne ne]; exact h)
    · exact .inr ⟨u, by rw [upd_ne ne]; exact h⟩
  · exact .inr h
theorem deq_int {a b : Int} (h : a = b) : decide (V.int a = V.int b) = true := decide_eq_true (by rw [h])
theorem dne_int {a b : Int} (h : a ≠ b) : decide (V.int a = V.int b) = false := decide_eq_false fun e => h (V.int.inj e)
end HP
namespace HL
open PySem PySem.Spec PyProof.Rows L2
def top (i : Nat) : Stmt := PySem.Challenge.pw_headpasses_k67_tables_joined_and_turned.main.body.getD i (.Pass ⟨0, 0, 0, 0⟩)
abbrev s__wall : Stmt := top 0
abbrev s_is_integer : Stmt := top 11
abbrev s_is_within : Stmt := top 12
abbrev s_written : Stmt := top 13
abbrev s_number_of : Stmt := top 14
abbrev s_need_table : Stmt := top 21
abbrev s_need_count : Stmt := top 22
abbrev s_places_of : Stmt := top 23
abbrev s_least_part : Stmt := top 24
abbrev s_is_marked : Stmt := top 25
abbrev s_take_feeds : Stmt := top 26
abbrev s__law_pen : Stmt := top 29
abbrev s__law_draw : Stmt := top 30
abbrev s__law_pick : Stmt := top 31
abbrev s__law_feeds : Stmt := top 32
abbrev s__law_table : Stmt := top 33
abbrev s__law_places : Stmt := top 34
abbrev s__law_least : Stmt := top 35
abbrev s__law_joined_right : Stmt := top 36
abbrev s__law_turned_right : Stmt := top 37
abbrev s__law_gaps : Stmt := top 38
abbrev s__law_rings_right : Stmt := top 39
abbrev s_law : Stmt := top 40
abbrev s_BadNumber_init : Stmt := inClass (top 3) 0
abbrev s_BadTable_init : Stmt := inClass (top 4) 0
abbrev s_BadText_init : Stmt := inClass (top 5) 0
abbrev s_NoItem_init : Stmt := inClass (top 6) 0
abbrev s_TooMany_init : Stmt := inClass (top 7) 0
abbrev s_Words_init : Stmt := inClass (top 16) 0
abbrev s_Words_seen : Stmt := inClass (top 16) 1
abbrev s_Words_is_used_up : Stmt := inClass (top 16) 2
abbrev s_Words_refuse : Stmt := inClass (top 16) 3
abbrev s_Words_take_number : Stmt := inClass (top 16) 6
abbrev s_Words_take_end : Stmt := inClass (top 16) 8
abbrev s_Table_init : Stmt := inClass (top 27) 0
abbrev s_Table_of_ring : Stmt := inClass (top 27) 1
abbrev s_Table_read : Stmt := inClass (top 27) 2
abbrev s_Table_turn : Stmt := inClass (top 27) 3
abbrev s_Table_len : Stmt := inClass (top 27) 5
abbrev s_Table_iter : Stmt := inClass (top 27) 6
abbrev s_Table_getitem : Stmt := inClass (top 27) 7
abbrev s_Table_call : Stmt := inClass (top 27) 8
abbrev s_Table_contains : Stmt := inClass (top 27) 9
abbrev s_Table_add : Stmt := inClass (top 27) 11
abbrev s_Table_mul : Stmt := inClass (top 27) 12
abbrev s_Table_lean : Stmt := inClass (top 27) 13
abbrev s_Table_turned : Stmt := inClass (top 27) 14
abbrev s_Table_as_ring : Stmt := inClass (top 27) 15
abbrev s_Table_eq : Stmt := inClass (top 27) 16
abbrev s_Table_str : Stmt := inClass (top 27) 17
def fnL : List HP.Df := [
  ⟨HP.gA "_wall", "_wall", "_wall", s__wall, []⟩,
  ⟨HP.gA "is_integer", "is_integer", "is_integer", s_is_integer, []⟩,
  ⟨HP.gA "is_within", "is_within", "is_within", s_is_within, []⟩,
  ⟨HP.gA "written", "written", "written", s_written, []⟩,
  ⟨HP.gA "number_of", "number_of", "number_of", s_number_of, []⟩,
  ⟨HP.gA "need_table", "need_table", "need_table", s_need_table, [.str "table"]⟩,
  ⟨HP.gA "need_count", "need_count", "need_count", s_need_count, []⟩,
  ⟨HP.gA "places_of", "places_of", "places_of", s_places_of, []⟩,
  ⟨HP.gA "least_part", "least_part", "least_part", s_least_part, []⟩,
  ⟨HP.gA "is_marked", "is_marked", "is_marked", s_is_marked, []⟩,
  ⟨HP.gA "take_feeds", "take_feeds", "take_feeds", s_take_feeds, []⟩,
  ⟨HP.gA "_law_pen", "_law_pen", "_law_pen", s__law_pen, []⟩,
  ⟨HP.gA "_law_draw", "_law_draw", "_law_draw", s__law_draw, []⟩,
  ⟨HP.gA "_law_pick", "_law_pick", "_law_pick", s__law_pick, []⟩,
  ⟨HP.gA "_law_feeds", "_law_feeds", "_law_feeds", s__law_feeds, []⟩,
  ⟨HP.gA "_law_table", "_law_table", "_law_table", s__law_table, []⟩,
  ⟨HP.gA "_law_places", "_law_places", "_law_places", s__law_places, []⟩,
  ⟨HP.gA "_law_least", "_law_least", "_law_least", s__law_least, []⟩,
  ⟨HP.gA "_law_joined_right", "_law_joined_right", "_law_joined_right", s__law_joined_right, []⟩,
  ⟨HP.gA "_law_turned_right", "_law_turned_right", "_law_turned_right", s__law_turned_right, []⟩,
  ⟨HP.gA "_law_gaps", "_law_gaps", "_law_gaps", s__law_gaps, []⟩,
  ⟨HP.gA "_law_rings_right", "_law_rings_right", "_law_rings_right", s__law_rings_right, []⟩,
  ⟨HP.gA "law", "law", "law", s_law, []⟩,
  ⟨HP.mA "Words" "__init__", "__init__", "Words.__init__", s_Words_init, [.int 0]⟩,
  ⟨HP.mA "Words" "seen", "seen", "Words.seen", s_Words_seen, []⟩,
  ⟨HP.mA "Words" "is_used_up", "is_used_up", "Words.is_used_up", s_Words_is_used_up, []⟩,
  ⟨HP.mA "Words" "refuse", "refuse", "Words.refuse", s_Words_refuse, []⟩,
  ⟨HP.mA "Words" "take_number", "take_number", "Words.take_number", s_Words_take_number, []⟩,
  ⟨HP.mA "Words" "take_end", "take_end", "Words.take_end", s_Words_take_end, []⟩,
  ⟨HP.mA "Table" "__init__", "__init__", "Table.__init__", s_Table_init, []⟩,
  ⟨HP.rA "Table" "of_ring" "staticmethod", "of_ring", "Table.of_ring", s_Table_of_ring, []⟩,
  ⟨HP.rA "Table" "read" "classmethod", "read", "Table.read", s_Table_read, []⟩,
  ⟨HP.rA "Table" "turn" "property", "turn", "Table.turn", s_Table_turn, []⟩,
  ⟨HP.mA "Table" "__len__", "__len__", "Table.__len__", s_Table_len, []⟩,
  ⟨HP.mA "Table" "__iter__", "__iter__", "Table.__iter__", s_Table_iter, []⟩,
  ⟨HP.mA "Table" "__getitem__", "__getitem__", "Table.__getitem__", s_Table_getitem, []⟩,
  ⟨HP.mA "Table" "__call__", "__call__", "Table.__call__", s_Table_call, []⟩,
  ⟨HP.mA "Table" "__contains__", "__contains__", "Table.__contains__", s_Table_contains, []⟩,
  ⟨HP.mA "Table" "__add__", "__add__", "Table.__add__", s_Table_add, []⟩,
  ⟨HP.mA "Table" "__mul__", "__mul__", "Table.__mul__", s_Table_mul, []⟩,
  ⟨HP.mA "Table" "lean", "lean", "Table.lean", s_Table_lean, []⟩,
  ⟨HP.mA "Table" "turned", "turned", "Table.turned", s_Table_turned, []⟩,
  ⟨HP.mA "Table" "as_ring", "as_ring", "Table.as_ring", s_Table_as_ring, []⟩,
  ⟨HP.mA "Table" "__eq__", "__eq__", "Table.__eq__", s_Table_eq, []⟩,
  ⟨HP.mA "Table" "__str__", "__str__", "Table.__str__", s_Table_str, []⟩]
def faL0 : List (PySem.W.Frag → Bool) := [
  HP.kGlo "_wall",
  HP.kGlo "is_integer",
  HP.kGlo "is_within",
  HP.kGlo "written",
  HP.kGlo "number_of",
  HP.kGlo "need_table",
  HP.kGlo "need_count",
  HP.kGlo "places_of",
  HP.kGlo "least_part",
  HP.kGlo "is_marked",
  HP.kGlo "take_feeds",
  HP.kGlo "_law_pen",
  HP.kGlo "_law_draw",
  HP.kGlo "_law_pick",
  HP.kGlo "_law_feeds",
  HP.kGlo "_law_table",
  HP.kGlo "_law_places",
  HP.kGlo "_law_least",
  HP.kGlo "_law_joined_right",
  HP.kGlo "_law_turned_right",
  HP.kGlo "_law_gaps",
  HP.kGlo "_law_rings_right",
  HP.kGlo "law",
  HP.kGlo "PassError",
  HP.kGlo "BadNumber",
  HP.kGlo "BadTable",
  HP.kGlo "BadText",
  HP.kGlo "NoItem",
  HP.kGlo "TooMany",
  HP.kGlo "Words",
  HP.kCls "Words",
  HP.kIns "Words",
  HP.kIsCls "Words",
  HP.kSelfF "Words",
  HP.kNoSeq "Words",
  HP.kNoat "Words" "row",
  HP.kNoat "Words" "place",
  HP.kNoat "Words" "line",
  HP.kMeth "Words" "__init__",
  HP.kFnIn (HP.mA "Words" "__init__")]
def faL1 : List (PySem.W.Frag → Bool) := [
  HP.kMkr "Words",
  HP.kMeth "Words" "seen",
  HP.kFnIn (HP.mA "Words" "seen"),
  HP.kMeth "Words" "is_used_up",
  HP.kFnIn (HP.mA "Words" "is_used_up"),
  HP.kMeth "Words" "refuse",
  HP.kFnIn (HP.mA "Words" "refuse"),
  HP.kMeth "Words" "take_number",
  HP.kFnIn (HP.mA "Words" "take_number"),
  HP.kMeth "Words" "take_end",
  HP.kFnIn (HP.mA "Words" "take_end"),
  HP.kGlo "Table",
  HP.kCls "Table",
  HP.kIns "Table",
  HP.kIsCls "Table",
  HP.kSelfF "Table",
  HP.kNoSeq "Table",
  HP.kNoat "Table" "feeds",
  HP.kNoat "Table" "places",
  HP.kMeth "Table" "__init__",
  HP.kFnIn (HP.mA "Table" "__init__"),
  HP.kMkr "Table",
  HP.kFnIn (HP.rA "Table" "of_ring" "staticmethod"),
  HP.kSmet "Table" "of_ring",
  HP.kFnIn (HP.rA "Table" "read" "classmethod"),
  HP.kFnIn (HP.rA "Table" "turn" "property"),
  HP.kProp "Table" "turn",
  HP.kMeth "Table" "__len__",
  HP.kFnIn (HP.mA "Table" "__len__"),
  HP.kMeth "Table" "__iter__",
  HP.kFnIn (HP.mA "Table" "__iter__"),
  HP.kMeth "Table" "__getitem__",
  HP.kFnIn (HP.mA "Table" "__getitem__"),
  HP.kMeth "Table" "__call__",
  HP.kFnIn (HP.mA "Table" "__call__"),
  HP.kCallo "Table",
  HP.kMeth "Table" "__contains__",
  HP.kFnIn (HP.mA "Table" "__contains__"),
  HP.kMeth "Table" "__add__",
  HP.kFnIn (HP.mA "Table" "__add__")]
def faL2 : List (PySem.W.Frag → Bool) := [
  HP.kNoin "Table" "add",
  HP.kNum "Table" "add",
  HP.kMeth "Table" "__mul__",
  HP.kFnIn (HP.mA "Table" "__mul__"),
  HP.kNoin "Table" "mul",
  HP.kNum "Table" "mul",
  HP.kMeth "Table" "lean",
  HP.kFnIn (HP.mA "Table" "lean"),
  HP.kMeth "Table" "turned",
  HP.kFnIn (HP.mA "Table" "turned"),
  HP.kMeth "Table" "as_ring",
  HP.kFnIn (HP.mA "Table" "as_ring"),
  HP.kMeth "Table" "__eq__",
  HP.kFnIn (HP.mA "Table" "__eq__"),
  HP.kRgt "Table",
  HP.kNe "Table",
  HP.kMeth "Table" "__str__",
  HP.kFnIn (HP.mA "Table" "__str__"),
  HP.kFree "ValueError",
  HP.kFree "abs",
  HP.kFree "all",
  HP.kFree "bool",
  HP.kFree "classmethod",
  HP.kFree "divmod",
  HP.kFree "enumerate",
  HP.kFree "int",
  HP.kFree "isinstance",
  HP.kFree "iter",
  HP.kFree "len",
  HP.kFree "list",
  HP.kFree "property",
  HP.kFree "range",
  HP.kFree "staticmethod",
  HP.kFree "str",
  HP.kFree "sum",
  HP.kFree "super",
  HP.kFree "tuple",
  HP.kFree "zip",
  HP.kInt "MOST_PLACE" (1000000000000000000000000000000),
  HP.kInt "MOST_DIGITS" (60)]
def faL3 : List (PySem.W.Frag → Bool) := [
  HP.kInt "MOST_FEED" (100),
  HP.kInt "MOST_FEEDS" (50),
  HP.kInt "MOST_RING" (2000)]
def faL : List (PySem.W.Frag → Bool) := faL0 ++ faL1 ++ faL2 ++ faL3
abbrev nmL0 : List Str := ["_wall", "PassError", "BadNumber", "BadTable", "BadText", "NoItem", "TooMany", "MOST_PLACE", "MOST_DIGITS", "is_integer", "is_within", "written", "number_of", "Words", "MOST_FEED", "MOST_FEEDS", "MOST_RING", "need_table", "need_count", "places_of", "least_part", "is_marked", "take_feeds", "Table", "_law_pen", "_law_draw", "_law_pick", "_law_feeds", "_law_table", "_law_places"]
abbrev nmL1 : List Str := ["_law_least", "_law_joined_right", "_law_turned_right", "_law_gaps", "_law_rings_right"]
abbrev nmL : List Str := nmL0 ++ nmL1
abbrev R : PySem.W.OpenRow := PySem.W.OpenLaw.row PySem.Challenge.rw_headpasses_k67_tables_joined_and_turned
abbrev hk : PySem.W.Hook := HP.hook 5 faL fnL
def ob (s : PySem.W.SharedT) : HP.Ob := HP.obT 5 faL fnL s
theorem ob_eq (s : PySem.W.SharedT) : ob s = hk.obs s.abs := HP.obT_eq 5 faL fnL s
theorem run (w : World) : HandSHeadRun.RunEq R (PySem.W.view R.prog [40]) hk ob 4000 nmL w := by
  intro os
  kernel_rfl
end HL
namespace HL
open PySem PySem.Spec PyProof.Rows L2
structure Tx (K : PySem.W.Frag) (mg : Str → Option Value) : Prop where
  says : HP.Says faL fnL K
  g : ∀ x u, PySem.W.nsIn K mainGlobals x = some (some u) → mg x = some u
  n : ∀ x, PySem.W.nsIn K mainGlobals x = some none → mg x = none
theorem tx_of {K : PySem.W.Frag} {mg : Str → Option Value} {h : Heap} (X : K.In h) (G : h.Ns mainGlobals mg) (s : HP.Says faL fnL K) : Tx K mg := ⟨s, fun _ _ e => PySem.W.mg_of X G e, fun _ e => PySem.W.mg_none_of X G e⟩
section
variable {K : PySem.W.Frag} {mg : Str → Option Value} (T : Tx K mg)
include T
theorem f_glo__wall : mg "_wall" = some (.ref (HP.gA "_wall" K)) := T.g _ _ (He.eqO_ok (T.says.fact 0))
theorem f_glo_is_integer : mg "is_integer" = some (.ref (HP.gA "is_integer" K)) := T.g _ _ (He.eqO_ok (T.says.fact 1))
theorem f_glo_is_within : mg "is_within" = some (.ref (HP.gA "is_within" K)) := T.g _ _ (He.eqO_ok (T.says.fact 2))
theorem f_glo_written : mg "written" = some (.ref (HP.gA "written" K)) := T.g _ _ (He.eqO_ok (T.says.fact 3))
theorem f_glo_number_of : mg "number_of" = some (.ref (HP.gA "number_of" K)) := T.g _ _ (He.eqO_ok (T.says.fact 4))
theorem f_glo_need_table : mg "need_table" = some (.ref (HP.gA "need_table" K)) := T.g _ _ (He.eqO_ok (T.says.fact 5))
theorem f_glo_need_count : mg "need_count" = some (.ref (HP.gA "need_count" K)) := T.g _ _ (He.eqO_ok (T.says.fact 6))
theorem f_glo_places_of : mg "places_of" = some (.ref (HP.gA "places_of" K)) := T.g _ _ (He.eqO_ok (T.says.fact 7))
theorem f_glo_least_part : mg "least_part" = some (.ref (HP.gA "least_part" K)) := T.g _ _ (He.eqO_ok (T.says.fact 8))
theorem f_glo_is_marked : mg "is_marked" = some (.ref (HP.gA "is_marked" K)) := T.g _ _ (He.eqO_ok (T.says.fact 9))
theorem f_glo_take_feeds : mg "take_feeds" = some (.ref (HP.gA "take_feeds" K)) := T.g _ _ (He.eqO_ok (T.says.fact 10))
theorem f_glo__law_pen : mg "_law_pen" = some (.ref (HP.gA "_law_pen" K)) := T.g _ _ (He.eqO_ok (T.says.fact 11))
theorem f_glo__law_draw : mg "_law_draw" = some (.ref (HP.gA "_law_draw" K)) := T.g _ _ (He.eqO_ok (T.says.fact 12))
theorem f_glo__law_pick : mg "_law_pick" = some (.ref (HP.gA "_law_pick" K)) := T.g _ _ (He.eqO_ok (T.says.fact 13))
theorem f_glo__law_feeds : mg "_law_feeds" = some (.ref (HP.gA "_law_feeds" K)) := T.g _ _ (He.eqO_ok (T.says.fact 14))
theorem f_glo__law_table : mg "_law_table" = some (.ref (HP.gA "_law_table" K)) := T.g _ _ (He.eqO_ok (T.says.fact 15))
theorem f_glo__law_places : mg "_law_places" = some (.ref (HP.gA "_law_places" K)) := T.g _ _ (He.eqO_ok (T.says.fact 16))
theorem f_glo__law_least : mg "_law_least" = some (.ref (HP.gA "_law_least" K)) := T.g _ _ (He.eqO_ok (T.says.fact 17))
theorem f_glo__law_joined_right : mg "_law_joined_right" = some (.ref (HP.gA "_law_joined_right" K)) := T.g _ _ (He.eqO_ok (T.says.fact 18))
theorem f_glo__law_turned_right : mg "_law_turned_right" = some (.ref (HP.gA "_law_turned_right" K)) := T.g _ _ (He.eqO_ok (T.says.fact 19))
theorem f_glo__law_gaps : mg "_law_gaps" = some (.ref (HP.gA "_law_gaps" K)) := T.g _ _ (He.eqO_ok (T.says.fact 20))
theorem f_glo__law_rings_right : mg "_law_rings_right" = some (.ref (HP.gA "_law_rings_right" K)) := T.g _ _ (He.eqO_ok (T.says.fact 21))
theorem f_glo_law : mg "law" = some (.ref (HP.gA "law" K)) := T.g _ _ (He.eqO_ok (T.says.fact 22))
theorem f_glo_PassError : mg "PassError" = some (.ref (HP.gA "PassError" K)) := T.g _ _ (He.eqO_ok (T.says.fact 23))
theorem f_glo_BadNumber : mg "BadNumber" = some (.ref (HP.gA "BadNumber" K)) := T.g _ _ (He.eqO_ok (T.says.fact 24))
theorem f_glo_BadTable : mg "BadTable" = some (.ref (HP.gA "BadTable" K)) := T.g _ _ (He.eqO_ok (T.says.fact 25))
theorem f_glo_BadText : mg "BadText" = some (.ref (HP.gA "BadText" K)) := T.g _ _ (He.eqO_ok (T.says.fact 26))
theorem f_glo_NoItem : mg "NoItem" = some (.ref (HP.gA "NoItem" K)) := T.g _ _ (He.eqO_ok (T.says.fact 27))
theorem f_glo_TooMany : mg "TooMany" = some (.ref (HP.gA "TooMany" K)) := T.g _ _ (He.eqO_ok (T.says.fact 28))
theorem f_glo_Words : mg "Words" = some (.ref (HP.gA "Words" K)) := T.g _ _ (He.eqO_ok (T.says.fact 29))
theorem f_cls_Words : Cls K (HP.gA "Words" K) := He.cls_ok (T.says.fact 30)
theorem f_ins_Words : ∀ {H : Hp} {a dx : Addr} {fs : List (Str × V)}, H a = some (.ins (HP.gA "Words" K) dx fs) → TyX K H (.ref a) (.ref (HP.gA "Words" K)) := fun e => HP.kIns_ok (T.says.fact 31) (f_cls_Words T) e
theorem f_isc_Words : PySem.W.isClsIn K (HP.gA "Words" K) = true := (T.says.fact 32)
theorem f_sff_Words : PySem.W.selfFirst K (HP.gA "Words" K) = true := (T.says.fact 33)
theorem f_nsq_Words : PySem.W.noSeq K (HP.gA "Words" K) = true := (T.says.fact 34)
theorem f_noat_Words_row : NoAttr K (HP.gA "Words" K) "row" := He.noat_ok (T.says.fact 35)
theorem f_noat_Words_place : NoAttr K (HP.gA "Words" K) "place" := He.noat_ok (T.says.fact 36)
theorem f_noat_Words_line : NoAttr K (HP.gA "Words" K) "line" := He.noat_ok (T.says.fact 37)
theorem f_meth_Words___init__ : Meth K (HP.gA "Words" K) "__init__" (HP.mA "Words" "__init__" K) := He.meth_ok (T.says.fact 38)
theorem f_fni_Words___init__ : PySem.W.fnIn K (HP.mA "Words" "__init__" K) = true := (T.says.fact 39)
theorem f_mkr_Words : Mk K (HP.gA "Words" K) (HP.mA "Words" "__init__" K) := He.mkr_ok (T.says.fact 40)
theorem f_meth_Words_seen : Meth K (HP.gA "Words" K) "seen" (HP.mA "Words" "seen" K) := He.meth_ok (T.says.fact 41)
theorem f_fni_Words_seen : PySem.W.fnIn K (HP.mA "Words" "seen" K) = true := (T.says.fact 42)
theorem f_meth_Words_is_used_up : Meth K (HP.gA "Words" K) "is_used_up" (HP.mA "Words" "is_used_up" K) := He.meth_ok (T.says.fact 43)
theorem f_fni_Words_is_used_up : PySem.W.fnIn K (HP.mA "Words" "is_used_up" K) = true := (T.says.fact 44)
theorem f_meth_Words_refuse : Meth K (HP.gA "Words" K) "refuse" (HP.mA "Words" "refuse" K) := He.meth_ok (T.says.fact 45)
theorem f_fni_Words_refuse : PySem.W.fnIn K (HP.mA "Words" "refuse" K) = true := (T.says.fact 46)
theorem f_meth_Words_take_number : Meth K (HP.gA "Words" K) "take_number" (HP.mA "Words" "take_number" K) := He.meth_ok (T.says.fact 47)
theorem f_fni_Words_take_number : PySem.W.fnIn K (HP.mA "Words" "take_number" K) = true := (T.says.fact 48)
theorem f_meth_Words_take_end : Meth K (HP.gA "Words" K) "take_end" (HP.mA "Words" "take_end" K) := He.meth_ok (T.says.fact 49)
theorem f_fni_Words_take_end : PySem.W.fnIn K (HP.mA "Words" "take_end" K) = true := (T.says.fact 50)
theorem f_glo_Table : mg "Table" = some (.ref (HP.gA "Table" K)) := T.g _ _ (He.eqO_ok (T.says.fact 51))
theorem f_cls_Table : Cls K (HP.gA "Table" K) := He.cls_ok (T.says.fact 52)
theorem f_ins_Table : ∀ {H : Hp} {a dx : Addr} {fs : List (Str × V)}, H a = some (.ins (HP.gA "Table" K) dx fs) → TyX K H (.ref a) (.ref (HP.gA "Table" K)) := fun e => HP.kIns_ok (T.says.fact 53) (f_cls_Table T) e
theorem f_isc_Table : PySem.W.isClsIn K (HP.gA "Table" K) = true := (T.says.fact 54)
theorem f_sff_Table : PySem.W.selfFirst K (HP.gA "Table" K) = true := (T.says.fact 55)
theorem f_nsq_Table : PySem.W.noSeq K (HP.gA "Table" K) = true := (T.says.fact 56)
theorem f_noat_Table_feeds : NoAttr K (HP.gA "Table" K) "feeds" := He.noat_ok (T.says.fact 57)
theorem f_noat_Table_places : NoAttr K (HP.gA "Table" K) "places" := He.noat_ok (T.says.fact 58)
theorem f_meth_Table___init__ : Meth K (HP.gA "Table" K) "__init__" (HP.mA "Table" "__init__" K) := He.meth_ok (T.says.fact 59)
theorem f_fni_Table___init__ : PySem.W.fnIn K (HP.mA "Table" "__init__" K) = true := (T.says.fact 60)
theorem f_mkr_Table : Mk K (HP.gA "Table" K) (HP.mA "Table" "__init__" K) := He.mkr_ok (T.says.fact 61)
theorem f_fni_Table_of_ring : PySem.W.fnIn K (HP.rA "Table" "of_ring" "staticmethod" K) = true := (T.says.fact 62)
theorem f_smet_Table_of_ring : HP.SMet K (HP.gA "Table" K) (.type "type") "of_ring" (HP.mA "Table" "of_ring" K) (HP.rA "Table" "of_ring" "staticmethod" K) := HP.kSmet_ok (T.says.fact 63)
theorem f_fni_Table_read : PySem.W.fnIn K (HP.rA "Table" "read" "classmethod" K) = true := (T.says.fact 64)
theorem f_fni_Table_turn : PySem.W.fnIn K (HP.rA "Table" "turn" "property" K) = true := (T.says.fact 65)
theorem f_prop_Table_turn : PropOf K (HP.gA "Table" K) "turn" (HP.mA "Table" "turn" K) (HP.rA "Table" "turn" "property" K) := HP.kProp_ok (T.says.fact 66)
theorem f_meth_Table___len__ : Meth K (HP.gA "Table" K) "__len__" (HP.mA "Table" "__len__" K) := He.meth_ok (T.says.fact 67)
theorem f_fni_Table___len__ : PySem.W.fnIn K (HP.mA "Table" "__len__" K) = true := (T.says.fact 68)
theorem f_meth_Table___iter__ : Meth K (HP.gA "Table" K) "__iter__" (HP.mA "Table" "__iter__" K) := He.meth_ok (T.says.fact 69)
theorem f_fni_Table___iter__ : PySem.W.fnIn K (HP.mA "Table" "__iter__" K) = true := (T.says.fact 70)
theorem f_meth_Table___getitem__ : Meth K (HP.gA "Table" K) "__getitem__" (HP.mA "Table" "__getitem__" K) := He.meth_ok (T.says.fact 71)
theorem f_fni_Table___getitem__ : PySem.W.fnIn K (HP.mA "Table" "__getitem__" K) = true := (T.says.fact 72)
theorem f_meth_Table___call__ : Meth K (HP.gA "Table" K) "__call__" (HP.mA "Table" "__call__" K) := He.meth_ok (T.says.fact 73)
theorem f_fni_Table___call__ : PySem.W.fnIn K (HP.mA "Table" "__call__" K) = true := (T.says.fact 74)
theorem f_callo_Table : StX.CallO K (HP.gA "Table" K) (HP.mA "Table" "__call__" K) := HP.kCallo_ok (T.says.fact 75)
theorem f_meth_Table___contains__ : Meth K (HP.gA "Table" K) "__contains__" (HP.mA "Table" "__contains__" K) := He.meth_ok (T.says.fact 76)
theorem f_fni_Table___contains__ : PySem.W.fnIn K (HP.mA "Table" "__contains__" K) = true := (T.says.fact 77)
theorem f_meth_Table___add__ : Meth K (HP.gA "Table" K) "__add__" (HP.mA "Table" "__add__" K) := He.meth_ok (T.says.fact 78)
theorem f_fni_Table___add__ : PySem.W.fnIn K (HP.mA "Table" "__add__" K) = true := (T.says.fact 79)
theorem f_noin_Table_Add : HP.noInpl K (HP.gA "Table" K) (PySem.dunderI "add") = true := (T.says.fact 80)
theorem f_num_Table_Add : HP.NumOf K (HP.gA "Table" K) "add" := HP.kNum_ok (T.says.fact 81)
theorem f_meth_Table___mul__ : Meth K (HP.gA "Table" K) "__mul__" (HP.mA "Table" "__mul__" K) := He.meth_ok (T.says.fact 82)
theorem f_fni_Table___mul__ : PySem.W.fnIn K (HP.mA "Table" "__mul__" K) = true := (T.says.fact 83)
theorem f_noin_Table_Mult : HP.noInpl K (HP.gA "Table" K) (PySem.dunderI "mul") = true := (T.says.fact 84)
theorem f_num_Table_Mult : HP.NumOf K (HP.gA "Table" K) "mul" := HP.kNum_ok (T.says.fact 85)
theorem f_meth_Table_lean : Meth K (HP.gA "Table" K) "lean" (HP.mA "Table" "lean" K) := He.meth_ok (T.says.fact 86)
theorem f_fni_Table_lean : PySem.W.fnIn K (HP.mA "Table" "lean" K) = true := (T.says.fact 87)
theorem f_meth_Table_turned : Meth K (HP.gA "Table" K) "turned" (HP.mA "Table" "turned" K) := He.meth_ok (T.says.fact 88)
theorem f_fni_Table_turned : PySem.W.fnIn K (HP.mA "Table" "turned" K) = true := (T.says.fact 89)
theorem f_meth_Table_as_ring : Meth K (HP.gA "Table" K) "as_ring" (HP.mA "Table" "as_ring" K) := He.meth_ok (T.says.fact 90)
theorem f_fni_Table_as_ring : PySem.W.fnIn K (HP.mA "Table" "as_ring" K) = true := (T.says.fact 91)
theorem f_meth_Table___eq__ : Meth K (HP.gA "Table" K) "__eq__" (HP.mA "Table" "__eq__" K) := He.meth_ok (T.says.fact 92)
theorem f_fni_Table___eq__ : PySem.W.fnIn K (HP.mA "Table" "__eq__" K) = true := (T.says.fact 93)
theorem f_rgt_Table : HP.rightsB K (HP.gA "Table" K) = true := (T.says.fact 94)
theorem f_ne_Table : PySem.W.findIn K (.ref (HP.gA "Table" K)) "__ne__" = some (some (.builtin "object.__ne__")) ∧ PySem.W.subIn K (.ref (HP.gA "Table" K)) (.type "object") = some true := HP.kNe_ok (T.says.fact 95)
theorem f_meth_Table___str__ : Meth K (HP.gA "Table" K) "__str__" (HP.mA "Table" "__str__" K) := He.meth_ok (T.says.fact 96)
theorem f_fni_Table___str__ : PySem.W.fnIn K (HP.mA "Table" "__str__" K) = true := (T.says.fact 97)
theorem f_free_ValueError : mg "ValueError" = none := T.n _ (He.eqO_ok (T.says.fact 98))
theorem f_free_abs : mg "abs" = none := T.n _ (He.eqO_ok (T.says.fact 99))
theorem f_free_all : mg "all" = none := T.n _ (He.eqO_ok (T.says.fact 100))
theorem f_free_bool : mg "bool" = none := T.n _ (He.eqO_ok (T.says.fact 101))
theorem f_free_classmethod : mg "classmethod" = none := T.n _ (He.eqO_ok (T.says.fact 102))
theorem f_free_divmod : mg "divmod" = none := T.n _ (He.eqO_ok (T.says.fact 103))
theorem f_free_enumerate : mg "enumerate" = none := T.n _ (He.eqO_ok (T.says.fact 104))
theorem f_free_int : mg "int" = none := T.n _ (He.eqO_ok (T.says.fact 105))
theorem f_free_isinstance : mg "isinstance" = none := T.n _ (He.eqO_ok (T.says.fact 106))
theorem f_free_iter : mg "iter" = none := T.n _ (He.eqO_ok (T.says.fact 107))
theorem f_free_len : mg "len" = none := T.n _ (He.eqO_ok (T.says.fact 108))
theorem f_free_list : mg "list" = none := T.n _ (He.eqO_ok (T.says.fact 109))
theorem f_free_property : mg "property" = none := T.n _ (He.eqO_ok (T.says.fact 110))
theorem f_free_range : mg "range" = none := T.n _ (He.eqO_ok (T.says.fact 111))
theorem f_free_staticmethod : mg "staticmethod" = none := T.n _ (He.eqO_ok (T.says.fact 112))
theorem f_free_str : mg "str" = none := T.n _ (He.eqO_ok (T.says.fact 113))
theorem f_free_sum : mg "sum" = none := T.n _ (He.eqO_ok (T.says.fact 114))
theorem f_free_super : mg "super" = none := T.n _ (He.eqO_ok (T.says.fact 115))
theorem f_free_tuple : mg "tuple" = none := T.n _ (He.eqO_ok (T.says.fact 116))
theorem f_free_zip : mg "zip" = none := T.n _ (He.eqO_ok (T.says.fact 117))
theorem f_int_MOST_PLACE : ∃ t, mg "MOST_PLACE" = some (.int (1000000000000000000000000000000) t) := by
  obtain ⟨t, e⟩ := HP.kInt_ok (T.says.fact 118)
  exact ⟨t, T.g _ _ e⟩
theorem f_int_MOST_DIGITS : ∃ t, mg "MOST_DIGITS" = some (.int (60) t) := by
  obtain ⟨t, e⟩ := HP.kInt_ok (T.says.fact 119)
  exact ⟨t, T.g _ _ e⟩
theorem f_int_MOST_FEED : ∃ t, mg "MOST_FEED" = some (.int (100) t) := by
  obtain ⟨t, e⟩ := HP.kInt_ok (T.says.fact 120)
  exact ⟨t, T.g _ _ e⟩
theorem f_int_MOST_FEEDS : ∃ t, mg "MOST_FEEDS" = some (.int (50) t) := by
  obtain ⟨t, e⟩ := HP.kInt_ok (T.says.fact 121)
  exact ⟨t, T.g _ _ e⟩
theorem f_int_MOST_RING : ∃ t, mg "MOST_RING" = some (.int (2000) t) := by
  obtain ⟨t, e⟩ := HP.kInt_ok (T.says.fact 122)
  exact ⟨t, T.g _ _ e⟩
theorem d__wall : ∃ fd, FunD K "_wall" "_wall" (defArgs s__wall) (defBody s__wall) (defScope s__wall) [] [] (HP.gA "_wall" K) fd := T.says.def_ 0
theorem kp__wall : PySem.W.keepIn K (.ref (HP.gA "_wall" K)) = true := (d__wall T).choose_spec.kp
theorem d_is_integer : ∃ fd, FunD K "is_integer" "is_integer" (defArgs s_is_integer) (defBody s_is_integer) (defScope s_is_integer) [] [] (HP.gA "is_integer" K) fd := T.says.def_ 1
theorem kp_is_integer : PySem.W.keepIn K (.ref (HP.gA "is_integer" K)) = true := (d_is_integer T).choose_spec.kp
theorem d_is_within : ∃ fd, FunD K "is_within" "is_within" (defArgs s_is_within) (defBody s_is_within) (defScope s_is_within) [] [] (HP.gA "is_within" K) fd := T.says.def_ 2
theorem kp_is_within : PySem.W.keepIn K (.ref (HP.gA "is_within" K)) = true := (d_is_within T).choose_spec.kp
theorem d_written : ∃ fd, FunD K "written" "written" (defArgs s_written) (defBody s_written) (defScope s_written) [] [] (HP.gA "written" K) fd := T.says.def_ 3
theorem kp_written : PySem.W.keepIn K (.ref (HP.gA "written" K)) = true := (d_written T).choose_spec.kp
theorem d_number_of : ∃ fd, FunD K "number_of" "number_of" (defArgs s_number_of) (defBody s_number_of) (defScope s_number_of) [] [] (HP.gA "number_of" K) fd := T.says.def_ 4
theorem kp_number_of : PySem.W.keepIn K (.ref (HP.gA "number_of" K)) = true := (d_number_of T).choose_spec.kp
theorem d_need_table : ∃ fd, FunD K "need_table" "need_table" (defArgs s_need_table) (defBody s_need_table) (defScope s_need_table) [.str "table"] [] (HP.gA "need_table" K) fd := T.says.def_ 5
theorem kp_need_table : PySem.W.keepIn K (.ref (HP.gA "need_table" K)) = true := (d_need_table T).choose_spec.kp
theorem d_need_count : ∃ fd, FunD K "need_count" "need_count" (defArgs s_need_count) (defBody s_need_count) (defScope s_need_count) [] [] (HP.gA "need_count" K) fd := T.says.def_ 6
theorem kp_need_count : PySem.W.keepIn K (.ref (HP.gA "need_count" K)) = true := (d_need_count T).choose_spec.kp
theorem d_places_of : ∃ fd, FunD K "places_of" "places_of" (defArgs s_places_of) (defBody s_places_of) (defScope s_places_of) [] [] (HP.gA "places_of" K) fd := T.says.def_ 7
theorem kp_places_of : PySem.W.keepIn K (.ref (HP.gA "places_of" K)) = true := (d_places_of T).choose_spec.kp
theorem d_least_part : ∃ fd, FunD K "least_part" "least_part" (defArgs s_least_part) (defBody s_least_part) (defScope s_least_part) [] [] (HP.gA "least_part" K) fd := T.says.def_ 8
theorem kp_least_part : PySem.W.keepIn K (.ref (HP.gA "least_part" K)) = true := (d_least_part T).choose_spec.kp
theorem d_is_marked : ∃ fd, FunD K "is_marked" "is_marked" (defArgs s_is_marked) (defBody s_is_marked) (defScope s_is_marked) [] [] (HP.gA "is_marked" K) fd := T.says.def_ 9
theorem kp_is_marked : PySem.W.keepIn K (.ref (HP.gA "is_marked" K)) = true := (d_is_marked T).choose_spec.kp
theorem d_take_feeds : ∃ fd, FunD K "take_feeds" "take_feeds" (defArgs s_take_feeds) (defBody s_take_feeds) (defScope s_take_feeds) [] [] (HP.gA "take_feeds" K) fd := T.says.def_ 10
theorem kp_take_feeds : PySem.W.keepIn K (.ref (HP.gA "take_feeds" K)) = true := (d_take_feeds T).choose_spec.kp
theorem d__law_pen : ∃ fd, FunD K "_law_pen" "_law_pen" (defArgs s__law_pen) (defBody s__law_pen) (defScope s__law_pen) [] [] (HP.gA "_law_pen" K) fd := T.says.def_ 11
theorem kp__law_pen : PySem.W.keepIn K (.ref (HP.gA "_law_pen" K)) = true := (d__law_pen T).choose_spec.kp
theorem d__law_draw : ∃ fd, FunD K "_law_draw" "_law_draw" (defArgs s__law_draw) (defBody s__law_draw) (defScope s__law_draw) [] [] (HP.gA "_law_draw" K) fd := T.says.def_ 12
theorem kp__law_draw : PySem.W.keepIn K (.ref (HP.gA "_law_draw" K)) = true := (d__law_draw T).choose_spec.kp
theorem d__law_pick : ∃ fd, FunD K "_law_pick" "_law_pick" (defArgs s__law_pick) (defBody s__law_pick) (defScope s__law_pick) [] [] (HP.gA "_law_pick" K) fd := T.says.def_ 13
theorem kp__law_pick : PySem.W.keepIn K (.ref (HP.gA "_law_pick" K)) = true := (d__law_pick T).choose_spec.kp
theorem d__law_feeds : ∃ fd, FunD K "_law_feeds" "_law_feeds" (defArgs s__law_feeds) (defBody s__law_feeds) (defScope s__law_feeds) [] [] (HP.gA "_law_feeds" K) fd := T.says.def_ 14
theorem kp__law_feeds : PySem.W.keepIn K (.ref (HP.gA "_law_feeds" K)) = true := (d__law_feeds T).choose_spec.kp
theorem d__law_table : ∃ fd, FunD K "_law_table" "_law_table" (defArgs s__law_table) (defBody s__law_table) (defScope s__law_table) [] [] (HP.gA "_law_table" K) fd := T.says.def_ 15
theorem kp__law_table : PySem.W.keepIn K (.ref (HP.gA "_law_table" K)) = true := (d__law_table T).choose_spec.kp
theorem d__law_places : ∃ fd, FunD K "_law_places" "_law_places" (defArgs s__law_places) (defBody s__law_places) (defScope s__law_places) [] [] (HP.gA "_law_places" K) fd := T.says.def_ 16
theorem kp__law_places : PySem.W.keepIn K (.ref (HP.gA "_law_places" K)) = true := (d__law_places T).choose_spec.kp
theorem d__law_least : ∃ fd, FunD K "_law_least" "_law_least" (defArgs s__law_least) (defBody s__law_least) (defScope s__law_least) [] [] (HP.gA "_law_least" K) fd := T.says.def_ 17
theorem kp__law_least : PySem.W.keepIn K (.ref (HP.gA "_law_least" K)) = true := (d__law_least T).choose_spec.kp
theorem d__law_joined_right : ∃ fd, FunD K "_law_joined_right" "_law_joined_right" (defArgs s__law_joined_right) (defBody s__law_joined_right) (defScope s__law_joined_right) [] [] (HP.gA "_law_joined_right" K) fd := T.says.def_ 18
theorem kp__law_joined_right : PySem.W.keepIn K (.ref (HP.gA "_law_joined_right" K)) = true := (d__law_joined_right T).choose_spec.kp
theorem d__law_turned_right : ∃ fd, FunD K "_law_turned_right" "_law_turned_right" (defArgs s__law_turned_right) (defBody s__law_turned_right) (defScope s__law_turned_right) [] [] (HP.gA "_law_turned_right" K) fd := T.says.def_ 19
theorem kp__law_turned_right : PySem.W.keepIn K (.ref (HP.gA "_law_turned_right" K)) = true := (d__law_turned_right T).choose_spec.kp
theorem d__law_gaps : ∃ fd, FunD K "_law_gaps" "_law_gaps" (defArgs s__law_gaps) (defBody s__law_gaps) (defScope s__law_gaps) [] [] (HP.gA "_law_gaps" K) fd := T.says.def_ 20
theorem kp__law_gaps : PySem.W.keepIn K (.ref (HP.gA "_law_gaps" K)) = true := (d__law_gaps T).choose_spec.kp
theorem d__law_rings_right : ∃ fd, FunD K "_law_rings_right" "_law_rings_right" (defArgs s__law_rings_right) (defBody s__law_rings_right) (defScope s__law_rings_right) [] [] (HP.gA "_law_rings_right" K) fd := T.says.def_ 21
theorem kp__law_rings_right : PySem.W.keepIn K (.ref (HP.gA "_law_rings_right" K)) = true := (d__law_rings_right T).choose_spec.kp
theorem d_law : ∃ fd, FunD K "law" "law" (defArgs s_law) (defBody s_law) (defScope s_law) [] [] (HP.gA "law" K) fd := T.says.def_ 22
theorem kp_law : PySem.W.keepIn K (.ref (HP.gA "law" K)) = true := (d_law T).choose_spec.kp
theorem d_Words_init : ∃ fd, FunD K "__init__" "Words.__init__" (defArgs s_Words_init) (defBody s_Words_init) (defScope s_Words_init) [.int 0] [] (HP.mA "Words" "__init__" K) fd := T.says.def_ 23
theorem kp_Words_init : PySem.W.keepIn K (.ref (HP.mA "Words" "__init__" K)) = true := (d_Words_init T).choose_spec.kp
theorem d_Words_seen : ∃ fd, FunD K "seen" "Words.seen" (defArgs s_Words_seen) (defBody s_Words_seen) (defScope s_Words_seen) [] [] (HP.mA "Words" "seen" K) fd := T.says.def_ 24
theorem kp_Words_seen : PySem.W.keepIn K (.ref (HP.mA "Words" "seen" K)) = true := (d_Words_seen T).choose_spec.kp
theorem d_Words_is_used_up : ∃ fd, FunD K "is_used_up" "Words.is_used_up" (defArgs s_Words_is_used_up) (defBody s_Words_is_used_up) (defScope s_Words_is_used_up) [] [] (HP.mA "Words" "is_used_up" K) fd := T.says.def_ 25
theorem kp_Words_is_used_up : PySem.W.keepIn K (.ref (HP.mA "Words" "is_used_up" K)) = true := (d_Words_is_used_up T).choose_spec.kp
theorem d_Words_refuse : ∃ fd, FunD K "refuse" "Words.refuse" (defArgs s_Words_refuse) (defBody s_Words_refuse) (defScope s_Words_refuse) [] [] (HP.mA "Words" "refuse" K) fd := T.says.def_ 26
theorem kp_Words_refuse : PySem.W.keepIn K (.ref (HP.mA "Words" "refuse" K)) = true := (d_Words_refuse T).choose_spec.kp
theorem d_Words_take_number : ∃ fd, FunD K "take_number" "Words.take_number" (defArgs s_Words_take_number) (defBody s_Words_take_number) (defScope s_Words_take_number) [] [] (HP.mA "Words" "take_number" K) fd := T.says.def_ 27
theorem kp_Words_take_number : PySem.W.keepIn K (.ref (HP.mA "Words" "take_number" K)) = true := (d_Words_take_number T).choose_spec.kp
theorem d_Words_take_end : ∃ fd, FunD K "take_end" "Words.take_end" (defArgs s_Words_take_end) (defBody s_Words_take_end) (defScope s_Words_take_end) [] [] (HP.mA "Words" "take_end" K) fd := T.says.def_ 28
theorem kp_Words_take_end : PySem.W.keepIn K (.ref (HP.mA "Words" "take_end" K)) = true := (d_Words_take_end T).choose_spec.kp
theorem d_Table_init : ∃ fd, FunD K "__init__" "Table.__init__" (defArgs s_Table_init) (defBody s_Table_init) (defScope s_Table_init) [] [] (HP.mA "Table" "__init__" K) fd := T.says.def_ 29
theorem kp_Table_init : PySem.W.keepIn K (.ref (HP.mA "Table" "__init__" K)) = true := (d_Table_init T).choose_spec.kp
theorem d_Table_of_ring : ∃ fd, FunD K "of_ring" "Table.of_ring" (defArgs s_Table_of_ring) (defBody s_Table_of_ring) (defScope s_Table_of_ring) [] [] (HP.rA "Table" "of_ring" "staticmethod" K) fd := T.says.def_ 30
theorem kp_Table_of_ring : PySem.W.keepIn K (.ref (HP.rA "Table" "of_ring" "staticmethod" K)) = true := (d_Table_of_ring T).choose_spec.kp
theorem d_Table_read : ∃ fd, FunD K "read" "Table.read" (defArgs s_Table_read) (defBody s_Table_read) (defScope s_Table_read) [] [] (HP.rA "Table" "read" "classmethod" K) fd := T.says.def_ 31
theorem kp_Table_read : PySem.W.keepIn K (.ref (HP.rA "Table" "read" "classmethod" K)) = true := (d_Table_read T).choose_spec.kp
theorem d_Table_turn : ∃ fd, FunD K "turn" "Table.turn" (defArgs s_Table_turn) (defBody s_Table_turn) (defScope s_Table_turn) [] [] (HP.rA "Table" "turn" "property" K) fd := T.says.def_ 32
theorem kp_Table_turn : PySem.W.keepIn K (.ref (HP.rA "Table" "turn" "property" K)) = true := (d_Table_turn T).choose_spec.kp
theorem d_Table_len : ∃ fd, FunD K "__len__" "Table.__len__" (defArgs s_Table_len) (defBody s_Table_len) (defScope s_Table_len) [] [] (HP.mA "Table" "__len__" K) fd := T.says.def_ 33
theorem kp_Table_len : PySem.W.keepIn K (.ref (HP.mA "Table" "__len__" K)) = true := (d_Table_len T).choose_spec.kp
theorem d_Table_iter : ∃ fd, FunD K "__iter__" "Table.__iter__" (defArgs s_Table_iter) (defBody s_Table_iter) (defScope s_Table_iter) [] [] (HP.mA "Table" "__iter__" K) fd := T.says.def_ 34
theorem kp_Table_iter : PySem.W.keepIn K (.ref (HP.mA "Table" "__iter__" K)) = true := (d_Table_iter T).choose_spec.kp
theorem d_Table_getitem : ∃ fd, FunD K "__getitem__" "Table.__getitem__" (defArgs s_Table_getitem) (defBody s_Table_getitem) (defScope s_Table_getitem) [] [] (HP.mA "Table" "__getitem__" K) fd := T.says.def_ 35
theorem kp_Table_getitem : PySem.W.keepIn K (.ref (HP.mA "Table" "__getitem__" K)) = true := (d_Table_getitem T).choose_spec.kp
theorem d_Table_call : ∃ fd, FunD K "__call__" "Table.__call__" (defArgs s_Table_call) (defBody s_Table_call) (defScope s_Table_call) [] [] (HP.mA "Table" "__call__" K) fd := T.says.def_ 36
theorem kp_Table_call : PySem.W.keepIn K (.ref (HP.mA "Table" "__call__" K)) = true := (d_Table_call T).choose_spec.kp
theorem d_Table_contains : ∃ fd, FunD K "__contains__" "Table.__contains__" (defArgs s_Table_contains) (defBody s_Table_contains) (defScope s_Table_contains) [] [] (HP.mA "Table" "__contains__" K) fd := T.says.def_ 37
theorem kp_Table_contains : PySem.W.keepIn K (.ref (HP.mA "Table" "__contains__" K)) = true := (d_Table_contains T).choose_spec.kp
theorem d_Table_add : ∃ fd, FunD K "__add__" "Table.__add__" (defArgs s_Table_add) (defBody s_Table_add) (defScope s_Table_add) [] [] (HP.mA "Table" "__add__" K) fd := T.says.def_ 38
theorem kp_Table_add : PySem.W.keepIn K (.ref (HP.mA "Table" "__add__" K)) = true := (d_Table_add T).choose_spec.kp
theorem d_Table_mul : ∃ fd, FunD K "__mul__" "Table.__mul__" (defArgs s_Table_mul) (defBody s_Table_mul) (defScope s_Table_mul) [] [] (HP.mA "Table" "__mul__" K) fd := T.says.def_ 39
theorem kp_Table_mul : PySem.W.keepIn K (.ref (HP.mA "Table" "__mul__" K)) = true := (d_Table_mul T).choose_spec.kp
theorem d_Table_lean : ∃ fd, FunD K "lean" "Table.lean" (defArgs s_Table_lean) (defBody s_Table_lean) (defScope s_Table_lean) [] [] (HP.mA "Table" "lean" K) fd := T.says.def_ 40
theorem kp_Table_lean : PySem.W.keepIn K (.ref (HP.mA "Table" "lean" K)) = true := (d_Table_lean T).choose_spec.kp
theorem d_Table_turned : ∃ fd, FunD K "turned" "Table.turned" (defArgs s_Table_turned) (defBody s_Table_turned) (defScope s_Table_turned) [] [] (HP.mA "Table" "turned" K) fd := T.says.def_ 41
theorem kp_Table_turned : PySem.W.keepIn K (.ref (HP.mA "Table" "turned" K)) = true := (d_Table_turned T).choose_spec.kp
theorem d_Table_as_ring : ∃ fd, FunD K "as_ring" "Table.as_ring" (defArgs s_Table_as_ring) (defBody s_Table_as_ring) (defScope s_Table_as_ring) [] [] (HP.mA "Table" "as_ring" K) fd := T.says.def_ 42
theorem kp_Table_as_ring : PySem.W.keepIn K (.ref (HP.mA "Table" "as_ring" K)) = true := (d_Table_as_ring T).choose_spec.kp
theorem d_Table_eq : ∃ fd, FunD K "__eq__" "Table.__eq__" (defArgs s_Table_eq) (defBody s_Table_eq) (defScope s_Table_eq) [] [] (HP.mA "Table" "__eq__" K) fd := T.says.def_ 43
theorem kp_Table_eq : PySem.W.keepIn K (.ref (HP.mA "Table" "__eq__" K)) = true := (d_Table_eq T).choose_spec.kp
theorem d_Table_str : ∃ fd, FunD K "__str__" "Table.__str__" (defArgs s_Table_str) (defBody s_Table_str) (defScope s_Table_str) [] [] (HP.mA "Table" "__str__" K) fd := T.says.def_ 44
theorem kp_Table_str : PySem.W.keepIn K (.ref (HP.mA "Table" "__str__" K)) = true := (d_Table_str T).choose_spec.kp
end
abbrev N__wall : List Str := ["k"]
theorem sc__wall : FnScope N__wall ["k"] (defScope s__wall) := ⟨rfl, rfl, rfl, by decide +kernel, rfl, by decide +kernel, by decide +kernel⟩
section
variable {P : Program} {w : World} {K : PySem.W.Frag} {mg : Str → Option Value} {base : Heap} {k : Nat} {sp : Sp} (T : Tx K mg)
include T in
theorem mk__wall (len : ∀ vs H Q E, sp vs H Q E → vs.length = 1) (hbody : ∀ (cdv : Value) (A : Around) (outer : List Env) (s : Shared) (H : Hp) (vs : List V) (Q : VK) (E : XK), Room k (A.deeper (envOfC "_wall" (defScope s__wall) s.heap.objs.size (HP.gA "_wall" K) cdv)) → sp vs H Q E →
      ∃ t, PSs (cxOf (L2.CX P w) P w K mg base N__wall "_wall" (defScope s__wall) (HP.gA "_wall" K) cdv A outer s H E) (defBody s__wall) t ∧ t { nx := fun _ H' => Q .non H', rt := Q } (start N__wall vs) H) :
    FnR P w K mg base (L2.CX P w) (k + 1) (HP.gA "_wall" K) sp := by
  obtain ⟨fd, D⟩ := d__wall T
  exact HP.rawN D (D.ok sc__wall len hbody) fun _ _ _ _ _ _ us hl => match us, hl with | [_], _ => rfl
end
abbrev N_is_integer : List Str := ["value"]
theorem sc_is_integer : FnScope N_is_integer ["value"] (defScope s_is_integer) := ⟨rfl, rfl, rfl, by decide +kernel, rfl, by decide +kernel, by decide +kernel⟩
section
variable {P : Program} {w : World} {K : PySem.W.Frag} {mg : Str → Option Value} {base : Heap} {k : Nat} {sp : Sp} (T : Tx K mg)
include T in
theorem mk_is_integer (len : ∀ vs H Q E, sp vs H Q E → vs.length = 1) (hbody : ∀ (cdv : Value) (A : Around) (outer : List Env) (s : Shared) (H : Hp) (vs : List V) (Q : VK) (E : XK), Room k (A.deeper (envOfC "is_integer" (defScope s_is_integer) s.heap.objs.size (HP.gA "is_integer" K) cdv)) → sp vs H Q E →
      ∃ t, PSs (cxOf (L2.CX P w) P w K mg base N_is_integer "is_integer" (defScope s_is_integer) (HP.gA "is_integer" K) cdv A outer s H E) (defBody s_is_integer) t ∧ t { nx := fun _ H' => Q .non H', rt := Q } (start N_is_integer vs) H) :
    FnR P w K mg base (L2.CX P w) (k + 1) (HP.gA "is_integer" K) sp := by
  obtain ⟨fd, D⟩ := d_is_integer T
  exact HP.rawN D (D.ok sc_is_integer len hbody) fun _ _ _ _ _ _ us hl => match us, hl with | [_], _ => rfl
end
abbrev N_is_within : List Str := ["value", "low", "high"]
theorem sc_is_within : FnScope N_is_within ["value", "low", "high"] (defScope s_is_within) := ⟨rfl, rfl, rfl, by decide +kernel, rfl, by decide +kernel, by decide +kernel⟩
section
variable {P : Program} {w : World} {K : PySem.W.Frag} {mg : Str → Option Value} {base : Heap} {k : Nat} {sp : Sp} (T : Tx K mg)
include T in
theorem mk_is_within (len : ∀ vs H Q E, sp vs H Q E → vs.length = 3) (hbody : ∀ (cdv : Value) (A : Around) (outer : List Env) (s : Shared) (H : Hp) (vs : List V) (Q : VK) (E : XK), Room k (A.deeper (envOfC "is_within" (defScope s_is_within) s.heap.objs.size (HP.gA "is_within" K) cdv)) → sp vs H Q E →
      ∃ t, PSs (cxOf (L2.CX P w) P w K mg base N_is_within "is_within" (defScope s_is_within) (HP.gA "is_within" K) cdv A outer s H E) (defBody s_is_within) t ∧ t { nx := fun _ H' => Q .non H', rt := Q } (start N_is_within vs) H) :
    FnR P w K mg base (L2.CX P w) (k + 1) (HP.gA "is_within" K) sp := by
  obtain ⟨fd, D⟩ := d_is_within T
  exact HP.rawN D (D.ok sc_is_within len hbody) fun _ _ _ _ _ _ us hl => match us, hl with | [_, _, _], _ => rfl
end
abbrev N_written : List Str := ["numbers", "number"]
theorem sc_written : FnScope N_written ["numbers"] (defScope s_written) := ⟨rfl, rfl, rfl, by decide +kernel, rfl, by decide +kernel, by decide +kernel⟩
section
variable {P : Program} {w : World} {K : PySem.W.Frag} {mg : Str → Option Value} {base : Heap} {k : Nat} {sp : Sp} (T : Tx K mg)
include T in
theorem mk_written (len : ∀ vs H Q E, sp vs H Q E → vs.length = 1) (hbody : ∀ (cdv : Value) (A : Around) (outer : List Env) (s : Shared) (H : Hp) (vs : List V) (Q : VK) (E : XK), Room k (A.deeper (envOfC "written" (defScope s_written) s.heap.objs.size (HP.gA "written" K) cdv)) → sp vs H Q E →
      ∃ t, PSs (cxOf (L2.CX P w) P w K mg base N_written "written" (defScope s_written) (HP.gA "written" K) cdv A outer s H E) (defBody s_written) t ∧ t { nx := fun _ H' => Q .non H', rt := Q } (start N_written vs) H) :
    FnR P w K mg base (L2.CX P w) (k + 1) (HP.gA "written" K) sp := by
  obtain ⟨fd, D⟩ := d_written T
  exact HP.rawN D (D.ok sc_written len hbody) fun _ _ _ _ _ _ us hl => match us, hl with | [_], _ => rfl
end
abbrev N_number_of : List Str := ["word", "low", "high", "digits", "number", "sign"]
theorem sc_number_of : FnScope N_number_of ["word", "low", "high"] (defScope s_number_of) := ⟨rfl, rfl, rfl, by decide +kernel, rfl, by decide +kernel, by decide +kernel⟩
section
variable {P : Program} {w : World} {K : PySem.W.Frag} {mg : Str → Option Value} {base : Heap} {k : Nat} {sp : Sp} (T : Tx K mg)
include T in
theorem mk_number_of (len : ∀ vs H Q E, sp vs H Q E → vs.length = 3) (hbody : ∀ (cdv : Value) (A : Around) (outer : List Env) (s : Shared) (H : Hp) (vs : List V) (Q : VK) (E : XK), Room k (A.deeper (envOfC "number_of" (defScope s_number_of) s.heap.objs.size (HP.gA "number_of" K) cdv)) → sp vs H Q E →
      ∃ t, PSs (cxOf (L2.CX P w) P w K mg base N_number_of "number_of" (defScope s_number_of) (HP.gA "number_of" K) cdv A outer s H E) (defBody s_number_of) t ∧ t { nx := fun _ H' => Q .non H', rt := Q } (start N_number_of vs) H) :
    FnR P w K mg base (L2.CX P w) (k + 1) (HP.gA "number_of" K) sp := by
  obtain ⟨fd, D⟩ := d_number_of T
  exact HP.rawN D (D.ok sc_number_of len hbody) fun _ _ _ _ _ _ us hl => match us, hl with | [_, _, _], _ => rfl
end
abbrev N_need_table : List Str := ["value", "part"]
theorem sc_need_table : FnScope N_need_table ["value", "part"] (defScope s_need_table) := ⟨rfl, rfl, rfl, by decide +kernel, rfl, by decide +kernel, by decide +kernel⟩
section
variable {P : Program} {w : World} {K : PySem.W.Frag} {mg : Str → Option Value} {base : Heap} {k : Nat} {sp : Sp} (T : Tx K mg)
include T in
theorem mk_need_table_1 (len : ∀ vs H Q E, sp vs H Q E → vs.length = 2) (hbody : ∀ (cdv : Value) (A : Around) (outer : List Env) (s : Shared) (H : Hp) (vs : List V) (Q : VK) (E : XK), Room k (A.deeper (envOfC "need_table" (defScope s_need_table) s.heap.objs.size (HP.gA "need_table" K) cdv)) → sp vs H Q E →
      ∃ t, PSs (cxOf (L2.CX P w) P w K mg base N_need_table "need_table" (defScope s_need_table) (HP.gA "need_table" K) cdv A outer s H E) (defBody s_need_table) t ∧ t { nx := fun _ H' => Q .non H', rt := Q } (start N_need_table vs) H) :
    FnR P w K mg base (L2.CX P w) (k + 1) (HP.gA "need_table" K) (fun vs H Q E => sp (vs ++ List.drop 0 [.str "table"]) H Q E) := by
  obtain ⟨fd, D⟩ := d_need_table T
  exact HP.rawD D (D.ok sc_need_table len hbody) 1 0 (by intro e; cases e) rfl fun T kV doc pm an cdv ct us its l1 l2 => match us, its, l1, l2 with | [_], [_], _, _ => ⟨_, rfl, rfl⟩
include T in
theorem mk_need_table (len : ∀ vs H Q E, sp vs H Q E → vs.length = 2) (hbody : ∀ (cdv : Value) (A : Around) (outer : List Env) (s : Shared) (H : Hp) (vs : List V) (Q : VK) (E : XK), Room k (A.deeper (envOfC "need_table" (defScope s_need_table) s.heap.objs.size (HP.gA "need_table" K) cdv)) → sp vs H Q E →
      ∃ t, PSs (cxOf (L2.CX P w) P w K mg base N_need_table "need_table" (defScope s_need_table) (HP.gA "need_table" K) cdv A outer s H E) (defBody s_need_table) t ∧ t { nx := fun _ H' => Q .non H', rt := Q } (start N_need_table vs) H) :
    FnR P w K mg base (L2.CX P w) (k + 1) (HP.gA "need_table" K) (fun vs H Q E => sp (vs ++ List.drop 1 [.str "table"]) H Q E) := by
  obtain ⟨fd, D⟩ := d_need_table T
  exact HP.rawD D (D.ok sc_need_table len hbody) 2 1 (by intro e; cases e) rfl fun T kV doc pm an cdv ct us its l1 l2 => match us, its, l1, l2 with | [_, _], [_], _, _ => ⟨_, rfl, rfl⟩
end
abbrev N_need_count : List Str := ["n"]
theorem sc_need_count : FnScope N_need_count ["n"] (defScope s_need_count) := ⟨rfl, rfl, rfl, by decide +kernel, rfl, by decide +kernel, by decide +kernel⟩
section
variable {P : Program} {w : World} {K : PySem.W.Frag} {mg : Str → Option Value} {base : Heap} {k : Nat} {sp : Sp} (T : Tx K mg)
include T in
theorem mk_need_count (len : ∀ vs H Q E, sp vs H Q E → vs.length = 1) (hbody : ∀ (cdv : Value) (A : Around) (outer : List Env) (s : Shared) (H : Hp) (vs : List V) (Q : VK) (E : XK), Room k (A.deeper (envOfC "need_count" (defScope s_need_count) s.heap.objs.size (HP.gA "need_count" K) cdv)) → sp vs H Q E →
      ∃ t, PSs (cxOf (L2.CX P w) P w K mg base N_need_count "need_count" (defScope s_need_count) (HP.gA "need_count" K) cdv A outer s H E) (defBody s_need_count) t ∧ t { nx := fun _ H' => Q .non H', rt := Q } (start N_need_count vs) H) :
    FnR P w K mg base (L2.CX P w) (k + 1) (HP.gA "need_count" K) sp := by
  obtain ⟨fd, D⟩ := d_need_count T
  exact HP.rawN D (D.ok sc_need_count len hbody) fun _ _ _ _ _ _ us hl => match us, hl with | [_], _ => rfl
end
abbrev N_places_of : List Str := ["feeds", "found", "feed"]
theorem sc_places_of : FnScope N_places_of ["feeds"] (defScope s_places_of) := ⟨rfl, rfl, rfl, by decide +kernel, rfl, by decide +kernel, by decide +kernel⟩
section
variable {P : Program} {w : World} {K : PySem.W.Frag} {mg : Str → Option Value} {base : Heap} {k : Nat} {sp : Sp} (T : Tx K mg)
include T in
theorem mk_places_of (len : ∀ vs H Q E, sp vs H Q E → vs.length = 1) (hbody : ∀ (cdv : Value) (A : Around) (outer : List Env) (s : Shared) (H : Hp) (vs : List V) (Q : VK) (E : XK), Room k (A.deeper (envOfC "places_of" (defScope s_places_of) s.heap.objs.size (HP.gA "places_of" K) cdv)) → sp vs H Q E →
      ∃ t, PSs (cxOf (L2.CX P w) P w K mg base N_places_of "places_of" (defScope s_places_of) (HP.gA "places_of" K) cdv A outer s H E) (defBody s_places_of) t ∧ t { nx := fun _ H' => Q .non H', rt := Q } (start N_places_of vs) H) :
    FnR P w K mg base (L2.CX P w) (k + 1) (HP.gA "places_of" K) sp := by
  obtain ⟨fd, D⟩ := d_places_of T
  exact HP.rawN D (D.ok sc_places_of len hbody) fun _ _ _ _ _ _ us hl => match us, hl with | [_], _ => rfl
end
abbrev N_least_part : List Str := ["feeds", "sizes", "size"]
theorem sc_least_part : FnScope N_least_part ["feeds"] (defScope s_least_part) := ⟨rfl, rfl, rfl, by decide +kernel, rfl, by decide +kernel, by decide +kernel⟩
section
variable {P : Program} {w : World} {K : PySem.W.Frag} {mg : Str → Option Value} {base : Heap} {k : Nat} {sp : Sp} (T : Tx K mg)
include T in
theorem mk_least_part (len : ∀ vs H Q E, sp vs H Q E → vs.length = 1) (hbody : ∀ (cdv : Value) (A : Around) (outer : List Env) (s : Shared) (H : Hp) (vs : List V) (Q : VK) (E : XK), Room k (A.deeper (envOfC "least_part" (defScope s_least_part) s.heap.objs.size (HP.gA "least_part" K) cdv)) → sp vs H Q E →
      ∃ t, PSs (cxOf (L2.CX P w) P w K mg base N_least_part "least_part" (defScope s_least_part) (HP.gA "least_part" K) cdv A outer s H E) (defBody s_least_part) t ∧ t { nx := fun _ H' => Q .non H', rt := Q } (start N_least_part vs) H) :
    FnR P w K mg base (L2.CX P w) (k + 1) (HP.gA "least_part" K) sp := by
  obtain ⟨fd, D⟩ := d_least_part T
  exact HP.rawN D (D.ok sc_least_part len hbody) fun _ _ _ _ _ _ us hl => match us, hl with | [_], _ => rfl
end
abbrev N_is_marked : List Str := ["ring", "sign"]
theorem sc_is_marked : FnScope N_is_marked ["ring"] (defScope s_is_marked) := ⟨rfl, rfl, rfl, by decide +kernel, rfl, by decide +kernel, by decide +kernel⟩
section
variable {P : Program} {w : World} {K : PySem.W.Frag} {mg : Str → Option Value} {base : Heap} {k : Nat} {sp : Sp} (T : Tx K mg)
include T in
theorem mk_is_marked (len : ∀ vs H Q E, sp vs H Q E → vs.length = 1) (hbody : ∀ (cdv : Value) (A : Around) (outer : List Env) (s : Shared) (H : Hp) (vs : List V) (Q : VK) (E : XK), Room k (A.deeper (envOfC "is_marked" (defScope s_is_marked) s.heap.objs.size (HP.gA "is_marked" K) cdv)) → sp vs H Q E →
      ∃ t, PSs (cxOf (L2.CX P w) P w K mg base N_is_marked "is_marked" (defScope s_is_marked) (HP.gA "is_marked" K) cdv A outer s H E) (defBody s_is_marked) t ∧ t { nx := fun _ H' => Q .non H', rt := Q } (start N_is_marked vs) H) :
    FnR P w K mg base (L2.CX P w) (k + 1) (HP.gA "is_marked" K) sp := by
  obtain ⟨fd, D⟩ := d_is_marked T
  exact HP.rawN D (D.ok sc_is_marked len hbody) fun _ _ _ _ _ _ us hl => match us, hl with | [_], _ => rfl
end
abbrev N_take_feeds : List Str := ["words", "found"]
theorem sc_take_feeds : FnScope N_take_feeds ["words"] (defScope s_take_feeds) := ⟨rfl, rfl, rfl, by decide +kernel, rfl, by decide +kernel, by decide +kernel⟩
section
variable {P : Program} {w : World} {K : PySem.W.Frag} {mg : Str → Option Value} {base : Heap} {k : Nat} {sp : Sp} (T : Tx K mg)
include T in
theorem mk_take_feeds (len : ∀ vs H Q E, sp vs H Q E → vs.length = 1) (hbody : ∀ (cdv : Value) (A : Around) (outer : List Env) (s : Shared) (H : Hp) (vs : List V) (Q : VK) (E : XK), Room k (A.deeper (envOfC "take_feeds" (defScope s_take_feeds) s.heap.objs.size (HP.gA "take_feeds" K) cdv)) → sp vs H Q E →
      ∃ t, PSs (cxOf (L2.CX P w) P w K mg base N_take_feeds "take_feeds" (defScope s_take_feeds) (HP.gA "take_feeds" K) cdv A outer s H E) (defBody s_take_feeds) t ∧ t { nx := fun _ H' => Q .non H', rt := Q } (start N_take_feeds vs) H) :
    FnR P w K mg base (L2.CX P w) (k + 1) (HP.gA "take_feeds" K) sp := by
  obtain ⟨fd, D⟩ := d_take_feeds T
  exact HP.rawN D (D.ok sc_take_feeds len hbody) fun _ _ _ _ _ _ us hl => match us, hl with | [_], _ => rfl
end
abbrev N__law_pen : List Str := ["script"]
theorem sc__law_pen : FnScope N__law_pen ["script"] (defScope s__law_pen) := ⟨rfl, rfl, rfl, by decide +kernel, rfl, by decide +kernel, by decide +kernel⟩
section
variable {P : Program} {w : World} {K : PySem.W.Frag} {mg : Str → Option Value} {base : Heap} {k : Nat} {sp : Sp} (T : Tx K mg)
include T in
theorem mk__law_pen (len : ∀ vs H Q E, sp vs H Q E → vs.length = 1) (hbody : ∀ (cdv : Value) (A : Around) (outer : List Env) (s : Shared) (H : Hp) (vs : List V) (Q : VK) (E : XK), Room k (A.deeper (envOfC "_law_pen" (defScope s__law_pen) s.heap.objs.size (HP.gA "_law_pen" K) cdv)) → sp vs H Q E →
      ∃ t, PSs (cxOf (L2.CX P w) P w K mg base N__law_pen "_law_pen" (defScope s__law_pen) (HP.gA "_law_pen" K) cdv A outer s H E) (defBody s__law_pen) t ∧ t { nx := fun _ H' => Q .non H', rt := Q } (start N__law_pen vs) H) :
    FnR P w K mg base (L2.CX P w) (k + 1) (HP.gA "_law_pen" K) sp := by
  obtain ⟨fd, D⟩ := d__law_pen T
  exact HP.rawN D (D.ok sc__law_pen len hbody) fun _ _ _ _ _ _ us hl => match us, hl with | [_], _ => rfl
end
abbrev N__law_draw : List Str := ["pen", "many", "digit", "lap", "cell", "great", "stir"]
theorem sc__law_draw : FnScope N__law_draw ["pen", "many"] (defScope s__law_draw) := ⟨rfl, rfl, rfl, by decide +kernel, rfl, by decide +kernel, by decide +kernel⟩
section
variable {P : Program} {w : World} {K : PySem.W.Frag} {mg : Str → Option Value} {base : Heap} {k : Nat} {sp : Sp} (T : Tx K mg)
include T in
theorem mk__law_draw (len : ∀ vs H Q E, sp vs H Q E → vs.length = 2) (hbody : ∀ (cdv : Value) (A : Around) (outer : List Env) (s : Shared) (H : Hp) (vs : List V) (Q : VK) (E : XK), Room k (A.deeper (envOfC "_law_draw" (defScope s__law_draw) s.heap.objs.size (HP.gA "_law_draw" K) cdv)) → sp vs H Q E →
      ∃ t, PSs (cxOf (L2.CX P w) P w K mg base N__law_draw "_law_draw" (defScope s__law_draw) (HP.gA "_law_draw" K) cdv A outer s H E) (defBody s__law_draw) t ∧ t { nx := fun _ H' => Q .non H', rt := Q } (start N__law_draw vs) H) :
    FnR P w K mg base (L2.CX P w) (k + 1) (HP.gA "_law_draw" K) sp := by
  obtain ⟨fd, D⟩ := d__law_draw T
  exact HP.rawN D (D.ok sc__law_draw len hbody) fun _ _ _ _ _ _ us hl => match us, hl with | [_, _], _ => rfl
end
abbrev N__law_pick : List Str := ["pen", "some"]
theorem sc__law_pick : FnScope N__law_pick ["pen", "some"] (defScope s__law_pick) := ⟨rfl, rfl, rfl, by decide +kernel, rfl, by decide +kernel, by decide +kernel⟩
section
variable {P : Program} {w : World} {K : PySem.W.Frag} {mg : Str → Option Value} {base : Heap} {k : Nat} {sp : Sp} (T : Tx K mg)
include T in
theorem mk__law_pick (len : ∀ vs H Q E, sp vs H Q E → vs.length = 2) (hbody : ∀ (cdv : Value) (A : Around) (outer : List Env) (s : Shared) (H : Hp) (vs : List V) (Q : VK) (E : XK), Room k (A.deeper (envOfC "_law_pick" (defScope s__law_pick) s.heap.objs.size (HP.gA "_law_pick" K) cdv)) → sp vs H Q E →
      ∃ t, PSs (cxOf (L2.CX P w) P w K mg base N__law_pick "_law_pick" (defScope s__law_pick) (HP.gA "_law_pick" K) cdv A outer s H E) (defBody s__law_pick) t ∧ t { nx := fun _ H' => Q .non H', rt := Q } (start N__law_pick vs) H) :
    FnR P w K mg base (L2.CX P w) (k + 1) (HP.gA "_law_pick" K) sp := by
  obtain ⟨fd, D⟩ := d__law_pick T
  exact HP.rawN D (D.ok sc__law_pick len hbody) fun _ _ _ _ _ _ us hl => match us, hl with | [_, _], _ => rfl
end
abbrev N__law_feeds : List Str := ["pen", "many", "most", "part", "k"]
theorem sc__law_feeds : FnScope N__law_feeds ["pen"] (defScope s__law_feeds) := ⟨rfl, rfl, rfl, by decide +kernel, rfl, by decide +kernel, by decide +kernel⟩
section
variable {P : Program} {w : World} {K : PySem.W.Frag} {mg : Str → Option Value} {base : Heap} {k : Nat} {sp : Sp} (T : Tx K mg)
include T in
theorem mk__law_feeds (len : ∀ vs H Q E, sp vs H Q E → vs.length = 1) (hbody : ∀ (cdv : Value) (A : Around) (outer : List Env) (s : Shared) (H : Hp) (vs : List V) (Q : VK) (E : XK), Room k (A.deeper (envOfC "_law_feeds" (defScope s__law_feeds) s.heap.objs.size (HP.gA "_law_feeds" K) cdv)) → sp vs H Q E →
      ∃ t, PSs (cxOf (L2.CX P w) P w K mg base N__law_feeds "_law_feeds" (defScope s__law_feeds) (HP.gA "_law_feeds" K) cdv A outer s H E) (defBody s__law_feeds) t ∧ t { nx := fun _ H' => Q .non H', rt := Q } (start N__law_feeds vs) H) :
    FnR P w K mg base (L2.CX P w) (k + 1) (HP.gA "_law_feeds" K) sp := by
  obtain ⟨fd, D⟩ := d__law_feeds T
  exact HP.rawN D (D.ok sc__law_feeds len hbody) fun _ _ _ _ _ _ us hl => match us, hl with | [_], _ => rfl
end
abbrev N__law_table : List Str := ["feeds", "made", "feed"]
theorem sc__law_table : FnScope N__law_table ["feeds"] (defScope s__law_table) := ⟨rfl, rfl, rfl, by decide +kernel, rfl, by decide +kernel, by decide +kernel⟩
section
variable {P : Program} {w : World} {K : PySem.W.Frag} {mg : Str → Option Value} {base : Heap} {k : Nat} {sp : Sp} (T : Tx K mg)
include T in
theorem mk__law_table (len : ∀ vs H Q E, sp vs H Q E → vs.length = 1) (hbody : ∀ (cdv : Value) (A : Around) (outer : List Env) (s : Shared) (H : Hp) (vs : List V) (Q : VK) (E : XK), Room k (A.deeper (envOfC "_law_table" (defScope s__law_table) s.heap.objs.size (HP.gA "_law_table" K) cdv)) → sp vs H Q E →
      ∃ t, PSs (cxOf (L2.CX P w) P w K mg base N__law_table "_law_table" (defScope s__law_table) (HP.gA "_law_table" K) cdv A outer s H E) (defBody s__law_table) t ∧ t { nx := fun _ H' => Q .non H', rt := Q } (start N__law_table vs) H) :
    FnR P w K mg base (L2.CX P w) (k + 1) (HP.gA "_law_table" K) sp := by
  obtain ⟨fd, D⟩ := d__law_table T
  exact HP.rawN D (D.ok sc__law_table len hbody) fun _ _ _ _ _ _ us hl => match us, hl with | [_], _ => rfl
end
abbrev N__law_places : List Str := ["feeds", "places", "feed"]
theorem sc__law_places : FnScope N__law_places ["feeds"] (defScope s__law_places) := ⟨rfl, rfl, rfl, by decide +kernel, rfl, by decide +kernel, by decide +kernel⟩
section
variable {P : Program} {w : World} {K : PySem.W.Frag} {mg : Str → Option Value} {base : Heap} {k : Nat} {sp : Sp} (T : Tx K mg)
include T in
theorem mk__law_places (len : ∀ vs H Q E, sp vs H Q E → vs.length = 1) (hbody : ∀ (cdv : Value) (A : Around) (outer : List Env) (s : Shared) (H : Hp) (vs : List V) (Q : VK) (E : XK), Room k (A.deeper (envOfC "_law_places" (defScope s__law_places) s.heap.objs.size (HP.gA "_law_places" K) cdv)) → sp vs H Q E →
      ∃ t, PSs (cxOf (L2.CX P w) P w K mg base N__law_places "_law_places" (defScope s__law_places) (HP.gA "_law_places" K) cdv A outer s H E) (defBody s__law_places) t ∧ t { nx := fun _ H' => Q .non H', rt := Q } (start N__law_places vs) H) :
    FnR P w K mg base (L2.CX P w) (k + 1) (HP.gA "_law_places" K) sp := by
  obtain ⟨fd, D⟩ := d__law_places T
  exact HP.rawN D (D.ok sc__law_places len hbody) fun _ _ _ _ _ _ us hl => match us, hl with | [_], _ => rfl
end
abbrev N__law_least : List Str := ["feeds", "size"]
theorem sc__law_least : FnScope N__law_least ["feeds"] (defScope s__law_least) := ⟨rfl, rfl, rfl, by decide +kernel, rfl, by decide +kernel, by decide +kernel⟩
section
variable {P : Program} {w : World} {K : PySem.W.Frag} {mg : Str → Option Value} {base : Heap} {k : Nat} {sp : Sp} (T : Tx K mg)
include T in
theorem mk__law_least (len : ∀ vs H Q E, sp vs H Q E → vs.length = 1) (hbody : ∀ (cdv : Value) (A : Around) (outer : List Env) (s : Shared) (H : Hp) (vs : List V) (Q : VK) (E : XK), Room k (A.deeper (envOfC "_law_least" (defScope s__law_least) s.heap.objs.size (HP.gA "_law_least" K) cdv)) → sp vs H Q E →
      ∃ t, PSs (cxOf (L2.CX P w) P w K mg base N__law_least "_law_least" (defScope s__law_least) (HP.gA "_law_least" K) cdv A outer s H E) (defBody s__law_least) t ∧ t { nx := fun _ H' => Q .non H', rt := Q } (start N__law_least vs) H) :
    FnR P w K mg base (L2.CX P w) (k + 1) (HP.gA "_law_least" K) sp := by
  obtain ⟨fd, D⟩ := d__law_least T
  exact HP.rawN D (D.ok sc__law_least len hbody) fun _ _ _ _ _ _ us hl => match us, hl with | [_], _ => rfl
end
abbrev N__law_joined_right : List Str := ["pen", "some", "more", "one", "other", "both", "kept", "n", "many"]
theorem sc__law_joined_right : FnScope N__law_joined_right ["pen", "some", "more"] (defScope s__law_joined_right) := ⟨rfl, rfl, rfl, by decide +kernel, rfl, by decide +kernel, by decide +kernel⟩
section
variable {P : Program} {w : World} {K : PySem.W.Frag} {mg : Str → Option Value} {base : Heap} {k : Nat} {sp : Sp} (T : Tx K mg)
include T in
theorem mk__law_joined_right (len : ∀ vs H Q E, sp vs H Q E → vs.length = 3) (hbody : ∀ (cdv : Value) (A : Around) (outer : List Env) (s : Shared) (H : Hp) (vs : List V) (Q : VK) (E : XK), Room k (A.deeper (envOfC "_law_joined_right" (defScope s__law_joined_right) s.heap.objs.size (HP.gA "_law_joined_right" K) cdv)) → sp vs H Q E →
      ∃ t, PSs (cxOf (L2.CX P w) P w K mg base N__law_joined_right "_law_joined_right" (defScope s__law_joined_right) (HP.gA "_law_joined_right" K) cdv A outer s H E) (defBody s__law_joined_right) t ∧ t { nx := fun _ H' => Q .non H', rt := Q } (start N__law_joined_right vs) H) :
    FnR P w K mg base (L2.CX P w) (k + 1) (HP.gA "_law_joined_right" K) sp := by
  obtain ⟨fd, D⟩ := d__law_joined_right T
  exact HP.rawN D (D.ok sc__law_joined_right len hbody) fun _ _ _ _ _ _ us hl => match us, hl with | [_, _, _], _ => rfl
end
abbrev N__law_turned_right : List Str := ["pen", "some", "one", "shift", "later", "at", "k"]
theorem sc__law_turned_right : FnScope N__law_turned_right ["pen", "some"] (defScope s__law_turned_right) := ⟨rfl, rfl, rfl, by decide +kernel, rfl, by decide +kernel, by decide +kernel⟩
section
variable {P : Program} {w : World} {K : PySem.W.Frag} {mg : Str → Option Value} {base : Heap} {k : Nat} {sp : Sp} (T : Tx K mg)
include T in
theorem mk__law_turned_right (len : ∀ vs H Q E, sp vs H Q E → vs.length = 2) (hbody : ∀ (cdv : Value) (A : Around) (outer : List Env) (s : Shared) (H : Hp) (vs : List V) (Q : VK) (E : XK), Room k (A.deeper (envOfC "_law_turned_right" (defScope s__law_turned_right) s.heap.objs.size (HP.gA "_law_turned_right" K) cdv)) → sp vs H Q E →
      ∃ t, PSs (cxOf (L2.CX P w) P w K mg base N__law_turned_right "_law_turned_right" (defScope s__law_turned_right) (HP.gA "_law_turned_right" K) cdv A outer s H E) (defBody s__law_turned_right) t ∧ t { nx := fun _ H' => Q .non H', rt := Q } (start N__law_turned_right vs) H) :
    FnR P w K mg base (L2.CX P w) (k + 1) (HP.gA "_law_turned_right" K) sp := by
  obtain ⟨fd, D⟩ := d__law_turned_right T
  exact HP.rawN D (D.ok sc__law_turned_right len hbody) fun _ _ _ _ _ _ us hl => match us, hl with | [_, _], _ => rfl
end
abbrev N__law_gaps : List Str := ["ring", "spots", "later", "at", "k"]
theorem sc__law_gaps : FnScope N__law_gaps ["ring"] (defScope s__law_gaps) := ⟨rfl, rfl, rfl, by decide +kernel, rfl, by decide +kernel, by decide +kernel⟩
section
variable {P : Program} {w : World} {K : PySem.W.Frag} {mg : Str → Option Value} {base : Heap} {k : Nat} {sp : Sp} (T : Tx K mg)
include T in
theorem mk__law_gaps (len : ∀ vs H Q E, sp vs H Q E → vs.length = 1) (hbody : ∀ (cdv : Value) (A : Around) (outer : List Env) (s : Shared) (H : Hp) (vs : List V) (Q : VK) (E : XK), Room k (A.deeper (envOfC "_law_gaps" (defScope s__law_gaps) s.heap.objs.size (HP.gA "_law_gaps" K) cdv)) → sp vs H Q E →
      ∃ t, PSs (cxOf (L2.CX P w) P w K mg base N__law_gaps "_law_gaps" (defScope s__law_gaps) (HP.gA "_law_gaps" K) cdv A outer s H E) (defBody s__law_gaps) t ∧ t { nx := fun _ H' => Q .non H', rt := Q } (start N__law_gaps vs) H) :
    FnR P w K mg base (L2.CX P w) (k + 1) (HP.gA "_law_gaps" K) sp := by
  obtain ⟨fd, D⟩ := d__law_gaps T
  exact HP.rawN D (D.ok sc__law_gaps len hbody) fun _ _ _ _ _ _ us hl => match us, hl with | [_], _ => rfl
end
abbrev N__law_rings_right : List Str := ["pen", "some", "one", "places", "due", "begin", "at", "odds", "ring", "feed", "k"]
theorem sc__law_rings_right : FnScope N__law_rings_right ["pen", "some"] (defScope s__law_rings_right) := ⟨rfl, rfl, rfl, by decide +kernel, rfl, by decide +kernel, by decide +kernel⟩
section
variable {P : Program} {w : World} {K : PySem.W.Frag} {mg : Str → Option Value} {base : Heap} {k : Nat} {sp : Sp} (T : Tx K mg)
include T in
theorem mk__law_rings_right (len : ∀ vs H Q E, sp vs H Q E → vs.length = 2) (hbody : ∀ (cdv : Value) (A : Around) (outer : List Env) (s : Shared) (H : Hp) (vs : List V) (Q : VK) (E : XK), Room k (A.deeper (envOfC "_law_rings_right" (defScope s__law_rings_right) s.heap.objs.size (HP.gA "_law_rings_right" K) cdv)) → sp vs H Q E →
      ∃ t, PSs (cxOf (L2.CX P w) P w K mg base N__law_rings_right "_law_rings_right" (defScope s__law_rings_right) (HP.gA "_law_rings_right" K) cdv A outer s H E) (defBody s__law_rings_right) t ∧ t { nx := fun _ H' => Q .non H', rt := Q } (start N__law_rings_right vs) H) :
    FnR P w K mg base (L2.CX P w) (k + 1) (HP.gA "_law_rings_right" K) sp := by
  obtain ⟨fd, D⟩ := d__law_rings_right T
  exact HP.rawN D (D.ok sc__law_rings_right len hbody) fun _ _ _ _ _ _ us hl => match us, hl with | [_, _], _ => rfl
end
abbrev N_law : List Str := ["script", "pen", "lap", "some", "more", "weave"]
theorem sc_law : FnScope N_law ["script"] (defScope s_law) := ⟨rfl, rfl, rfl, by decide +kernel, rfl, by decide +kernel, by decide +kernel⟩
section
variable {P : Program} {w : World} {K : PySem.W.Frag} {mg : Str → Option Value} {base : Heap} {k : Nat} {sp : Sp} (T : Tx K mg)
include T in
theorem mk_law (len : ∀ vs H Q E, sp vs H Q E → vs.length = 1) (hbody : ∀ (cdv : Value) (A : Around) (outer : List Env) (s : Shared) (H : Hp) (vs : List V) (Q : VK) (E : XK), Room k (A.deeper (envOfC "law" (defScope s_law) s.heap.objs.size (HP.gA "law" K) cdv)) → sp vs H Q E →
      ∃ t, PSs (cxOf (L2.CX P w) P w K mg base N_law "law" (defScope s_law) (HP.gA "law" K) cdv A outer s H E) (defBody s_law) t ∧ t { nx := fun _ H' => Q .non H', rt := Q } (start N_law vs) H) :
    FnR P w K mg base (L2.CX P w) (k + 1) (HP.gA "law" K) sp := by
  obtain ⟨fd, D⟩ := d_law T
  exact HP.rawN D (D.ok sc_law len hbody) fun _ _ _ _ _ _ us hl => match us, hl with | [_], _ => rfl
end
abbrev N_Words_init : List Str := ["self", "text", "line"]
theorem sc_Words_init : FnScope N_Words_init ["self", "text", "line"] (defScope s_Words_init) := ⟨rfl, rfl, rfl, by decide +kernel, rfl, by decide +kernel, by decide +kernel⟩
section
variable {P : Program} {w : World} {K : PySem.W.Frag} {mg : Str → Option Value} {base : Heap} {k : Nat} {sp : Sp} (T : Tx K mg)
include T in
theorem mk_Words_init_2 (len : ∀ vs H Q E, sp vs H Q E → vs.length = 3) (hbody : ∀ (cdv : Value) (A : Around) (outer : List Env) (s : Shared) (H : Hp) (vs : List V) (Q : VK) (E : XK), Room k (A.deeper (envOfC "Words.__init__" (defScope s_Words_init) s.heap.objs.size (HP.mA "Words" "__init__" K) cdv)) → sp vs H Q E →
      ∃ t, PSs (cxOf (L2.CX P w) P w K mg base N_Words_init "Words.__init__" (defScope s_Words_init) (HP.mA "Words" "__init__" K) cdv A outer s H E) (defBody s_Words_init) t ∧ t { nx := fun _ H' => Q .non H', rt := Q } (start N_Words_init vs) H) :
    FnR P w K mg base (L2.CX P w) (k + 1) (HP.mA "Words" "__init__" K) (fun vs H Q E => sp (vs ++ List.drop 0 [.int 0]) H Q E) := by
  obtain ⟨fd, D⟩ := d_Words_init T
  exact HP.rawD D (D.ok sc_Words_init len hbody) 2 0 (by intro e; cases e) rfl fun T kV doc pm an cdv ct us its l1 l2 => match us, its, l1, l2 with | [_, _], [_], _, _ => ⟨_, rfl, rfl⟩
include T in
theorem mk_Words_init (len : ∀ vs H Q E, sp vs H Q E → vs.length = 3) (hbody : ∀ (cdv : Value) (A : Around) (outer : List Env) (s : Shared) (H : Hp) (vs : List V) (Q : VK) (E : XK), Room k (A.deeper (envOfC "Words.__init__" (defScope s_Words_init) s.heap.objs.size (HP.mA "Words" "__init__" K) cdv)) → sp vs H Q E →
      ∃ t, PSs (cxOf (L2.CX P w) P w K mg base N_Words_init "Words.__init__" (defScope s_Words_init) (HP.mA "Words" "__init__" K) cdv A outer s H E) (defBody s_Words_init) t ∧ t { nx := fun _ H' => Q .non H', rt := Q } (start N_Words_init vs) H) :
    FnR P w K mg base (L2.CX P w) (k + 1) (HP.mA "Words" "__init__" K) (fun vs H Q E => sp (vs ++ List.drop 1 [.int 0]) H Q E) := by
  obtain ⟨fd, D⟩ := d_Words_init T
  exact HP.rawD D (D.ok sc_Words_init len hbody) 3 1 (by intro e; cases e) rfl fun T kV doc pm an cdv ct us its l1 l2 => match us, its, l1, l2 with | [_, _, _], [_], _, _ => ⟨_, rfl, rfl⟩
end
abbrev N_Words_seen : List Str := ["self"]
theorem sc_Words_seen : FnScope N_Words_seen ["self"] (defScope s_Words_seen) := ⟨rfl, rfl, rfl, by decide +kernel, rfl, by decide +kernel, by decide +kernel⟩
section
variable {P : Program} {w : World} {K : PySem.W.Frag} {mg : Str → Option Value} {base : Heap} {k : Nat} {sp : Sp} (T : Tx K mg)
include T in
theorem mk_Words_seen (len : ∀ vs H Q E, sp vs H Q E → vs.length = 1) (hbody : ∀ (cdv : Value) (A : Around) (outer : List Env) (s : Shared) (H : Hp) (vs : List V) (Q : VK) (E : XK), Room k (A.deeper (envOfC "Words.seen" (defScope s_Words_seen) s.heap.objs.size (HP.mA "Words" "seen" K) cdv)) → sp vs H Q E →
      ∃ t, PSs (cxOf (L2.CX P w) P w K mg base N_Words_seen "Words.seen" (defScope s_Words_seen) (HP.mA "Words" "seen" K) cdv A outer s H E) (defBody s_Words_seen) t ∧ t { nx := fun _ H' => Q .non H', rt := Q } (start N_Words_seen vs) H) :
    FnR P w K mg base (L2.CX P w) (k + 1) (HP.mA "Words" "seen" K) sp := by
  obtain ⟨fd, D⟩ := d_Words_seen T
  exact HP.rawN D (D.ok sc_Words_seen len hbody) fun _ _ _ _ _ _ us hl => match us, hl with | [_], _ => rfl
end
abbrev N_Words_is_used_up : List Str := ["self"]
theorem sc_Words_is_used_up : FnScope N_Words_is_used_up ["self"] (defScope s_Words_is_used_up) := ⟨rfl, rfl, rfl, by decide +kernel, rfl, by decide +kernel, by decide +kernel⟩
section
variable {P : Program} {w : World} {K : PySem.W.Frag} {mg : Str → Option Value} {base : Heap} {k : Nat} {sp : Sp} (T : Tx K mg)
include T in
theorem mk_Words_is_used_up (len : ∀ vs H Q E, sp vs H Q E → vs.length = 1) (hbody : ∀ (cdv : Value) (A : Around) (outer : List Env) (s : Shared) (H : Hp) (vs : List V) (Q : VK) (E : XK), Room k (A.deeper (envOfC "Words.is_used_up" (defScope s_Words_is_used_up) s.heap.objs.size (HP.mA "Words" "is_used_up" K) cdv)) → sp vs H Q E →
      ∃ t, PSs (cxOf (L2.CX P w) P w K mg base N_Words_is_used_up "Words.is_used_up" (defScope s_Words_is_used_up) (HP.mA "Words" "is_used_up" K) cdv A outer s H E) (defBody s_Words_is_used_up) t ∧ t { nx := fun _ H' => Q .non H', rt := Q } (start N_Words_is_used_up vs) H) :
    FnR P w K mg base (L2.CX P w) (k + 1) (HP.mA "Words" "is_used_up" K) sp := by
  obtain ⟨fd, D⟩ := d_Words_is_used_up T
  exact HP.rawN D (D.ok sc_Words_is_used_up len hbody) fun _ _ _ _ _ _ us hl => match us, hl with | [_], _ => rfl
end
abbrev N_Words_refuse : List Str := ["self"]
theorem sc_Words_refuse : FnScope N_Words_refuse ["self"] (defScope s_Words_refuse) := ⟨rfl, rfl, rfl, by decide +kernel, rfl, by decide +kernel, by decide +kernel⟩
section
variable {P : Program} {w : World} {K : PySem.W.Frag} {mg : Str → Option Value} {base : Heap} {k : Nat} {sp : Sp} (T : Tx K mg)
include T in
theorem mk_Words_refuse (len : ∀ vs H Q E, sp vs H Q E → vs.length = 1) (hbody : ∀ (cdv : Value) (A : Around) (outer : List Env) (s : Shared) (H : Hp) (vs : List V) (Q : VK) (E : XK), Room k (A.deeper (envOfC "Words.refuse" (defScope s_Words_refuse) s.heap.objs.size (HP.mA "Words" "refuse" K) cdv)) → sp vs H Q E →
      ∃ t, PSs (cxOf (L2.CX P w) P w K mg base N_Words_refuse "Words.refuse" (defScope s_Words_refuse) (HP.mA "Words" "refuse" K) cdv A outer s H E) (defBody s_Words_refuse) t ∧ t { nx := fun _ H' => Q .non H', rt := Q } (start N_Words_refuse vs) H) :
    FnR P w K mg base (L2.CX P w) (k + 1) (HP.mA "Words" "refuse" K) sp := by
  obtain ⟨fd, D⟩ := d_Words_refuse T
  exact HP.rawN D (D.ok sc_Words_refuse len hbody) fun _ _ _ _ _ _ us hl => match us, hl with | [_], _ => rfl
end
abbrev N_Words_take_number : List Str := ["self", "low", "high", "number"]
theorem sc_Words_take_number : FnScope N_Words_take_number ["self", "low", "high"] (defScope s_Words_take_number) := ⟨rfl, rfl, rfl, by decide +kernel, rfl, by decide +kernel, by decide +kernel⟩
section
variable {P : Program} {w : World} {K : PySem.W.Frag} {mg : Str → Option Value} {base : Heap} {k : Nat} {sp : Sp} (T : Tx K mg)
include T in
theorem mk_Words_take_number (len : ∀ vs H Q E, sp vs H Q E → vs.length = 3) (hbody : ∀ (cdv : Value) (A : Around) (outer : List Env) (s : Shared) (H : Hp) (vs : List V) (Q : VK) (E : XK), Room k (A.deeper (envOfC "Words.take_number" (defScope s_Words_take_number) s.heap.objs.size (HP.mA "Words" "take_number" K) cdv)) → sp vs H Q E →
      ∃ t, PSs (cxOf (L2.CX P w) P w K mg base N_Words_take_number "Words.take_number" (defScope s_Words_take_number) (HP.mA "Words" "take_number" K) cdv A outer s H E) (defBody s_Words_take_number) t ∧ t { nx := fun _ H' => Q .non H', rt := Q } (start N_Words_take_number vs) H) :
    FnR P w K mg base (L2.CX P w) (k + 1) (HP.mA "Words" "take_number" K) sp := by
  obtain ⟨fd, D⟩ := d_Words_take_number T
  exact HP.rawN D (D.ok sc_Words_take_number len hbody) fun _ _ _ _ _ _ us hl => match us, hl with | [_, _, _], _ => rfl
end
abbrev N_Words_take_end : List Str := ["self"]
theorem sc_Words_take_end : FnScope N_Words_take_end ["self"] (defScope s_Words_take_end) := ⟨rfl, rfl, rfl, by decide +kernel, rfl, by decide +kernel, by decide +kernel⟩
section
variable {P : Program} {w : World} {K : PySem.W.Frag} {mg : Str → Option Value} {base : Heap} {k : Nat} {sp : Sp} (T : Tx K mg)
include T in
theorem mk_Words_take_end (len : ∀ vs H Q E, sp vs H Q E → vs.length = 1) (hbody : ∀ (cdv : Value) (A : Around) (outer : List Env) (s : Shared) (H : Hp) (vs : List V) (Q : VK) (E : XK), Room k (A.deeper (envOfC "Words.take_end" (defScope s_Words_take_end) s.heap.objs.size (HP.mA "Words" "take_end" K) cdv)) → sp vs H Q E →
      ∃ t, PSs (cxOf (L2.CX P w) P w K mg base N_Words_take_end "Words.take_end" (defScope s_Words_take_end) (HP.mA "Words" "take_end" K) cdv A outer s H E) (defBody s_Words_take_end) t ∧ t { nx := fun _ H' => Q .non H', rt := Q } (start N_Words_take_end vs) H) :
    FnR P w K mg base (L2.CX P w) (k + 1) (HP.mA "Words" "take_end" K) sp := by
  obtain ⟨fd, D⟩ := d_Words_take_end T
  exact HP.rawN D (D.ok sc_Words_take_end len hbody) fun _ _ _ _ _ _ us hl => match us, hl with | [_], _ => rfl
end
abbrev N_Table_init : List Str := ["self", "feeds", "at", "feed"]
theorem sc_Table_init : FnScope N_Table_init ["self", "feeds"] (defScope s_Table_init) := ⟨rfl, rfl, rfl, by decide +kernel, rfl, by decide +kernel, by decide +kernel⟩
section
variable {P : Program} {w : World} {K : PySem.W.Frag} {mg : Str → Option Value} {base : Heap} {k : Nat} {sp : Sp} (T : Tx K mg)
include T in
theorem mk_Table_init (hbody : ∀ (cdv : Value) (A : Around) (outer : List Env) (s : Shared) (H : Hp) (vs : List V) (Q : VK) (E : XK), Room k (A.deeper (envOfC "Table.__init__" (defScope s_Table_init) s.heap.objs.size (HP.mA "Table" "__init__" K) cdv)) → sp vs H Q E →
      ∃ t, PSs (cxOf (L2.CX P w) P w K mg base N_Table_init "Table.__init__" (defScope s_Table_init) (HP.mA "Table" "__init__" K) cdv A outer s H E) (defBody s_Table_init) t ∧ t { nx := fun _ H' => Q .non H', rt := Q } (start N_Table_init vs) H) :
    FnR P w K mg base (L2.CX P w) (k + 1) (HP.mA "Table" "__init__" K) (fun vs H Q E => ∃ ws rest, vs = ws ++ rest ∧ ws.length = 1 ∧ rest.length ≤ sizeLine ∧ ∀ p, H p = Option.none → sp (ws ++ [V.ref p]) (upd H p (.tup rest)) Q E) := by
  obtain ⟨fd, D⟩ := d_Table_init T
  exact HP.mkStar (ps := ["self"]) (pv := "feeds") D sc_Table_init (fun kV doc pm an cdv ct => StX.bind_star1 (B := fun l => bindArgs (PySem.W.fnOf "__init__" "Table.__init__" (defArgs s_Table_init) (defBody s_Table_init) (defScope s_Table_init) .none kV doc pm an cdv ct) ⟨l, []⟩) (fun _ => rfl) (fun _ _ _ => rfl)) hbody
end
abbrev N_Table_of_ring : List Str := ["ring", "spots", "feeds", "at", "sign", "one", "later"]
theorem sc_Table_of_ring : FnScope N_Table_of_ring ["ring"] (defScope s_Table_of_ring) := ⟨rfl, rfl, rfl, by decide +kernel, rfl, by decide +kernel, by decide +kernel⟩
section
variable {P : Program} {w : World} {K : PySem.W.Frag} {mg : Str → Option Value} {base : Heap} {k : Nat} {sp : Sp} (T : Tx K mg)
include T in
theorem mk_Table_of_ring (len : ∀ vs H Q E, sp vs H Q E → vs.length = 1) (hbody : ∀ (cdv : Value) (A : Around) (outer : List Env) (s : Shared) (H : Hp) (vs : List V) (Q : VK) (E : XK), Room k (A.deeper (envOfC "Table.of_ring" (defScope s_Table_of_ring) s.heap.objs.size (HP.rA "Table" "of_ring" "staticmethod" K) cdv)) → sp vs H Q E →
      ∃ t, PSs (cxOf (L2.CX P w) P w K mg base N_Table_of_ring "Table.of_ring" (defScope s_Table_of_ring) (HP.rA "Table" "of_ring" "staticmethod" K) cdv A outer s H E) (defBody s_Table_of_ring) t ∧ t { nx := fun _ H' => Q .non H', rt := Q } (start N_Table_of_ring vs) H) :
    FnR P w K mg base (L2.CX P w) (k + 1) (HP.rA "Table" "of_ring" "staticmethod" K) sp := by
  obtain ⟨fd, D⟩ := d_Table_of_ring T
  exact HP.rawN D (D.ok sc_Table_of_ring len hbody) fun _ _ _ _ _ _ us hl => match us, hl with | [_], _ => rfl
include T in
theorem mkK_Table_of_ring_ring (len : ∀ vs H Q E, sp vs H Q E → vs.length = 1) (hbody : ∀ (cdv : Value) (A : Around) (outer : List Env) (s : Shared) (H : Hp) (vs : List V) (Q : VK) (E : XK), Room k (A.deeper (envOfC "Table.of_ring" (defScope s_Table_of_ring) s.heap.objs.size (HP.rA "Table" "of_ring" "staticmethod" K) cdv)) → sp vs H Q E →
      ∃ t, PSs (cxOf (L2.CX P w) P w K mg base N_Table_of_ring "Table.of_ring" (defScope s_Table_of_ring) (HP.rA "Table" "of_ring" "staticmethod" K) cdv A outer s H E) (defBody s_Table_of_ring) t ∧ t { nx := fun _ H' => Q .non H', rt := Q } (start N_Table_of_ring vs) H) :
    HP.FnK P w K mg base (L2.CX P w) (k + 1) (HP.rA "Table" "of_ring" "staticmethod" K) ["ring"] (fun vs zs H Q E => vs.length = 0 ∧ sp (vs ++ zs) H Q E) := by
  obtain ⟨fd, D⟩ := d_Table_of_ring T
  exact HP.kbn0 D (D.ok sc_Table_of_ring len hbody) 0 ["ring"] fun _ _ _ _ _ _ us ws l1 l2 => match us, ws, l1, l2 with | [], [_], _, _ => rfl
end
abbrev N_Table_read : List Str := ["cls", "text", "words", "feeds"]
theorem sc_Table_read : FnScope N_Table_read ["cls", "text"] (defScope s_Table_read) := ⟨rfl, rfl, rfl, by decide +kernel, rfl, by decide +kernel, by decide +kernel⟩
section
variable {P : Program} {w : World} {K : PySem.W.Frag} {mg : Str → Option Value} {base : Heap} {k : Nat} {sp : Sp} (T : Tx K mg)
include T in
theorem mk_Table_read (len : ∀ vs H Q E, sp vs H Q E → vs.length = 2) (hbody : ∀ (cdv : Value) (A : Around) (outer : List Env) (s : Shared) (H : Hp) (vs : List V) (Q : VK) (E : XK), Room k (A.deeper (envOfC "Table.read" (defScope s_Table_read) s.heap.objs.size (HP.rA "Table" "read" "classmethod" K) cdv)) → sp vs H Q E →
      ∃ t, PSs (cxOf (L2.CX P w) P w K mg base N_Table_read "Table.read" (defScope s_Table_read) (HP.rA "Table" "read" "classmethod" K) cdv A outer s H E) (defBody s_Table_read) t ∧ t { nx := fun _ H' => Q .non H', rt := Q } (start N_Table_read vs) H) :
    FnR P w K mg base (L2.CX P w) (k + 1) (HP.rA "Table" "read" "classmethod" K) sp := by
  obtain ⟨fd, D⟩ := d_Table_read T
  exact HP.rawN D (D.ok sc_Table_read len hbody) fun _ _ _ _ _ _ us hl => match us, hl with | [_, _], _ => rfl
end
abbrev N_Table_turn : List Str := ["self"]
theorem sc_Table_turn : FnScope N_Table_turn ["self"] (defScope s_Table_turn) := ⟨rfl, rfl, rfl, by decide +kernel, rfl, by decide +kernel, by decide +kernel⟩
section
variable {P : Program} {w : World} {K : PySem.W.Frag} {mg : Str → Option Value} {base : Heap} {k : Nat} {sp : Sp} (T : Tx K mg)
include T in
theorem mk_Table_turn (len : ∀ vs H Q E, sp vs H Q E → vs.length = 1) (hbody : ∀ (cdv : Value) (A : Around) (outer : List Env) (s : Shared) (H : Hp) (vs : List V) (Q : VK) (E : XK), Room k (A.deeper (envOfC "Table.turn" (defScope s_Table_turn) s.heap.objs.size (HP.rA "Table" "turn" "property" K) cdv)) → sp vs H Q E →
      ∃ t, PSs (cxOf (L2.CX P w) P w K mg base N_Table_turn "Table.turn" (defScope s_Table_turn) (HP.rA "Table" "turn" "property" K) cdv A outer s H E) (defBody s_Table_turn) t ∧ t { nx := fun _ H' => Q .non H', rt := Q } (start N_Table_turn vs) H) :
    FnR P w K mg base (L2.CX P w) (k + 1) (HP.rA "Table" "turn" "property" K) sp := by
  obtain ⟨fd, D⟩ := d_Table_turn T
  exact HP.rawN D (D.ok sc_Table_turn len hbody) fun _ _ _ _ _ _ us hl => match us, hl with | [_], _ => rfl
end
abbrev N_Table_len : List Str := ["self"]
theorem sc_Table_len : FnScope N_Table_len ["self"] (defScope s_Table_len) := ⟨rfl, rfl, rfl, by decide +kernel, rfl, by decide +kernel, by decide +kernel⟩
section
variable {P : Program} {w : World} {K : PySem.W.Frag} {mg : Str → Option Value} {base : Heap} {k : Nat} {sp : Sp} (T : Tx K mg)
include T in
theorem mk_Table_len (len : ∀ vs H Q E, sp vs H Q E → vs.length = 1) (hbody : ∀ (cdv : Value) (A : Around) (outer : List Env) (s : Shared) (H : Hp) (vs : List V) (Q : VK) (E : XK), Room k (A.deeper (envOfC "Table.__len__" (defScope s_Table_len) s.heap.objs.size (HP.mA "Table" "__len__" K) cdv)) → sp vs H Q E →
      ∃ t, PSs (cxOf (L2.CX P w) P w K mg base N_Table_len "Table.__len__" (defScope s_Table_len) (HP.mA "Table" "__len__" K) cdv A outer s H E) (defBody s_Table_len) t ∧ t { nx := fun _ H' => Q .non H', rt := Q } (start N_Table_len vs) H) :
    FnR P w K mg base (L2.CX P w) (k + 1) (HP.mA "Table" "__len__" K) sp := by
  obtain ⟨fd, D⟩ := d_Table_len T
  exact HP.rawN D (D.ok sc_Table_len len hbody) fun _ _ _ _ _ _ us hl => match us, hl with | [_], _ => rfl
end
abbrev N_Table_iter : List Str := ["self"]
theorem sc_Table_iter : FnScope N_Table_iter ["self"] (defScope s_Table_iter) := ⟨rfl, rfl, rfl, by decide +kernel, rfl, by decide +kernel, by decide +kernel⟩
section
variable {P : Program} {w : World} {K : PySem.W.Frag} {mg : Str → Option Value} {base : Heap} {k : Nat} {sp : Sp} (T : Tx K mg)
include T in
theorem mk_Table_iter (len : ∀ vs H Q E, sp vs H Q E → vs.length = 1) (hbody : ∀ (cdv : Value) (A : Around) (outer : List Env) (s : Shared) (H : Hp) (vs : List V) (Q : VK) (E : XK), Room k (A.deeper (envOfC "Table.__iter__" (defScope s_Table_iter) s.heap.objs.size (HP.mA "Table" "__iter__" K) cdv)) → sp vs H Q E →
      ∃ t, PSs (cxOf (L2.CX P w) P w K mg base N_Table_iter "Table.__iter__" (defScope s_Table_iter) (HP.mA "Table" "__iter__" K) cdv A outer s H E) (defBody s_Table_iter) t ∧ t { nx := fun _ H' => Q .non H', rt := Q } (start N_Table_iter vs) H) :
    FnR P w K mg base (L2.CX P w) (k + 1) (HP.mA "Table" "__iter__" K) sp := by
  obtain ⟨fd, D⟩ := d_Table_iter T
  exact HP.rawN D (D.ok sc_Table_iter len hbody) fun _ _ _ _ _ _ us hl => match us, hl with | [_], _ => rfl
end
abbrev N_Table_getitem : List Str := ["self", "at"]
theorem sc_Table_getitem : FnScope N_Table_getitem ["self", "at"] (defScope s_Table_getitem) := ⟨rfl, rfl, rfl, by decide +kernel, rfl, by decide +kernel, by decide +kernel⟩
section
variable {P : Program} {w : World} {K : PySem.W.Frag} {mg : Str → Option Value} {base : Heap} {k : Nat} {sp : Sp} (T : Tx K mg)
include T in
theorem mk_Table_getitem (len : ∀ vs H Q E, sp vs H Q E → vs.length = 2) (hbody : ∀ (cdv : Value) (A : Around) (outer : List Env) (s : Shared) (H : Hp) (vs : List V) (Q : VK) (E : XK), Room k (A.deeper (envOfC "Table.__getitem__" (defScope s_Table_getitem) s.heap.objs.size (HP.mA "Table" "__getitem__" K) cdv)) → sp vs H Q E →
      ∃ t, PSs (cxOf (L2.CX P w) P w K mg base N_Table_getitem "Table.__getitem__" (defScope s_Table_getitem) (HP.mA "Table" "__getitem__" K) cdv A outer s H E) (defBody s_Table_getitem) t ∧ t { nx := fun _ H' => Q .non H', rt := Q } (start N_Table_getitem vs) H) :
    FnR P w K mg base (L2.CX P w) (k + 1) (HP.mA "Table" "__getitem__" K) sp := by
  obtain ⟨fd, D⟩ := d_Table_getitem T
  exact HP.rawN D (D.ok sc_Table_getitem len hbody) fun _ _ _ _ _ _ us hl => match us, hl with | [_, _], _ => rfl
end
abbrev N_Table_call : List Str := ["self", "k", "turns", "at"]
theorem sc_Table_call : FnScope N_Table_call ["self", "k"] (defScope s_Table_call) := ⟨rfl, rfl, rfl, by decide +kernel, rfl, by decide +kernel, by decide +kernel⟩
section
variable {P : Program} {w : World} {K : PySem.W.Frag} {mg : Str → Option Value} {base : Heap} {k : Nat} {sp : Sp} (T : Tx K mg)
include T in
theorem mk_Table_call (len : ∀ vs H Q E, sp vs H Q E → vs.length = 2) (hbody : ∀ (cdv : Value) (A : Around) (outer : List Env) (s : Shared) (H : Hp) (vs : List V) (Q : VK) (E : XK), Room k (A.deeper (envOfC "Table.__call__" (defScope s_Table_call) s.heap.objs.size (HP.mA "Table" "__call__" K) cdv)) → sp vs H Q E →
      ∃ t, PSs (cxOf (L2.CX P w) P w K mg base N_Table_call "Table.__call__" (defScope s_Table_call) (HP.mA "Table" "__call__" K) cdv A outer s H E) (defBody s_Table_call) t ∧ t { nx := fun _ H' => Q .non H', rt := Q } (start N_Table_call vs) H) :
    FnR P w K mg base (L2.CX P w) (k + 1) (HP.mA "Table" "__call__" K) sp := by
  obtain ⟨fd, D⟩ := d_Table_call T
  exact HP.rawN D (D.ok sc_Table_call len hbody) fun _ _ _ _ _ _ us hl => match us, hl with | [_, _], _ => rfl
end
abbrev N_Table_contains : List Str := ["self", "value"]
theorem sc_Table_contains : FnScope N_Table_contains ["self", "value"] (defScope s_Table_contains) := ⟨rfl, rfl, rfl, by decide +kernel, rfl, by decide +kernel, by decide +kernel⟩
section
variable {P : Program} {w : World} {K : PySem.W.Frag} {mg : Str → Option Value} {base : Heap} {k : Nat} {sp : Sp} (T : Tx K mg)
include T in
theorem mk_Table_contains (len : ∀ vs H Q E, sp vs H Q E → vs.length = 2) (hbody : ∀ (cdv : Value) (A : Around) (outer : List Env) (s : Shared) (H : Hp) (vs : List V) (Q : VK) (E : XK), Room k (A.deeper (envOfC "Table.__contains__" (defScope s_Table_contains) s.heap.objs.size (HP.mA "Table" "__contains__" K) cdv)) → sp vs H Q E →
      ∃ t, PSs (cxOf (L2.CX P w) P w K mg base N_Table_contains "Table.__contains__" (defScope s_Table_contains) (HP.mA "Table" "__contains__" K) cdv A outer s H E) (defBody s_Table_contains) t ∧ t { nx := fun _ H' => Q .non H', rt := Q } (start N_Table_contains vs) H) :
    FnR P w K mg base (L2.CX P w) (k + 1) (HP.mA "Table" "__contains__" K) sp := by
  obtain ⟨fd, D⟩ := d_Table_contains T
  exact HP.rawN D (D.ok sc_Table_contains len hbody) fun _ _ _ _ _ _ us hl => match us, hl with | [_, _], _ => rfl
end
abbrev N_Table_add : List Str := ["self", "other", "feeds"]
theorem sc_Table_add : FnScope N_Table_add ["self", "other"] (defScope s_Table_add) := ⟨rfl, rfl, rfl, by decide +kernel, rfl, by decide +kernel, by decide +kernel⟩
section
variable {P : Program} {w : World} {K : PySem.W.Frag} {mg : Str → Option Value} {base : Heap} {k : Nat} {sp : Sp} (T : Tx K mg)
include T in
theorem mk_Table_add (len : ∀ vs H Q E, sp vs H Q E → vs.length = 2) (hbody : ∀ (cdv : Value) (A : Around) (outer : List Env) (s : Shared) (H : Hp) (vs : List V) (Q : VK) (E : XK), Room k (A.deeper (envOfC "Table.__add__" (defScope s_Table_add) s.heap.objs.size (HP.mA "Table" "__add__" K) cdv)) → sp vs H Q E →
      ∃ t, PSs (cxOf (L2.CX P w) P w K mg base N_Table_add "Table.__add__" (defScope s_Table_add) (HP.mA "Table" "__add__" K) cdv A outer s H E) (defBody s_Table_add) t ∧ t { nx := fun _ H' => Q .non H', rt := Q } (start N_Table_add vs) H) :
    FnR P w K mg base (L2.CX P w) (k + 1) (HP.mA "Table" "__add__" K) sp := by
  obtain ⟨fd, D⟩ := d_Table_add T
  exact HP.rawN D (D.ok sc_Table_add len hbody) fun _ _ _ _ _ _ us hl => match us, hl with | [_, _], _ => rfl
end
abbrev N_Table_mul : List Str := ["self", "n", "feeds"]
theorem sc_Table_mul : FnScope N_Table_mul ["self", "n"] (defScope s_Table_mul) := ⟨rfl, rfl, rfl, by decide +kernel, rfl, by decide +kernel, by decide +kernel⟩
section
variable {P : Program} {w : World} {K : PySem.W.Frag} {mg : Str → Option Value} {base : Heap} {k : Nat} {sp : Sp} (T : Tx K mg)
include T in
theorem mk_Table_mul (len : ∀ vs H Q E, sp vs H Q E → vs.length = 2) (hbody : ∀ (cdv : Value) (A : Around) (outer : List Env) (s : Shared) (H : Hp) (vs : List V) (Q : VK) (E : XK), Room k (A.deeper (envOfC "Table.__mul__" (defScope s_Table_mul) s.heap.objs.size (HP.mA "Table" "__mul__" K) cdv)) → sp vs H Q E →
      ∃ t, PSs (cxOf (L2.CX P w) P w K mg base N_Table_mul "Table.__mul__" (defScope s_Table_mul) (HP.mA "Table" "__mul__" K) cdv A outer s H E) (defBody s_Table_mul) t ∧ t { nx := fun _ H' => Q .non H', rt := Q } (start N_Table_mul vs) H) :
    FnR P w K mg base (L2.CX P w) (k + 1) (HP.mA "Table" "__mul__" K) sp := by
  obtain ⟨fd, D⟩ := d_Table_mul T
  exact HP.rawN D (D.ok sc_Table_mul len hbody) fun _ _ _ _ _ _ us hl => match us, hl with | [_, _], _ => rfl
end
abbrev N_Table_lean : List Str := ["self", "feeds"]
theorem sc_Table_lean : FnScope N_Table_lean ["self"] (defScope s_Table_lean) := ⟨rfl, rfl, rfl, by decide +kernel, rfl, by decide +kernel, by decide +kernel⟩
section
variable {P : Program} {w : World} {K : PySem.W.Frag} {mg : Str → Option Value} {base : Heap} {k : Nat} {sp : Sp} (T : Tx K mg)
include T in
theorem mk_Table_lean (len : ∀ vs H Q E, sp vs H Q E → vs.length = 1) (hbody : ∀ (cdv : Value) (A : Around) (outer : List Env) (s : Shared) (H : Hp) (vs : List V) (Q : VK) (E : XK), Room k (A.deeper (envOfC "Table.lean" (defScope s_Table_lean) s.heap.objs.size (HP.mA "Table" "lean" K) cdv)) → sp vs H Q E →
      ∃ t, PSs (cxOf (L2.CX P w) P w K mg base N_Table_lean "Table.lean" (defScope s_Table_lean) (HP.mA "Table" "lean" K) cdv A outer s H E) (defBody s_Table_lean) t ∧ t { nx := fun _ H' => Q .non H', rt := Q } (start N_Table_lean vs) H) :
    FnR P w K mg base (L2.CX P w) (k + 1) (HP.mA "Table" "lean" K) sp := by
  obtain ⟨fd, D⟩ := d_Table_lean T
  exact HP.rawN D (D.ok sc_Table_lean len hbody) fun _ _ _ _ _ _ us hl => match us, hl with | [_], _ => rfl
end
abbrev N_Table_turned : List Str := ["self", "n", "at", "feeds"]
theorem sc_Table_turned : FnScope N_Table_turned ["self", "n"] (defScope s_Table_turned) := ⟨rfl, rfl, rfl, by decide +kernel, rfl, by decide +kernel, by decide +kernel⟩
section
variable {P : Program} {w : World} {K : PySem.W.Frag} {mg : Str → Option Value} {base : Heap} {k : Nat} {sp : Sp} (T : Tx K mg)
include T in
theorem mk_Table_turned (len : ∀ vs H Q E, sp vs H Q E → vs.length = 2) (hbody : ∀ (cdv : Value) (A : Around) (outer : List Env) (s : Shared) (H : Hp) (vs : List V) (Q : VK) (E : XK), Room k (A.deeper (envOfC "Table.turned" (defScope s_Table_turned) s.heap.objs.size (HP.mA "Table" "turned" K) cdv)) → sp vs H Q E →
      ∃ t, PSs (cxOf (L2.CX P w) P w K mg base N_Table_turned "Table.turned" (defScope s_Table_turned) (HP.mA "Table" "turned" K) cdv A outer s H E) (defBody s_Table_turned) t ∧ t { nx := fun _ H' => Q .non H', rt := Q } (start N_Table_turned vs) H) :
    FnR P w K mg base (L2.CX P w) (k + 1) (HP.mA "Table" "turned" K) sp := by
  obtain ⟨fd, D⟩ := d_Table_turned T
  exact HP.rawN D (D.ok sc_Table_turned len hbody) fun _ _ _ _ _ _ us hl => match us, hl with | [_, _], _ => rfl
include T in
theorem mkK_Table_turned_n (len : ∀ vs H Q E, sp vs H Q E → vs.length = 2) (hbody : ∀ (cdv : Value) (A : Around) (outer : List Env) (s : Shared) (H : Hp) (vs : List V) (Q : VK) (E : XK), Room k (A.deeper (envOfC "Table.turned" (defScope s_Table_turned) s.heap.objs.size (HP.mA "Table" "turned" K) cdv)) → sp vs H Q E →
      ∃ t, PSs (cxOf (L2.CX P w) P w K mg base N_Table_turned "Table.turned" (defScope s_Table_turned) (HP.mA "Table" "turned" K) cdv A outer s H E) (defBody s_Table_turned) t ∧ t { nx := fun _ H' => Q .non H', rt := Q } (start N_Table_turned vs) H) :
    HP.FnK P w K mg base (L2.CX P w) (k + 1) (HP.mA "Table" "turned" K) ["n"] (fun vs zs H Q E => vs.length = 1 ∧ sp (vs ++ zs) H Q E) := by
  obtain ⟨fd, D⟩ := d_Table_turned T
  exact HP.kbn0 D (D.ok sc_Table_turned len hbody) 1 ["n"] fun _ _ _ _ _ _ us ws l1 l2 => match us, ws, l1, l2 with | [_], [_], _, _ => rfl
end
abbrev N_Table_as_ring : List Str := ["self", "feed"]
theorem sc_Table_as_ring : FnScope N_Table_as_ring ["self"] (defScope s_Table_as_ring) := ⟨rfl, rfl, rfl, by decide +kernel, rfl, by decide +kernel, by decide +kernel⟩
section
variable {P : Program} {w : World} {K : PySem.W.Frag} {mg : Str → Option Value} {base : Heap} {k : Nat} {sp : Sp} (T : Tx K mg)
include T in
theorem mk_Table_as_ring (len : ∀ vs H Q E, sp vs H Q E → vs.length = 1) (hbody : ∀ (cdv : Value) (A : Around) (outer : List Env) (s : Shared) (H : Hp) (vs : List V) (Q : VK) (E : XK), Room k (A.deeper (envOfC "Table.as_ring" (defScope s_Table_as_ring) s.heap.objs.size (HP.mA "Table" "as_ring" K) cdv)) → sp vs H Q E →
      ∃ t, PSs (cxOf (L2.CX P w) P w K mg base N_Table_as_ring "Table.as_ring" (defScope s_Table_as_ring) (HP.mA "Table" "as_ring" K) cdv A outer s H E) (defBody s_Table_as_ring) t ∧ t { nx := fun _ H' => Q .non H', rt := Q } (start N_Table_as_ring vs) H) :
    FnR P w K mg base (L2.CX P w) (k + 1) (HP.mA "Table" "as_ring" K) sp := by
  obtain ⟨fd, D⟩ := d_Table_as_ring T
  exact HP.rawN D (D.ok sc_Table_as_ring len hbody) fun _ _ _ _ _ _ us hl => match us, hl with | [_], _ => rfl
end
abbrev N_Table_eq : List Str := ["self", "other"]
theorem sc_Table_eq : FnScope N_Table_eq ["self", "other"] (defScope s_Table_eq) := ⟨rfl, rfl, rfl, by decide +kernel, rfl, by decide +kernel, by decide +kernel⟩
section
variable {P : Program} {w : World} {K : PySem.W.Frag} {mg : Str → Option Value} {base : Heap} {k : Nat} {sp : Sp} (T : Tx K mg)
include T in
theorem mk_Table_eq (len : ∀ vs H Q E, sp vs H Q E → vs.length = 2) (hbody : ∀ (cdv : Value) (A : Around) (outer : List Env) (s : Shared) (H : Hp) (vs : List V) (Q : VK) (E : XK), Room k (A.deeper (envOfC "Table.__eq__" (defScope s_Table_eq) s.heap.objs.size (HP.mA "Table" "__eq__" K) cdv)) → sp vs H Q E →
      ∃ t, PSs (cxOf (L2.CX P w) P w K mg base N_Table_eq "Table.__eq__" (defScope s_Table_eq) (HP.mA "Table" "__eq__" K) cdv A outer s H E) (defBody s_Table_eq) t ∧ t { nx := fun _ H' => Q .non H', rt := Q } (start N_Table_eq vs) H) :
    FnR P w K mg base (L2.CX P w) (k + 1) (HP.mA "Table" "__eq__" K) sp := by
  obtain ⟨fd, D⟩ := d_Table_eq T
  exact HP.rawN D (D.ok sc_Table_eq len hbody) fun _ _ _ _ _ _ us hl => match us, hl with | [_, _], _ => rfl
end
abbrev N_Table_str : List Str := ["self"]
theorem sc_Table_str : FnScope N_Table_str ["self"] (defScope s_Table_str) := ⟨rfl, rfl, rfl, by decide +kernel, rfl, by decide +kernel, by decide +kernel⟩
section
variable {P : Program} {w : World} {K : PySem.W.Frag} {mg : Str → Option Value} {base : Heap} {k : Nat} {sp : Sp} (T : Tx K mg)
include T in
theorem mk_Table_str (len : ∀ vs H Q E, sp vs H Q E → vs.length = 1) (hbody : ∀ (cdv : Value) (A : Around) (outer : List Env) (s : Shared) (H : Hp) (vs : List V) (Q : VK) (E : XK), Room k (A.deeper (envOfC "Table.__str__" (defScope s_Table_str) s.heap.objs.size (HP.mA "Table" "__str__" K) cdv)) → sp vs H Q E →
      ∃ t, PSs (cxOf (L2.CX P w) P w K mg base N_Table_str "Table.__str__" (defScope s_Table_str) (HP.mA "Table" "__str__" K) cdv A outer s H E) (defBody s_Table_str) t ∧ t { nx := fun _ H' => Q .non H', rt := Q } (start N_Table_str vs) H) :
    FnR P w K mg base (L2.CX P w) (k + 1) (HP.mA "Table" "__str__" K) sp := by
  obtain ⟨fd, D⟩ := d_Table_str T
  exact HP.rawN D (D.ok sc_Table_str len hbody) fun _ _ _ _ _ _ us hl => match us, hl with | [_], _ => rfl
end
end HL
namespace HL
open PySem PySem.Spec PyProof.Rows L2 Evl
/-! ### plain words -/
/-- the places of a table within a turn -/
def placesI (fs : List Int) : List Int := (List.range fs.length).map fun k => (fs.take k).sum
/-- the text of numbers, a blank between -/
def wordsI (ns : List Int) : Str := Txt.join " " (ns.map fun n => (toString n : Str))
section
variable {P : Program} {w : World} {K : PySem.W.Frag} {mg : Str → Option Value} {base : Heap}
def sp_is_integer : Sp := fun vs H Q _ => ∃ i : Int, vs = [.int i] ∧ Q (.bl true) H
theorem ok_is_integer (T : Tx K mg) : FnR P w K mg base (L2.CX P w) 1 (HP.gA "is_integer" K) sp_is_integer := mk_is_integer T
  (fun vs H Q E h => by obtain ⟨i, rfl, _⟩ := h; rfl) fun cdv A outer s H vs Q E hr h => by
  obtain ⟨i, rfl, q⟩ := h
  refine ⟨_, (pss_one (ps_ret (pe_and (pe_callB (HP.isi_K K) (by rfl) (f_free_isinstance T) (by decide +kernel) (pa_cons (pv 0) (pa_cons (pe_bltn (v := V.ty "int") (by rfl) (f_free_int T) (by decide +kernel) rfl) pa_nil))) (pe_one (pe_not (pe_callB (HP.isi_K K) (by rfl) (f_free_isinstance T) (by decide +kernel) (pa_cons (pv 0) (pa_cons (pe_bltn (v := V.ty "bool") (by rfl) (f_free_bool T) (by decide +kernel) rfl) pa_nil)))))))), ?_⟩
  refine ⟨_, rfl, _, _, _, _, _, rfl, .ty _, .base (.int _), rfl, _, rfl, ?_⟩
  rw [if_pos rfl]
  exact ⟨_, rfl, _, _, _, _, false, rfl, .ty _, .base (.int _), (by kernel_rfl), _, rfl, q⟩
def sp_is_within : Sp := fun vs H Q _ => ∃ i lo hi : Int, vs = [.int i, .int lo, .int hi] ∧ Q (.bl (decide (lo ≤ i ∧ i ≤ hi))) H
theorem ok_is_within (T : Tx K mg) : FnR P w K mg base (L2.CX P w) 2 (HP.gA "is_within" K) sp_is_within := mk_is_within T
  (fun vs H Q E h => by obtain ⟨i, lo, hi, rfl, _⟩ := h; rfl) fun cdv A outer s H vs Q E hr h => by
  obtain ⟨i, lo, hi, rfl, q⟩ := h
  refine ⟨_, (pss_one (ps_ret (pe_and (HP.pe_callR (ok_is_integer T) (hr.mono (by decide)) (kp_is_integer T) (by rfl) (f_glo_is_integer T) passL (pa_cons (pv 0) pa_nil)) (pe_one (pe_chain op_le op_le (pv 1) (pv 0) (pv 2)))))), ?_⟩
  refine ⟨_, rfl, _, rfl, _, rfl, ?_⟩
  rw [if_pos rfl]
  refine ⟨_, rfl, _, rfl, _, _, rfl, rfl, _, rfl, ?_⟩
  by_cases c : lo ≤ i
  · rw [if_pos (decide_eq_true c)]
    refine ⟨_, rfl, _, _, rfl, rfl, ?_⟩
    have e : decide (lo ≤ i ∧ i ≤ hi) = decide (i ≤ hi) := by simp [c]
    rw [e] at q
    exact q
  · rw [if_neg (by simp [c])]
    have e : decide (lo ≤ i ∧ i ≤ hi) = false := by simp [c]
    rw [e] at q
    exact q
def sp_need_count : Sp := fun vs H Q _ => ∃ n : Int, vs = [.int n] ∧ 0 ≤ n ∧ n ≤ 1000000000000000000000000000000 ∧ Q .non H
theorem ok_need_count (T : Tx K mg) : FnR P w K mg base (L2.CX P w) 3 (HP.gA "need_count" K) sp_need_count := mk_need_count T
  (fun vs H Q E h => by obtain ⟨n, rfl, _⟩ := h; rfl) fun cdv A outer s H vs Q E hr h => by
  obtain ⟨n, rfl, h0, h1, q⟩ := h
  refine ⟨_, (pss_one (ps_if (pt_not (pt_val (HP.pe_callR (ok_is_within T) (hr.mono (by decide)) (kp_is_within T) (by rfl) (f_glo_is_within T) passL (pa_cons (pv 0) (pa_cons pe_int (pa_cons (HP.pe_gint (by rfl) (f_int_MOST_PLACE T)) pa_nil)))))) (pss_one ps_never) pss_nil)), ?_⟩
  refine ⟨_, rfl, _, _, _, rfl, _, rfl, ?_⟩
  rw [decide_eq_true ⟨h0, h1⟩]
  exact q
/-- an instance of Table with these feeds -/
def TabAt (K : PySem.W.Frag) (H : Hp) (a : Addr) (fs : List Int) : Prop := (∃ dx p t, H a = some (.ins (HP.gA "Table" K) dx [("feeds", .ref p), ("places", .ref t)]) ∧ SqT K H p (fs.map V.int) ∧ SqT K H t ((placesI fs).map V.int)) ∧
  1 ≤ fs.length ∧ fs.length ≤ 50 ∧ ∀ f ∈ fs, 1 ≤ f ∧ f ≤ 100
theorem TabAt.ex {H H' : Hp} {a : Addr} {fs : List Int} (t : TabAt K H a fs) (e : Ex H H') : TabAt K H' a fs := by
  obtain ⟨⟨dx, p, t, h1, h2, h3⟩, h4⟩ := t
  exact ⟨⟨dx, p, t, e _ _ h1, ex_t e h2, ex_t e h3⟩, h4⟩
def sp_need_table (K : PySem.W.Frag) : Sp := fun vs H Q _ => ∃ (a : Addr) (fs : List Int) (z : Str), vs = [.ref a, .str z] ∧ TabAt K H a fs ∧ Q .non H
theorem ok_need_table (T : Tx K mg) : FnR P w K mg base (L2.CX P w) 1 (HP.gA "need_table" K) (sp_need_table K) := by
  refine (mk_need_table (sp := sp_need_table K) T (fun vs H Q E h => by obtain ⟨a, fs, z, rfl, _⟩ := h; rfl) fun cdv A outer s H vs Q E hr h => ?_).imp fun vs H Q E h => ?_
  · obtain ⟨a, fs, z, rfl, ⟨⟨dx, p, t, h1, _⟩, _⟩, q⟩ := h
    refine ⟨_, (pss_one (ps_if (pt_not (pt_val (pe_callB (HP.isi_K K) (by rfl) (f_free_isinstance T) (by decide +kernel) (pa_cons (pv 0) (pa_cons (pe_glob (v := V.ref (HP.gA "Table" K)) (by rfl) (f_glo_Table T) rfl) pa_nil))))) (pss_one ps_never) pss_nil)), ?_⟩
    exact ⟨_, rfl, _, _, _, _, true, rfl, .own _, f_ins_Table T h1, HP.kit_self (by simp), _, rfl, q⟩
  · show sp_need_table K (vs ++ []) H Q E
    rw [List.append_nil]
    exact h
end
end HL
namespace HL
open PySem PySem.Spec PyProof.Rows L2 Evl SX
theorem placesI_get {fs : List Int} {k : Nat} (h : k < fs.length) : (placesI fs)[k]? = some (fs.take k).sum := by
  unfold placesI
  rw [List.getElem?_map, List.getElem?_range h]
  rfl
theorem sum_step {fs : List Int} {i : Nat} {v : Int} (h : fs[i]? = some v) : (fs.take (i + 1)).sum = (fs.take i).sum + v := by
  rw [List.take_add_one, h, List.sum_append]
  simp
section
variable {P : Program} {w : World} {K : PySem.W.Frag} {mg : Str → Option Value} {base : Heap}
def sp_places_of (K : PySem.W.Frag) : Sp := fun vs H Q _ => ∃ (a : Addr) (fs : List Int), vs = [.ref a] ∧ SqT K H a (fs.map V.int) ∧ 1 ≤ fs.length ∧ fs.length ≤ 1000 ∧ ∀ p H', Ex H H' → SqT K H' p ((placesI fs).map V.int) → Q (.ref p) H'
theorem ok_places_of (T : Tx K mg) : FnR P w K mg base (L2.CX P w) 1 (HP.gA "places_of" K) (sp_places_of K) := mk_places_of T
  (fun vs H Q E h => by obtain ⟨a, fs, rfl, _⟩ := h; rfl) fun cdv A outer s H vs Q E hr h => by
  obtain ⟨a, fs, rfl, hS, h1, h2, q⟩ := h
  refine ⟨_, (pss_cons (ps_set (i := 1) sc_places_of.nd rfl (.inl rfl) (pe_lst (pa_cons pe_int pa_nil)))
      (pss_cons (ps_for HP.pso rfl (HP.iterT_K K (pe_slice (HP.slT_K K) (pv 0) po_none (po_some (pe_un un_neg pe_int)))) (pg_name (i := 2) sc_places_of.nd rfl (.inl rfl))
        (pss_one (ps_expr (pe_bm PySem.F.plainAttrs_list PySem.F.slot_list_append PySem.F.type_list_append mt_append (pv 1) (pa_cons (pe_op op_add (pe_ix (HP.ixL_K K) (pv 1) (pe_un un_neg pe_int) (fun _ _ => rfl)) (pv 2)) pa_nil)))))
      (pss_one (ps_ret (pe_callTy (HP.tupOf_K K) (by rfl) (f_free_tuple T) (by decide +kernel) (pa_cons (pv 1) pa_nil)))))), ?_⟩
  refine ⟨by decide, fun l hl => ?_⟩
  refine ⟨_, rfl, 1, rfl, -1, rfl, a, _, rfl, ex_t (Ex.new hl) hS, fun p H1 e1 hp => ?_⟩
  have e01 : Ex H H1 := (Ex.new hl).trans e1
  have hl1 : H1 l = some (.lst [.int 0]) := e1 _ _ upd_same
  rw [HP.cut_butI] at hp
  refine ⟨p, rfl, ⟨_, hp⟩, for_tup (xs := fs.dropLast.map V.int) (fun i σ H' => Ex H H' ∧ SqT K H' p (fs.dropLast.map V.int) ∧ (∃ v, σ = [some (.ref a), some (.ref l), v]) ∧ i < fs.length ∧ H' l = some (.lst (((List.range (i + 1)).map fun k => (fs.take k).sum).map V.int)))
    ⟨e01, hp, ⟨_, rfl⟩, by omega, hl1⟩ (fun i σ H' _ h => h.2.1) ?_ ?_⟩
  · rintro i x σ H' hx ⟨e, hp, ⟨v, rfl⟩, hi, hl'⟩
    obtain ⟨f, hf, rfl, hi2⟩ := HP.get_map_int hx
    have hi3 : i + 1 < fs.length := by
      rw [List.length_dropLast] at hi2
      omega
    have hf2 : fs[i]? = some f := by
      rw [List.dropLast_eq_take, List.getElem?_take] at hf
      split at hf
      · exact hf
      · cases hf
    have hlast : atI (((List.range (i + 1)).map fun k => (fs.take k).sum).map V.int) (-1) = some (V.int (fs.take i).sum) := by
      rw [List.range_succ, List.map_append, List.map_append]
      exact atI_last _ _
    refine ⟨_, rfl, .inl ⟨rfl, _, sq_of hl'⟩, _, rfl, _, rfl, l, _, -1, _, rfl, rfl, sq_of hl', hlast, _, rfl, _, _, rfl, rfl, ?_⟩
    refine ⟨l, _, _, rfl, rfl, hl', sz_lt (by simp; omega), ?_⟩
    refine ⟨Ex.mut e hl, HP.sqT_upd hl' hp, ⟨_, rfl⟩, hi3, ?_⟩
    rw [upd_same, show List.range (i + 1 + 1) = List.range (i + 1) ++ [i + 1] from List.range_succ, List.map_append, List.map_append]
    show some (HO.lst (_ ++ [V.int ((fs.take i).sum + f)])) = _
    rw [← sum_step hf2]
    rfl
  · rintro σ H' ⟨e, hp, ⟨v, rfl⟩, hi, hl'⟩
    refine ⟨_, rfl, l, _, rfl, .inl (sq_of hl'), fun p2 H2 e2 h2 => q p2 H2 (e.trans e2) ?_⟩
    have e9 : (fs.dropLast.map V.int).length + 1 = fs.length := by
      rw [List.length_map, List.length_dropLast]
      omega
    rw [e9] at h2
    exact h2
end
end HL
namespace HL
open PySem PySem.Spec PyProof.Rows L2 Evl SX
/-- the ring of a table, as code points -/
def ringI (fs : List Int) : List Nat := (fs.map fun f => 49 :: List.replicate (f - 1).toNat 48).flatten
/-- a ring that of_ring takes -/
def marked (z : List Nat) : Bool := decide (1 ≤ z.length ∧ z.length ≤ 2000) && (decide (49 ∈ z) && z.all fun c => decide (c ∈ [48, 49]))
section
variable {P : Program} {w : World} {K : PySem.W.Frag} {mg : Str → Option Value} {base : Heap}
def sp_written (K : PySem.W.Frag) : Sp := fun vs H Q _ => ∃ (a : Addr) (ns : List Int), vs = [.ref a] ∧ SqT K H a (ns.map V.int) ∧ ns.length ≤ 1000 ∧ (∀ n ∈ ns, n.natAbs.log2 < 1920) ∧ (wordsI ns).length ≠ 0 ∧ ∀ H', Ex H H' → Q (.str (wordsI ns)) H'
theorem words_len {ns : List Int} (h1 : ns.length ≤ 1000) (h2 : ∀ n ∈ ns, n.natAbs.log2 < 1920) : ((ns.map fun n => (toString n : Str)).map (·.length)).sum + (ns.map fun n => (toString n : Str)).length * (" " : Str).length ≤ 2000000 := by
  have e : (" " : Str).length = 1 := rfl
  have l := HP.sum_le (l := (ns.map fun n => (toString n : Str)).map (·.length)) (b := 1921) fun x hx => by
    rw [List.mem_map] at hx
    obtain ⟨y, hy, rfl⟩ := hx
    rw [List.mem_map] at hy
    obtain ⟨n, hn, rfl⟩ := hy
    exact int_text_len_1921 (h2 n hn)
  rw [List.length_map, List.length_map] at l
  rw [e, List.length_map]
  omega
theorem ok_written (T : Tx K mg) : FnR P w K mg base (L2.CX P w) 1 (HP.gA "written" K) (sp_written K) := mk_written T
  (fun vs H Q E h => by obtain ⟨a, fs, rfl, _⟩ := h; rfl) fun cdv A outer s H vs Q E hr h => by
  obtain ⟨a, ns, rfl, hS, h1, h2, h3, q⟩ := h
  refine ⟨_, (pss_one (ps_ret (pe_orT (HP.join_K K pe_str (pe_lc (own := [("number", 1)]) (tt := tYes) rfl sc_written.nd (HP.iterT_K K (pv 0)) (blkOk_by (N := N_written) (sc := defScope s_written) (by decide +kernel)) (fun _ _ _ _ _ => (pg_name (i := 1) sc_written.nd rfl (.inl rfl))) (fun _ _ _ _ _ => pts_nil) (fun _ _ _ _ _ => (pe_callTy call_str_int (by rfl) (f_free_str T) (by decide +kernel) (pa_cons (pv 1) pa_nil))))) (pe_one pe_str)))), ?_⟩
  refine ⟨⟨_, rfl⟩, HP.lc_of ⟨_, rfl, a, rfl, ⟨_, hS⟩, HP.lcPY walk_tup (fun i => V.str (toString (ns.getD i 0))) (by rw [List.length_map]; omega) (fun H1 e => ex_t e hS) (fun i x H1 H2 ky hi e y k1 => ?_) fun D H1 hD e h => ?_⟩⟩
  · obtain ⟨rfl, hx⟩ := y
    obtain ⟨n, hn, rfl, _⟩ := HP.get_map_int hx
    rw [List.getD_eq_getElem?_getD, hn] at k1
    exact ⟨rfl, _, rfl, n, rfl, h2 n (List.mem_of_getElem? hn), k1 _ (Ex.refl _)⟩
  · rw [List.length_map, HP.rg_map ns (fun n => V.str (toString n)) _ fun i x hx => by rw [List.getD_eq_getElem?_getD, hx]; rfl] at h
    have hw := words_len h1 h2
    refine ⟨_, D, ns.map fun n => (toString n : Str), rfl, rfl, .inl (sq_of (by rw [List.map_map]; exact h)), by omega, true, ⟨?_, ?_⟩, HP.ifT rfl (q _ e)⟩
    · have z : (wordsI ns).length ≤ 2000000 := by
        have := HP.join_le " " (ns.map fun n => (toString n : Str))
        unfold wordsI
        omega
      exact HP.sz_big (by have := z; unfold wordsI at this; omega)
    · have : (((wordsI ns).length : Int) != 0) = true := by
        rw [bne_iff_ne]
        omega
      exact this.symm
end
end HL
namespace HL
open PySem PySem.Spec PyProof.Rows L2 Evl SX
/-- s is a size whose part, laid again and again, is the whole -/
def good (fs : List Int) (s : Nat) : Bool := decide ((List.replicate (fs.length / s) (fs.take s)).flatten = fs)
def leastN (fs : List Int) : Nat := ((List.range fs.length).find? fun i => good fs (i + 1)).getD 0 + 1
def leastI (fs : List Int) : List Int := fs.take (leastN fs)
theorem good_self {fs : List Int} (h : 1 ≤ fs.length) : good fs fs.length = true := by
  unfold good
  rw [Nat.div_self (by omega), List.take_of_length_le (Nat.le_refl _)]
  simp
theorem leastN_spec {fs : List Int} (h : 1 ≤ fs.length) : ∃ j, (List.range fs.length).find? (fun i => good fs (i + 1)) = some j ∧ leastN fs = j + 1 ∧ j < fs.length ∧ good fs (j + 1) = true ∧ ∀ i, i < j → good fs (i + 1) = false := by
  cases e : (List.range fs.length).find? (fun i => good fs (i + 1)) with
  | none =>
    rw [List.find?_eq_none] at e
    have z := e (fs.length - 1) (List.mem_range.mpr (by omega))
    rw [show fs.length - 1 + 1 = fs.length by omega, good_self h] at z
    exact absurd rfl z
  | some j =>
    refine ⟨j, rfl, by unfold leastN; rw [e]; rfl, List.mem_range.mp (List.mem_of_find?_eq_some e), (show (fun i => good fs (i + 1)) j = true from List.find?_some (p := fun i => good fs (i + 1)) e), fun i hi => ?_⟩
    rw [List.find?_range_eq_some] at e
    have := e.2.2 i hi
    simpa using this
section
variable {P : Program} {w : World} {K : PySem.W.Frag} {mg : Str → Option Value} {base : Heap}
def sp_least_part (K : PySem.W.Frag) : Sp := fun vs H Q _ => ∃ (a : Addr) (fs : List Int), vs = [.ref a] ∧ SqT K H a (fs.map V.int) ∧ 1 ≤ fs.length ∧ fs.length ≤ 1000 ∧ ∀ p H', Ex H H' → SqT K H' p ((leastI fs).map V.int) → Q (.ref p) H'
theorem ok_least_part (T : Tx K mg) : FnR P w K mg base (L2.CX P w) 1 (HP.gA "least_part" K) (sp_least_part K) := mk_least_part T
  (fun vs H Q E h => by obtain ⟨a, fs, rfl, _⟩ := h; rfl) fun cdv A outer s H vs Q E hr h => by
  obtain ⟨a, fs, rfl, hS, h1, h2, q⟩ := h
  refine ⟨_, (pss_cons (ps_setLc (i := 1) (own := [("size", 2)])  rfl sc_least_part.nd rfl rfl (sw_true rfl rfl rfl (by decide +kernel)) (pi_range2 (by rfl) (f_free_range T) (pa_cons pe_int (pa_cons (pe_op op_add (pe_callB (HP.len_K K) (by rfl) (f_free_len T) PySem.boot_len (pa_cons (pv 0) pa_nil)) pe_int) pa_nil))) (blkOk_by (N := N_least_part) (sc := defScope s_least_part) (by decide +kernel)) (fun _ _ _ _ _ => (pg_name (i := 2) sc_least_part.nd rfl (.inl rfl))) (fun _ _ _ _ _ => pts_one (pt_cmpR (HP.eqI_K K hr.units) (pe_op (HP.repT_K K) (pe_slice (HP.slT_K K) (pv 0) po_none (po_some (pv 2))) (pe_op op_fdiv (pe_callB (HP.len_K K) (by rfl) (f_free_len T) PySem.boot_len (pa_cons (pv 0) pa_nil)) (pv 2))) (pv 0) (nomark _))) (fun _ _ _ _ _ => (pv 2)))
      (pss_one (ps_ret (pe_slice (HP.slT_K K) (pv 0) po_none (po_some (pe_ix (HP.ixL_K K) (pv 1) pe_int (fun _ _ => rfl))))))), ?_⟩
  have en : ((fs.length : Int) + 1 - 1).toNat = fs.length := by omega
  have el : (fs.map V.int).length = fs.length := List.length_map ..
  refine HP.lc_seq ?_
  refine ⟨_, rfl, a, _, rfl, HP.lenT hS, _, _, rfl, rfl, 1, _, rfl, ⟨by decide, by decide, by omega, by omega⟩, ?_⟩
  rw [en]
  refine HP.lcP walk_range (fun i => if good fs (i + 1) then some (V.int ((i + 1 : Nat) : Int)) else none) (by omega) (fun _ _ => trivial) (fun i x H1 H2 ky k0 hi e y k1 k2 => ?_) fun D H1 hD e h => ?_
  · obtain ⟨rfl, hx⟩ := y
    have ei : (1 : Int) + (i : Int) = ((i + 1 : Nat) : Int) := by omega
    rw [show x = V.int ((i + 1 : Nat) : Int) from hx.trans (congrArg V.int ei)]
    have hS1 := ex_t e hS
    refine ⟨rfl, _, rfl, _, rfl, _, rfl, a, _, rfl, hS1, fun p H3 e3 hp => ?_⟩
    rw [HP.cut_toI] at hp
    have hS3 := ex_t e3 hS1
    refine ⟨_, rfl, a, _, rfl, HP.lenT hS3, _, rfl, _, _, rfl, rfl, ⟨by omega, by omega⟩, ?_⟩
    have hd1 : 1 ≤ fs.length / (i + 1) := Nat.div_pos (by omega) (by omega)
    have hd2 : fs.length / (i + 1) ≤ fs.length := Nat.div_le_self _ _
    have ed : ((fs.length : Int) / ((i + 1 : Nat) : Int)) = ((fs.length / (i + 1) : Nat) : Int) := by rw [Int.natCast_ediv]
    refine ⟨p, ((fs.length / (i + 1) : Nat) : Int), _, rfl, by rw [← ed], hp, by rw [ne_eq, ← List.length_eq_zero_iff, List.length_map, List.length_take]; omega, by omega, by omega, by rw [List.length_map, List.length_take]; omega, fun p4 H4 e4 h4 => ?_⟩
    rw [Int.toNat_natCast, HP.rep_mapI] at h4
    refine ⟨_, rfl, HP.eqI_of (.inl ⟨h4, ex_t e4 hS3⟩) ?_⟩
    refine ⟨_, rfl, ?_⟩
    show if good fs (i + 1) = true then _ else _
    by_cases c : good fs (i + 1) = true
    · rw [if_pos c]
      rw [if_pos c] at k1
      exact ⟨_, rfl, k1 _ _ rfl (e3.trans e4)⟩
    · rw [if_neg c]
      rw [if_neg c] at k2
      exact k2 _ rfl (e3.trans e4)
  · obtain ⟨j, j1, j2, j3, j4, j5⟩ := leastN_spec h1
    have hat : atI ((List.range fs.length).filterMap fun i => if good fs (i + 1) then some (V.int ((i + 1 : Nat) : Int)) else none) 0 = some (V.int ((j + 1 : Nat) : Int)) := by
      refine atI_nat (j := 0) ?_
      rw [← List.head?_eq_getElem?, List.head?_filterMap]
      rw [List.findSome?_eq_some_iff]
      rw [List.find?_eq_some_iff_append] at j1
      obtain ⟨g1, l1, l2, e1, g2⟩ := j1
      refine ⟨l1, j, l2, e1, by rw [if_pos j4], fun x hx => ?_⟩
      have := g2 x hx
      rw [if_neg (by simpa using this)]
    refine ⟨_, rfl, _, rfl, ⟨D, _, 0, _, rfl, rfl, sq_of h, hat, ?_⟩⟩
    refine ⟨_, rfl, a, _, rfl, ex_t e hS, fun p H3 e3 hp => q p H3 (e.trans e3) ?_⟩
    rw [HP.cut_toI, ← j2] at hp
    exact hp
end
end HL
namespace HL
open PySem PySem.Spec PyProof.Rows L2 Evl SX
theorem lit1 : ("1" : Str) = S [49] := rfl
theorem lit0 : ("0" : Str) = S [48] := rfl
theorem lit01 : ("01" : Str) = S [48, 49] := rfl
theorem lit : ("" : Str) = S [] := rfl
section
variable {P : Program} {w : World} {K : PySem.W.Frag} {mg : Str → Option Value} {base : Heap}
def sp_is_marked : Sp := fun vs H Q _ => ∃ z : List Nat, vs = [.str (S z)] ∧ z.length ≤ 100000 ∧ ∀ H', Ex H H' → Q (.bl (marked z)) H'
theorem ok_is_marked (T : Tx K mg) : FnR P w K mg base (L2.CX P w) 1 (HP.gA "is_marked" K) sp_is_marked := mk_is_marked T
  (fun vs H Q E h => by obtain ⟨z, rfl, _⟩ := h; rfl) fun cdv A outer s H vs Q E hr h => by
  obtain ⟨z, rfl, hz, q⟩ := h
  refine ⟨_, (pss_cons (ps_if (pw_or (pt_not (pt_val (pe_callB (HP.isi_K K) (by rfl) (f_free_isinstance T) (by decide +kernel) (pa_cons (pv 0) (pa_cons (pe_bltn (v := V.ty "str") (by rfl) (f_free_str T) (by decide +kernel) rfl) pa_nil))))) (pw_or (pt_not (pt_chain op_le op_le pe_int (pe_callB call_len_str (by rfl) (f_free_len T) PySem.boot_len (pa_cons (pv 0) pa_nil)) (HP.pe_gint (by rfl) (f_int_MOST_RING T)))) (pw_or1 (pt_cmpR op_notIn_sign pe_str (pv 0) (by rfl))))).pt (pss_one (ps_ret pe_bl)) pss_nil)
      (pss_one (ps_ret (pe_callB (HP.all_K K rfl) (by rfl) (f_free_all T) (by decide +kernel) (pa_cons (pe_lc (own := [("sign", 1)]) (tt := tYes) rfl sc_is_marked.nd (pi_str (pv 0)) (blkOk_by (N := N_is_marked) (sc := defScope s_is_marked) (by decide +kernel)) (fun _ _ _ _ _ => (pg_name (i := 1) sc_is_marked.nd rfl (.inl rfl))) (fun _ _ _ _ _ => pts_nil) (fun _ _ _ _ _ => (pe_cmpR op_in_sign (pv 1) pe_str (by rfl)))) pa_nil))))), ?_⟩
  refine ⟨_, rfl, _, _, _, _, true, rfl, .ty _, .base (.str _), rfl, _, rfl, HP.ifF rfl ⟨_, rfl, S z, rfl, sz_of (by rw [S_len]; exact hz), _, _, rfl, rfl, _, rfl, ?_⟩⟩
  rw [S_len]
  have notm : ¬ (1 ≤ z.length ∧ z.length ≤ 2000 ∧ 49 ∈ z) → marked z = false := fun h => by
    cases e : marked z with
    | false => rfl
    | true =>
      unfold marked at e
      simp only [Bool.and_eq_true, decide_eq_true_eq] at e
      exact absurd ⟨e.1.1, e.1.2, e.2.1⟩ h
  by_cases c1 : 1 ≤ z.length
  · refine HP.ifT (decide_eq_true (by omega)) ⟨_, _, rfl, rfl, ?_⟩
    by_cases c2 : z.length ≤ 2000
    · refine ⟨_, rfl, HP.ifF (by simp; omega) ⟨_, rfl, 49, S z, rfl, rfl, _, rfl, ?_⟩⟩
      by_cases c3 : 49 ∈ z
      · refine HP.ifF (by simp [c3]) ?_
        dsimp only [tNext, tRet, tCB, tCons]
        refine HP.lc_of ⟨_, rfl, S z, rfl, HP.lcPY walk_str (fun i => V.bl (decide (z.getD i 0 ∈ [48, 49]))) (by simpa using hz) (fun _ _ => trivial) (fun i x H1 H2 ky hi e y k1 => ?_) fun D H1 hD e h => ?_⟩
        · obtain ⟨rfl, c, hc, rfl⟩ := y
          have hc' : z[i]? = some c := by simpa using hc
          rw [List.getD_eq_getElem?_getD, hc'] at k1
          exact ⟨rfl, _, rfl, c, S [48, 49], rfl, rfl, k1 _ (Ex.refl _)⟩
        · have e3 : ((S z).cps.size) = z.length := by simp
          rw [e3, HP.rg_map z (fun c => V.bl (decide (c ∈ [48, 49]))) _ fun i x hx => by rw [List.getD_eq_getElem?_getD, hx]; rfl] at h
          refine ⟨D, z.map fun c => decide (c ∈ [48, 49]), rfl, sq_of (by rw [List.map_map]; exact h), ?_⟩
          have e4 : (z.map fun c => decide (c ∈ [48, 49])).all id = marked z := by
            unfold marked
            rw [decide_eq_true (show 1 ≤ z.length ∧ z.length ≤ 2000 from ⟨c1, c2⟩), decide_eq_true c3, List.all_map]
            rfl
          rw [e4]
          exact q _ e
      · refine HP.ifT (by simp [c3]) ?_
        have := q H (Ex.refl _)
        rw [notm fun h => c3 h.2.2] at this
        exact this
    · refine ⟨_, rfl, HP.ifT (by simp; omega) ?_⟩
      have := q H (Ex.refl _)
      rw [notm fun h => c2 h.2.1] at this
      exact this
  · refine HP.ifF (decide_eq_false (by omega)) ⟨_, rfl, HP.ifT rfl ?_⟩
    have := q H (Ex.refl _)
    rw [notm fun h => c1 h.1] at this
    exact this
/-- self.feeds of a table -/
theorem tab_feeds {H : Hp} {a : Addr} {fs : List Int} (t : TabAt K H a fs) : ∃ dx p t', H a = some (.ins (HP.gA "Table" K) dx [("feeds", .ref p), ("places", .ref t')]) ∧ SqT K H p (fs.map V.int) ∧ SqT K H t' ((placesI fs).map V.int) := t.1
theorem sum_pos {fs : List Int} (h1 : 1 ≤ fs.length) (h2 : ∀ f ∈ fs, 1 ≤ f ∧ f ≤ 100) : 1 ≤ fs.sum ∧ fs.sum ≤ 100 * fs.length := by
  induction fs with
  | nil => simp at h1
  | cons f fs ih =>
    have hf := h2 f (List.mem_cons_self ..)
    rw [List.sum_cons, List.length_cons]
    cases fs with
    | nil =>
      simp
      omega
    | cons g gs =>
      have := ih (by simp) fun x hx => h2 x (List.mem_cons_of_mem _ hx)
      omega
def sp_Table_turn (K : PySem.W.Frag) : Sp := fun vs H Q _ => ∃ (a : Addr) (fs : List Int), vs = [.ref a] ∧ TabAt K H a fs ∧ Q (.int fs.sum) H
theorem ok_Table_turn (T : Tx K mg) : FnR P w K mg base (L2.CX P w) 1 (HP.rA "Table" "turn" "property" K) (sp_Table_turn K) := mk_Table_turn T
  (fun vs H Q E h => by obtain ⟨z, _, rfl, _⟩ := h; rfl) fun cdv A outer s H vs Q E hr h => by
  obtain ⟨a, fs, rfl, t, q⟩ := h
  obtain ⟨dx, p, t', h1, h2, h3⟩ := tab_feeds t
  refine ⟨_, (pss_one (ps_ret (pe_callB (HP.sumT_K K rfl) (by rfl) (f_free_sum T) (by decide +kernel) (pa_cons (HP.fld_K K (pv 0)) pa_nil)))), ?_⟩
  exact ⟨_, rfl, _, _, _, _, _, rfl, h1, f_cls_Table T, f_noat_Table_feeds T, rfl, p, fs, rfl, h2, q⟩
def sp_Table_as_ring (K : PySem.W.Frag) : Sp := fun vs H Q _ => ∃ (a : Addr) (fs : List Int), vs = [.ref a] ∧ TabAt K H a fs ∧ ∀ H', Ex H H' → Q (.str (S (ringI fs))) H'
theorem ok_Table_as_ring (T : Tx K mg) : FnR P w K mg base (L2.CX P w) 1 (HP.mA "Table" "as_ring" K) (sp_Table_as_ring K) := mk_Table_as_ring T
  (fun vs H Q E h => by obtain ⟨z, _, rfl, _⟩ := h; rfl) fun cdv A outer s H vs Q E hr h => by
  obtain ⟨a, fs, rfl, t, q⟩ := h
  obtain ⟨dx, p, t', h1, h2, h3⟩ := tab_feeds t
  obtain ⟨_, l1, l2, l3⟩ := t
  refine ⟨_, (pss_one (ps_ret (HP.join_K K pe_str (pe_lc (own := [("feed", 1)]) (tt := tYes) rfl sc_Table_as_ring.nd (HP.iterT_K K (HP.fld_K K (pv 0))) (blkOk_by (N := N_Table_as_ring) (sc := defScope s_Table_as_ring) (by decide +kernel)) (fun _ _ _ _ _ => (pg_name (i := 1) sc_Table_as_ring.nd rfl (.inl rfl))) (fun _ _ _ _ _ => pts_nil) (fun _ _ _ _ _ => (pe_op op_add_str pe_str (pe_op HP.op_mulS pe_str (pe_op op_sub (pv 1) pe_int)))))))), ?_⟩
  refine ⟨⟨_, rfl⟩, HP.lc_of ⟨_, rfl, _, _, _, _, _, rfl, h1, f_cls_Table T, f_noat_Table_feeds T, rfl, p, rfl, ⟨_, h2⟩, HP.lcPY walk_tup (fun i => V.str (S (49 :: List.replicate (fs.getD i 0 - 1).toNat 48))) (by rw [List.length_map]; omega) (fun H1 e => ex_t e h2) (fun i x H1 H2 ky hi e y k1 => ?_) fun D H1 hD e h => ?_⟩⟩
  · obtain ⟨rfl, hx⟩ := y
    obtain ⟨f, hf, rfl, _⟩ := HP.get_map_int hx
    have bf := l3 f (List.mem_of_getElem? hf)
    rw [List.getD_eq_getElem?_getD, hf] at k1
    refine ⟨rfl, _, rfl, _, _, rfl, rfl, S [48], f - 1, rfl, rfl, by omega, by omega, by decide, _, _, rfl, rfl, ?_, ?_⟩
    · rw [lit1, HP.rep_S, S_len, S_len, List.length_flatten]
      simp
      exact sz_of (by omega)
    · rw [lit1, HP.rep_S, S_cat]
      have er : (List.replicate (f - 1).toNat [48]).flatten = List.replicate (f - 1).toNat 48 := by simp
      rw [er]
      exact k1 _ (Ex.refl _)
  · rw [List.length_map, HP.rg_map fs (fun f => V.str (S (49 :: List.replicate (f - 1).toNat 48))) _ fun i x hx => by rw [List.getD_eq_getElem?_getD, hx]; rfl] at h
    refine ⟨_, D, (fs.map fun f => 49 :: List.replicate (f - 1).toNat 48).map S, rfl, rfl, .inl (sq_of (by rw [List.map_map, List.map_map]; exact h)), ?_, ?_⟩
    · have := HP.sum_le (l := ((fs.map fun f => 49 :: List.replicate (f - 1).toNat 48).map S).map (·.length)) (b := 100) fun x hx => by
        rw [lens, List.mem_map] at hx
        obtain ⟨y, hy, rfl⟩ := hx
        rw [List.mem_map] at hy
        obtain ⟨f, hf, rfl⟩ := hy
        have := l3 f hf
        rw [List.length_cons, List.length_replicate]
        omega
      rw [List.length_map, List.length_map, List.length_map] at this
      rw [lit, S_len]
      simp only [List.length_nil, Nat.mul_zero, Nat.add_zero]
      omega
    · rw [lit, HP.join_nil]
      exact q _ e
end
end HL
namespace HL
open PySem PySem.Spec PyProof.Rows L2 Evl SX
theorem tab_put (p t : Addr) : putF "places" (V.ref t) (putF "feeds" (V.ref p) []) = ([("feeds", V.ref p), ("places", V.ref t)] : List (Str × V)) := by
  show (if ("feeds" : Str) = "places" then [(("feeds" : Str), V.ref t)] else (("feeds" : Str), V.ref p) :: putF "places" (V.ref t) []) = ([("feeds", V.ref p), ("places", V.ref t)] : List (Str × V))
  rw [if_neg (by decide +kernel)]
  rfl
/-- feeds that a table takes -/
def okF (fs : List Int) : Prop := 1 ≤ fs.length ∧ fs.length ≤ 50 ∧ ∀ f ∈ fs, 1 ≤ f ∧ f ≤ 100
section
variable {P : Program} {w : World} {K : PySem.W.Frag} {mg : Str → Option Value} {base : Heap}
def sp_Table_init0 (K : PySem.W.Frag) : Sp := fun vs H Q _ => ∃ (x p dx : Addr) (fs : List Int) (H0 : Hp), vs = [.ref x, .ref p] ∧ H x = some (.ins (HP.gA "Table" K) dx []) ∧ H p = some (.tup (fs.map V.int)) ∧ Ex H0 H ∧ H0 x = none ∧ okF fs ∧
  ∀ H', Ex H0 H' → TabAt K H' x fs → Q .non H'
def sp_Table_init (K : PySem.W.Frag) : Sp := fun vs H Q _ => ∃ (x dx : Addr) (fs : List Int) (H0 : Hp), vs = .ref x :: fs.map V.int ∧ H0 x = none ∧ H0 dx = none ∧ dx ≠ x ∧ H = upd (upd H0 dx (.own x)) x (.ins (HP.gA "Table" K) dx []) ∧ okF fs ∧
  ∀ H', Ex H0 H' → TabAt K H' x fs → Q .non H'
theorem ok_Table_init (T : Tx K mg) : FnR P w K mg base (L2.CX P w) 3 (HP.mA "Table" "__init__" K) (sp_Table_init K) := by
  refine (mk_Table_init (k := 2) (sp := sp_Table_init0 K) T fun cdv A outer s H vs Q E hr h => ?_).imp fun vs H Q E h => ?_
  · obtain ⟨x, p, dx, fs, H0, rfl, hx, hp, e0, h0, ⟨l1, l2, l3⟩, q⟩ := h
    refine ⟨_, (pss_cons (ps_for HP.pso rfl (HP.pi_enumT (by rfl) (f_free_enumerate T) (pa_cons (pv 1) pa_nil)) (HP.tgt_K K rfl (pgs_cons (pg_name (i := 2) sc_Table_init.nd rfl (.inl rfl)) (pgs_cons (pg_name (i := 3) sc_Table_init.nd rfl (.inl rfl)) pgs_nil)))
        (pss_one (ps_if (pt_not (pt_val (HP.pe_callR (ok_is_within T) (hr.mono (by decide)) (kp_is_within T) (by rfl) (f_glo_is_within T) passL (pa_cons (pv 3) (pa_cons pe_int (pa_cons (HP.pe_gint (by rfl) (f_int_MOST_FEED T)) pa_nil)))))) (pss_one ps_never) pss_nil)))
      (pss_cons (ps_if (pt_cmpR op_eq (pe_callB (HP.len_K K) (by rfl) (f_free_len T) PySem.boot_len (pa_cons (pv 1) pa_nil)) pe_int (nomark _)) (pss_one ps_never) pss_nil)
      (pss_cons (ps_if (pt_cmpR op_gt (pe_callB (HP.len_K K) (by rfl) (f_free_len T) PySem.boot_len (pa_cons (pv 1) pa_nil)) (HP.pe_gint (by rfl) (f_int_MOST_FEEDS T)) (nomark _)) (pss_one ps_never) pss_nil)
      (pss_cons (ps_fld (pv 0) (pv 1) rfl)
      (pss_one (ps_fld (pv 0) (HP.pe_callR (ok_places_of T) (hr.mono (by decide)) (kp_places_of T) (by rfl) (f_glo_places_of T) passL (pa_cons (pv 1) pa_nil)) rfl)))))), ?_⟩
    refine ⟨_, rfl, p, fs.map V.int, rfl, st_of hp, for_it HP.walk_enumT (fun i σ H' => Ex H H' ∧ ∃ a b, σ = [some (.ref x), some (.ref p), a, b]) ⟨Ex.refl _, _, _, rfl⟩ (fun i σ H' _ z => ex_t z.1 (st_of hp)) ?_ ?_⟩
    · rintro i y σ H1 H2 hi ⟨e1, a, b, rfl⟩ ⟨T', u, v, rfl, hT, rfl, hu, hv⟩
      obtain ⟨f, hf, rfl, _⟩ := HP.get_map_int hv
      have bf := l3 f (List.mem_of_getElem? hf)
      refine ⟨T', _, rfl, st_of upd_same, rfl, _, _, rfl, _, _, rfl, rfl, ?_⟩
      refine ⟨_, rfl, f, 1, 100, rfl, _, rfl, HP.ifF (by rw [decide_eq_true bf]; rfl) ⟨e1.trans (Ex.new hT), _, _, rfl⟩⟩
    · rintro σ H1 ⟨e1, a, b, rfl⟩
      have hp1 : H1 p = some (.tup (fs.map V.int)) := e1 _ _ hp
      have hx1 := e1 _ _ hx
      refine ⟨_, rfl, p, _, rfl, HP.lenT (st_of hp1), rfl, _, rfl, HP.ifF (HP.dne_int (by omega)) ?_⟩
      refine ⟨_, rfl, p, _, rfl, HP.lenT (st_of hp1), _, _, rfl, rfl, _, rfl, HP.ifF (decide_eq_false (by omega)) ?_⟩
      have npx : p ≠ x := fun e => by
        rw [e, hx1] at hp1
        cases hp1
      refine ⟨_, rfl, _, rfl, x, _, dx, _, rfl, hx1, f_cls_Table T, f_noat_Table_feeds T, by decide, ?_⟩
      refine ⟨_, rfl, p, fs, rfl, HP.sqT_updI hx1 (st_of hp1), l1, by omega, fun t H3 e3 ht => ?_⟩
      have hx3 : H3 x = some (.ins (HP.gA "Table" K) dx (putF "feeds" (.ref p) [])) := e3 _ _ upd_same
      have hp3 : SqT K H3 p (fs.map V.int) := ex_t e3 (HP.sqT_updI hx1 (st_of hp1))
      refine ⟨_, rfl, x, _, dx, _, rfl, hx3, f_cls_Table T, f_noat_Table_places T, by show 1 < 1000; decide, ?_⟩
      refine q _ (Ex.mut (fun a o e => ?_) h0) ⟨⟨dx, p, t, by rw [upd_same, tab_put], HP.sqT_updI hx3 hp3, HP.sqT_updI hx3 ht⟩, l1, l2, l3⟩
      have nax : a ≠ x := fun z => by
        rw [z, h0] at e
        cases e
      exact e3 _ _ (by rw [upd_ne nax]; exact e1 _ _ (e0 _ _ e))
  · obtain ⟨x, dx, fs, H0, rfl, h0, hd, hne, rfl, l, q⟩ := h
    refine ⟨[.ref x], fs.map V.int, rfl, rfl, sz_of (by rw [List.length_map]; have := l.2.1; omega), fun p hp => ?_⟩
    have npx : p ≠ x := fun e => by
      rw [e, upd_same] at hp
      cases hp
    refine ⟨x, p, dx, fs, H0, rfl, by rw [upd_ne npx.symm, upd_same], upd_same, ?_, h0, l, q⟩
    exact ((Ex.new hd).trans (Ex.new (by rw [upd_ne hne.symm]; exact h0))).trans (Ex.new hp)
end
end HL
namespace HL
open PySem PySem.Spec PyProof.Rows L2 Evl SX
/-- where a ring's marks stand -/
def spotsI (z : List Nat) : List Int := ((List.range z.length).filter fun i => decide (z.getD i 0 = 49)).map fun (i : Nat) => (i : Int)
/-- from each mark to the next, around -/
def gapsI (z : List Nat) : List Int := List.zipWith (fun one later => later - one) (spotsI z) ((spotsI z).drop 1 ++ [(spotsI z).getD 0 0 + (z.length : Int)])
def callI (fs : List Int) (k : Int) : Int := k / (fs.length : Int) * fs.sum + (fs.take (k % (fs.length : Int)).toNat).sum
def rotI (fs : List Int) (k : Nat) : List Int := fs.drop k ++ fs.take k
theorem TabAt.ok {K : PySem.W.Frag} {H : Hp} {a : Addr} {fs : List Int} (t : TabAt K H a fs) : okF fs := t.2
section
variable {P : Program} {w : World} {K : PySem.W.Frag} {mg : Str → Option Value} {base : Heap}
theorem mk_tab {H : Hp} {p : Addr} {fs : List Int} {Q : VK} {E : XK} (hS : SqT K H p (fs.map V.int) ∨ SqL K H p (fs.map V.int)) (l : okF fs) (k : ∀ x H', Ex H H' → TabAt K H' x fs → Q (.ref x) H') :
    ∃ a xs, V.ref p = V.ref a ∧ (SqT K H a xs ∨ SqL K H a xs) ∧ ∀ x dx, H x = Option.none → H dx = Option.none → dx ≠ x → sp_Table_init K (V.ref x :: xs) (upd (upd H dx (.own x)) x (.ins (HP.gA "Table" K) dx [])) (fun v H2 => v = .non ∧ Q (.ref x) H2) E :=
  ⟨p, _, rfl, hS, fun x dx h1 h2 h3 => ⟨x, dx, fs, H, rfl, h1, h2, h3, rfl, l, fun H' e t => ⟨rfl, k x H' e t⟩⟩⟩
theorem mk_tabL {H : Hp} {fs : List Int} {Q : VK} {E : XK} (l : okF fs) (k : ∀ x H', Ex H H' → TabAt K H' x fs → Q (.ref x) H') :
    ∀ x dx, H x = Option.none → H dx = Option.none → dx ≠ x → sp_Table_init K (V.ref x :: fs.map V.int) (upd (upd H dx (.own x)) x (.ins (HP.gA "Table" K) dx [])) (fun v H2 => v = .non ∧ Q (.ref x) H2) E :=
  fun x dx h1 h2 h3 => ⟨x, dx, fs, H, rfl, h1, h2, h3, rfl, l, fun H' e t => ⟨rfl, k x H' e t⟩⟩
def newTab (K : PySem.W.Frag) (H : Hp) (fs : List Int) (Q : VK) : Prop := okF fs ∧ ∀ x H', Ex H H' → TabAt K H' x fs → Q (.ref x) H'
def sp_Table_add (K : PySem.W.Frag) : Sp := fun vs H Q _ => ∃ (a b : Addr) (fs gs : List Int), vs = [.ref a, .ref b] ∧ TabAt K H a fs ∧ TabAt K H b gs ∧ newTab K H (fs ++ gs) Q
theorem ok_Table_add (T : Tx K mg) : FnR P w K mg base (L2.CX P w) 5 (HP.mA "Table" "__add__" K) (sp_Table_add K) := mk_Table_add (k := 4) T
  (fun vs H Q E h => by obtain ⟨a, b, _, _, rfl, _⟩ := h; rfl) fun cdv A outer s H vs Q E hr h => by
  obtain ⟨a, b, fs, gs, rfl, ta, tb, l, q⟩ := h
  refine ⟨_, (pss_cons (ps_expr (HP.pe_callR (ok_need_table T) (hr.mono (by decide)) (kp_need_table T) (by rfl) (f_glo_need_table T) passL (pa_cons (pv 1) (pa_cons pe_str pa_nil))))
      (pss_cons (ps_set (i := 2) sc_Table_add.nd rfl (.inl rfl) (pe_op (HP.catT_K K) (HP.fld_K K (pv 0)) (HP.fld_K K (pv 1))))
      (pss_one (ps_ret (HP.pe_makeS (f_mkr_Table T) (ok_Table_init T) (hr.mono (by decide)) (by rfl) (f_glo_Table T) passL (pv 2)))))), ?_⟩
  obtain ⟨dx, p, t', h1, h2, h3⟩ := tab_feeds ta
  obtain ⟨dy, p', t'', g1, g2, g3⟩ := tab_feeds tb
  have := ta.ok.2.1
  have := tb.ok.2.1
  refine ⟨_, rfl, b, gs, _, rfl, tb, ?_⟩
  refine ⟨_, rfl, _, _, _, _, _, rfl, h1, f_cls_Table T, f_noat_Table_feeds T, rfl, _, rfl, _, _, _, _, _, rfl, g1, f_cls_Table T, f_noat_Table_feeds T, rfl, p, p', _, _, rfl, rfl, h2, g2, by rw [List.length_map, List.length_map]; omega, fun r H1 e1 hS => ?_⟩
  rw [← List.map_append] at hS
  exact ⟨_, rfl, mk_tab (.inl hS) l fun x H2 e2 t => q x H2 (e1.trans e2) t⟩
def sp_Table_mul (K : PySem.W.Frag) : Sp := fun vs H Q _ => ∃ (a : Addr) (fs : List Int) (n : Int), vs = [.ref a, .int n] ∧ TabAt K H a fs ∧ 1 ≤ n ∧ n * (fs.length : Int) ≤ 50 ∧ newTab K H (List.replicate n.toNat fs).flatten Q
theorem ok_Table_mul (T : Tx K mg) : FnR P w K mg base (L2.CX P w) 5 (HP.mA "Table" "__mul__" K) (sp_Table_mul K) := mk_Table_mul (k := 4) T
  (fun vs H Q E h => by obtain ⟨a, fs, n, rfl, _⟩ := h; rfl) fun cdv A outer s H vs Q E hr h => by
  obtain ⟨a, fs, n, rfl, ta, n1, n2, l, q⟩ := h
  refine ⟨_, (pss_cons (ps_if (pw_or (pt_not (pt_val (HP.pe_callR (ok_is_integer T) (hr.mono (by decide)) (kp_is_integer T) (by rfl) (f_glo_is_integer T) passL (pa_cons (pv 1) pa_nil)))) (pw_or1 (pt_cmpR op_lt (pv 1) pe_int (nomark _)))).pt (pss_one ps_never) pss_nil)
      (pss_cons (ps_if (pt_cmpR op_gt (pe_op op_mul (pv 1) (pe_callB (HP.len_K K) (by rfl) (f_free_len T) PySem.boot_len (pa_cons (HP.fld_K K (pv 0)) pa_nil))) (HP.pe_gint (by rfl) (f_int_MOST_FEEDS T)) (nomark _)) (pss_one ps_never) pss_nil)
      (pss_cons (ps_set (i := 2) sc_Table_mul.nd rfl (.inl rfl) (pe_op (HP.repT_K K) (HP.fld_K K (pv 0)) (pv 1)))
      (pss_one (ps_ret (HP.pe_makeS (f_mkr_Table T) (ok_Table_init T) (hr.mono (by decide)) (by rfl) (f_glo_Table T) passL (pv 2))))))), ?_⟩
  obtain ⟨dx, p, t', h1, h2, h3⟩ := tab_feeds ta
  have l1 := ta.ok.1
  have l2 := ta.ok.2.1
  have n3 : n ≤ 50 := by
    have : n * 1 ≤ n * (fs.length : Int) := Int.mul_le_mul_of_nonneg_left (by omega) (by omega)
    omega
  refine ⟨_, rfl, n, rfl, _, rfl, HP.ifF rfl ⟨_, rfl, _, _, rfl, rfl, _, rfl, HP.ifF (decide_eq_false (by omega)) ?_⟩⟩
  refine ⟨_, rfl, _, rfl, _, _, _, _, _, rfl, h1, f_cls_Table T, f_noat_Table_feeds T, rfl, p, _, rfl, HP.lenT h2, _, _, rfl, rfl, .inr ⟨by omega, by omega⟩, _, _, rfl, rfl, _, rfl, HP.ifF (decide_eq_false (by omega)) ?_⟩
  refine ⟨_, rfl, _, _, _, _, _, rfl, h1, f_cls_Table T, f_noat_Table_feeds T, rfl, _, rfl, p, n, _, rfl, rfl, h2, by rw [ne_eq, ← List.length_eq_zero_iff, List.length_map]; omega, n1, by omega, by rw [List.length_map]; omega, fun r H1 e1 hS => ?_⟩
  rw [HP.rep_mapI] at hS
  exact ⟨_, rfl, mk_tab (.inl hS) l fun x H2 e2 t => q x H2 (e1.trans e2) t⟩
theorem ok_least {fs : List Int} (l : okF fs) : okF (leastI fs) := by
  obtain ⟨j, _, j2, j3, _⟩ := leastN_spec l.1
  unfold leastI
  rw [j2]
  refine ⟨by rw [List.length_take]; omega, by rw [List.length_take]; have := l.2.1; omega, fun f hf => l.2.2 f (List.mem_of_mem_take hf)⟩
def sp_Table_lean (K : PySem.W.Frag) : Sp := fun vs H Q _ => ∃ (a : Addr) (fs : List Int), vs = [.ref a] ∧ TabAt K H a fs ∧ ∀ x H', Ex H H' → TabAt K H' x (leastI fs) → Q (.ref x) H'
theorem ok_Table_lean (T : Tx K mg) : FnR P w K mg base (L2.CX P w) 5 (HP.mA "Table" "lean" K) (sp_Table_lean K) := mk_Table_lean (k := 4) T
  (fun vs H Q E h => by obtain ⟨a, fs, rfl, _⟩ := h; rfl) fun cdv A outer s H vs Q E hr h => by
  obtain ⟨a, fs, rfl, ta, q⟩ := h
  refine ⟨_, (pss_cons (ps_set (i := 1) sc_Table_lean.nd rfl (.inl rfl) (HP.pe_callR (ok_least_part T) (hr.mono (by decide)) (kp_least_part T) (by rfl) (f_glo_least_part T) passL (pa_cons (HP.fld_K K (pv 0)) pa_nil)))
      (pss_one (ps_ret (HP.pe_makeS (f_mkr_Table T) (ok_Table_init T) (hr.mono (by decide)) (by rfl) (f_glo_Table T) passL (pv 1))))), ?_⟩
  obtain ⟨dx, p, t', h1, h2, h3⟩ := tab_feeds ta
  refine ⟨_, rfl, _, _, _, _, _, rfl, h1, f_cls_Table T, f_noat_Table_feeds T, rfl, p, fs, rfl, h2, ta.ok.1, by have := ta.ok.2.1; omega, fun r H1 e1 hS => ?_⟩
  exact ⟨_, rfl, mk_tab (.inl hS) (ok_least ta.ok) fun x H2 e2 t => q x H2 (e1.trans e2) t⟩
theorem ok_rot {fs : List Int} (l : okF fs) (k : Nat) : okF (rotI fs k) := by
  unfold rotI
  refine ⟨by rw [List.length_append, List.length_drop, List.length_take]; have := l.1; omega, by rw [List.length_append, List.length_drop, List.length_take]; have := l.2.1; omega, fun f hf => ?_⟩
  rcases List.mem_append.mp hf with h | h
  · exact l.2.2 f (List.mem_of_mem_drop h)
  · exact l.2.2 f (List.mem_of_mem_take h)
def sp_Table_turned (K : PySem.W.Frag) : Sp := fun vs H Q _ => ∃ (a : Addr) (fs : List Int) (n : Int), vs = [.ref a, .int n] ∧ TabAt K H a fs ∧ 0 ≤ n ∧ n ≤ 1000000000000000000000000000000 ∧ ∀ x H', Ex H H' → TabAt K H' x (rotI fs (n % (fs.length : Int)).toNat) → Q (.ref x) H'
theorem len_turned : ∀ vs H Q E, sp_Table_turned K vs H Q E → vs.length = 2 := fun vs H Q E h => by obtain ⟨a, fs, n, rfl, _⟩ := h; rfl
theorem body_Table_turned (T : Tx K mg) (cdv : Value) (A : Around) (outer : List Env) (s : Shared) (H : Hp) (vs : List V) (Q : VK) (E : XK) (hr : Room 4 (A.deeper (envOfC "Table.turned" (defScope s_Table_turned) s.heap.objs.size (HP.mA "Table" "turned" K) cdv))) (h : sp_Table_turned K vs H Q E) :
    ∃ t, PSs (cxOf (L2.CX P w) P w K mg base N_Table_turned "Table.turned" (defScope s_Table_turned) (HP.mA "Table" "turned" K) cdv A outer s H E) (defBody s_Table_turned) t ∧ t { nx := fun _ H' => Q .non H', rt := Q } (start N_Table_turned vs) H := by
  obtain ⟨a, fs, n, rfl, ta, n0, n1, q⟩ := h
  refine ⟨_, (pss_cons (ps_expr (HP.pe_callR (ok_need_count T) (hr.mono (by decide)) (kp_need_count T) (by rfl) (f_glo_need_count T) passL (pa_cons (pv 1) pa_nil)))
      (pss_cons (ps_set (i := 2) sc_Table_turned.nd rfl (.inl rfl) (pe_op op_mod (pv 1) (pe_callB (HP.len_K K) (by rfl) (f_free_len T) PySem.boot_len (pa_cons (HP.fld_K K (pv 0)) pa_nil))))
      (pss_cons (ps_set (i := 3) sc_Table_turned.nd rfl (.inl rfl) (pe_op (HP.catT_K K) (pe_slice (HP.slT_K K) (HP.fld_K K (pv 0)) (po_some (pv 2)) po_none) (pe_slice (HP.slT_K K) (HP.fld_K K (pv 0)) po_none (po_some (pv 2)))))
      (pss_one (ps_ret (HP.pe_makeS (f_mkr_Table T) (ok_Table_init T) (hr.mono (by decide)) (by rfl) (f_glo_Table T) passL (pv 3))))))), ?_⟩
  obtain ⟨dx, p, t', h1, h2, h3⟩ := tab_feeds ta
  have l1 := ta.ok.1
  have l2 := ta.ok.2.1
  refine ⟨_, rfl, n, rfl, n0, n1, ?_⟩
  refine ⟨_, rfl, _, rfl, _, _, _, _, _, rfl, h1, f_cls_Table T, f_noat_Table_feeds T, rfl, p, _, rfl, HP.lenT h2, n, _, rfl, rfl, (by show (0 : Int) < _; omega), ?_⟩
  have e : n % (fs.length : Int) = (((n % (fs.length : Int)).toNat : Nat) : Int) := by
    have := Int.emod_nonneg n (show (fs.length : Int) ≠ 0 by omega)
    omega
  refine ⟨_, rfl, _, _, _, _, _, rfl, h1, f_cls_Table T, f_noat_Table_feeds T, rfl, _, rfl, _, rfl, p, _, rfl, h2, fun r H1 e1 hS1 => ?_⟩
  refine ⟨_, rfl, _, _, _, _, _, rfl, e1 _ _ h1, f_cls_Table T, f_noat_Table_feeds T, rfl, _, rfl, _, rfl, p, _, rfl, ex_t e1 h2, fun r2 H2 e2 hS2 => ?_⟩
  rw [e, HP.cut_fromI] at hS1
  rw [e, HP.cut_toI] at hS2
  refine ⟨r, r2, _, _, rfl, rfl, ex_t e2 hS1, hS2, by rw [List.length_map, List.length_map, List.length_drop, List.length_take]; omega, fun r3 H3 e3 hS3 => ?_⟩
  rw [← List.map_append] at hS3
  exact ⟨_, rfl, mk_tab (.inl hS3) (ok_rot ta.ok _) fun x H4 e4 t => q x H4 (((e1.trans e2).trans e3).trans e4) t⟩
theorem ok_Table_turned (T : Tx K mg) : FnR P w K mg base (L2.CX P w) 5 (HP.mA "Table" "turned" K) (sp_Table_turned K) := mk_Table_turned T len_turned (body_Table_turned T)
theorem okK_Table_turned_n (T : Tx K mg) : HP.FnK P w K mg base (L2.CX P w) 5 (HP.mA "Table" "turned" K) ["n"] (fun vs zs H Q E => vs.length = 1 ∧ sp_Table_turned K (vs ++ zs) H Q E) := mkK_Table_turned_n T len_turned (body_Table_turned T)
end
end HL
namespace HL
open PySem PySem.Spec PyProof.Rows L2 Evl SX
theorem spots_fm (z : List Nat) : (List.range z.length).filterMap (fun i => if z.getD i 0 = 49 then some (V.int ((i : Nat) : Int)) else none) = (spotsI z).map V.int := by
  unfold spotsI
  generalize List.range z.length = l
  induction l with
  | nil => rfl
  | cons i l ih =>
    rw [List.filterMap_cons, List.filter_cons]
    by_cases c : z.getD i 0 = 49
    · rw [if_pos c, if_pos (decide_eq_true c)]
      simp only [List.map_cons]
      rw [ih]
    · rw [if_neg c, if_neg (by simpa using c)]
      exact ih
theorem gaps_len (z : List Nat) (h : spotsI z ≠ []) : (gapsI z).length = (spotsI z).length := by
  unfold gapsI
  have : 1 ≤ (spotsI z).length := by
    have := List.length_pos_iff.mpr h
    omega
  rw [List.length_zipWith, List.length_append, List.length_drop, List.length_singleton]
  omega
theorem spots_ne {z : List Nat} (h : marked z = true) : spotsI z ≠ [] := by
  unfold marked at h
  simp only [Bool.and_eq_true, decide_eq_true_eq] at h
  obtain ⟨i, hi, e⟩ := List.getElem_of_mem h.2.1
  intro hn
  unfold spotsI at hn
  rw [List.map_eq_nil_iff, List.filter_eq_nil_iff] at hn
  refine hn i (List.mem_range.mpr hi) ?_
  rw [List.getD_eq_getElem?_getD, List.getElem?_eq_getElem hi, e]
  rfl
section
variable {P : Program} {w : World} {K : PySem.W.Frag} {mg : Str → Option Value} {base : Heap}
def sp_Table_of_ring (K : PySem.W.Frag) : Sp := fun vs H Q _ => ∃ z : List Nat, vs = [.str (S z)] ∧ marked z = true ∧ okF (gapsI z) ∧ ∀ x H', Ex H H' → TabAt K H' x (gapsI z) → Q (.ref x) H'
theorem len_of_ring : ∀ vs H Q E, sp_Table_of_ring K vs H Q E → vs.length = 1 := fun vs H Q E h => by obtain ⟨z, rfl, _⟩ := h; rfl
theorem body_of_ring (T : Tx K mg) (cdv : Value) (A : Around) (outer : List Env) (s : Shared) (H : Hp) (vs : List V) (Q : VK) (E : XK) (hr : Room 4 (A.deeper (envOfC "Table.of_ring" (defScope s_Table_of_ring) s.heap.objs.size (HP.rA "Table" "of_ring" "staticmethod" K) cdv))) (h : sp_Table_of_ring K vs H Q E) :
    ∃ t, PSs (cxOf (L2.CX P w) P w K mg base N_Table_of_ring "Table.of_ring" (defScope s_Table_of_ring) (HP.rA "Table" "of_ring" "staticmethod" K) cdv A outer s H E) (defBody s_Table_of_ring) t ∧ t { nx := fun _ H' => Q .non H', rt := Q } (start N_Table_of_ring vs) H := by
  obtain ⟨z, rfl, hm, hok, q⟩ := h
  have hz : z.length ≤ 2000 := by
    unfold marked at hm
    simp only [Bool.and_eq_true, decide_eq_true_eq] at hm
    exact hm.1.2
  have hne := spots_ne hm
  have hgl := gaps_len z hne
  have hl50 := hok.2.1
  refine ⟨_, (pss_cons (ps_if (pt_not (pt_val (HP.pe_callR (ok_is_marked T) (hr.mono (by decide)) (kp_is_marked T) (by rfl) (f_glo_is_marked T) passL (pa_cons (pv 0) pa_nil)))) (pss_one ps_never) pss_nil)
      (pss_cons (ps_setLc (i := 1) (own := [("at", 3), ("sign", 4)])  rfl sc_Table_of_ring.nd rfl rfl (sw_true rfl rfl rfl (by decide +kernel)) (HP.pi_enumS (by rfl) (f_free_enumerate T) (pa_cons (pv 0) pa_nil)) (blkOk_by (N := N_Table_of_ring) (sc := defScope s_Table_of_ring) (by decide +kernel)) (fun _ _ _ _ _ => (HP.tgt_K K (n := 2) rfl (pgs_cons (pg_name (i := 3) sc_Table_of_ring.nd rfl (.inl rfl)) (pgs_cons (pg_name (i := 4) sc_Table_of_ring.nd rfl (.inl rfl)) pgs_nil)))) (fun _ _ _ _ _ => pts_one (pt_cmpR op_eq (pv 4) pe_str (nomark _))) (fun _ _ _ _ _ => (pv 3)))
      (pss_cons (ps_setLc (i := 2) (own := [("one", 5), ("later", 6)]) (tt := tYes) rfl sc_Table_of_ring.nd rfl rfl (sw_true rfl rfl rfl (by decide +kernel)) (RZ.pi_zipA (by rfl) (f_free_zip T) (pa_cons (pv 1) (pa_cons (pe_lst (StX.pa_star (pe_slice (HP.slL_K K) (pv 1) (po_some pe_int) po_none) (pa_cons (pe_op op_add (pe_ix (HP.ixL_K K) (pv 1) pe_int (fun _ _ => rfl)) (pe_callB call_len_str (by rfl) (f_free_len T) PySem.boot_len (pa_cons (pv 0) pa_nil))) pa_nil))) pa_nil))) (blkOk_by (N := N_Table_of_ring) (sc := defScope s_Table_of_ring) (by decide +kernel)) (fun _ _ _ _ _ => (HP.tgt_K K (n := 2) rfl (pgs_cons (pg_name (i := 5) sc_Table_of_ring.nd rfl (.inl rfl)) (pgs_cons (pg_name (i := 6) sc_Table_of_ring.nd rfl (.inl rfl)) pgs_nil)))) (fun _ _ _ _ _ => pts_nil) (fun _ _ _ _ _ => (pe_op op_sub (pv 6) (pv 5))))
      (pss_one (ps_ret (HP.pe_makeS (f_mkr_Table T) (ok_Table_init T) (hr.mono (by decide)) (by rfl) (f_glo_Table T) passL (pv 2))))))), ?_⟩
  refine ⟨_, rfl, z, rfl, by omega, fun H1 e1 => ⟨_, rfl, HP.ifF (by rw [hm]; rfl) ?_⟩⟩
  dsimp only [tNext]
  refine HP.lc_seq ⟨_, rfl, S z, rfl, HP.lcP HP.walk_enumS (fun i => if z.getD i 0 = 49 then some (V.int ((i : Nat) : Int)) else none) (by simp; omega) (fun _ _ => trivial) (fun i x H2 H3 ky k0 hi e y k1 k2 => ?_) fun D H2 hD e h => ?_⟩
  · obtain ⟨T', u, v, rfl, hT, rfl, hu, hv⟩ := y
    obtain rfl : V.int (i : Nat) = u := Option.some.inj hu
    obtain rfl : HP.atS (S z) i = v := Option.some.inj hv
    refine ⟨T', _, rfl, st_of upd_same, rfl, _, _, rfl, _, _, rfl, rfl, rfl, ?_⟩
    refine ⟨_, rfl, rfl, _, rfl, ?_⟩
    have ez : (S z).cps.getD i 0 = z.getD i 0 := by simp
    by_cases c : z.getD i 0 = 49
    · rw [if_pos c] at k1
      refine HP.ifT (decide_eq_true ?_) ⟨_, rfl, k1 _ _ rfl (Ex.new hT)⟩
      show V.str ⟨#[(S z).cps.getD i 0]⟩ = V.str (S [49])
      rw [ez, c]
    · rw [if_neg c] at k2
      refine HP.ifF (decide_eq_false fun h => c ?_) (k2 _ rfl (Ex.new hT))
      have h' : V.str ⟨#[(S z).cps.getD i 0]⟩ = V.str (S [49]) := h
      rw [ez] at h'
      have := S_inj (V.str.inj h' : S [z.getD i 0] = S [49])
      simpa using this
  · have ec : (S z).cps.size = z.length := by simp
    rw [ec, spots_fm] at h
    obtain ⟨s0, hs0⟩ : ∃ s0, (spotsI z)[0]? = some s0 := by
      cases e : spotsI z with
      | nil => exact absurd e hne
      | cons a l => exact ⟨a, rfl⟩
    have hs0' : (spotsI z).getD 0 0 = s0 := by rw [List.getD_eq_getElem?_getD, hs0]; rfl
    refine HP.lc_seq ⟨_, rfl, _, rfl, _, rfl, D, _, rfl, sq_of h, fun r H3 hr3 e3 h3 => ?_⟩
    have e13 : Ex H1 H3 := e.trans e3
    have h3' : H3 r = some (.lst (((spotsI z).drop 1).map V.int)) := by
      rw [← HP.cut_fromI]
      exact h3
    refine ⟨r, _, rfl, .inr (sq_of h3'), _, rfl, D, _, 0, _, rfl, rfl, sq_of (e3 _ _ h), HP.at_int hs0, _, rfl, S z, rfl, sz_of (by rw [S_len]; omega), _, _, rfl, rfl, ?_⟩
    refine ⟨?_, fun l hl => ?_⟩
    · rw [List.length_append, List.length_map, List.length_drop]
      exact sz_of (by simp; omega)
    have hD4 : SqL K (upd H3 l (.lst (((spotsI z).drop 1).map V.int ++ [V.int (s0 + (z.length : Int))]))) D ((spotsI z).map V.int) := ex_l (Ex.new hl) (sq_of (e3 _ _ h))
    have hl4 : SqL K (upd H3 l (.lst (((spotsI z).drop 1).map V.int ++ [V.int (s0 + (z.length : Int))]))) l (((spotsI z).drop 1 ++ [s0 + (z.length : Int)]).map V.int) := sq_of (by rw [upd_same, List.map_append]; rfl)
    have e14 := e13.trans (Ex.new (o := .lst (((spotsI z).drop 1).map V.int ++ [V.int (s0 + (z.length : Int))])) hl)
    have lens1 : ((spotsI z).drop 1 ++ [s0 + (z.length : Int)]).length = (spotsI z).length := by
      have := List.length_pos_iff.mpr hne
      rw [List.length_append, List.length_drop, List.length_singleton]
      omega
    refine ⟨D, l, _, _, rfl, .inl ⟨hD4, hl4, HP.lcPY (walk_zip (n := (spotsI z).length) (by rw [List.length_map, List.length_map, lens1, Nat.min_self])) (fun i => V.int ((gapsI z).getD i 0)) (by omega) (fun H e => ⟨ex_l e hD4, ex_l e hl4⟩) (fun i x H2 H3 ky hi e y k1 => ?_) fun D2 H5 hD2 e5 h5 => ?_⟩⟩
    · obtain ⟨T', u, v, rfl, hT, rfl, hu, hv⟩ := y
      obtain ⟨a, ha, rfl, _⟩ := HP.get_map_int hu
      obtain ⟨b, hb, rfl, _⟩ := HP.get_map_int hv
      have eg : (gapsI z).getD i 0 = b - a := by
        unfold gapsI
        rw [hs0', List.getD_eq_getElem?_getD, List.getElem?_zipWith, ha, hb]
        rfl
      rw [eg] at k1
      exact ⟨T', _, rfl, st_of upd_same, rfl, _, _, rfl, _, _, rfl, rfl, rfl, _, rfl, _, rfl, _, _, rfl, rfl, k1 _ (Ex.new hT)⟩
    · rw [← hgl, HP.rg_map (gapsI z) V.int _ fun i x hx => by rw [List.getD_eq_getElem?_getD, hx]; rfl] at h5
      exact ⟨_, rfl, mk_tab (.inr (sq_of h5)) hok fun x H6 e6 t => q x H6 (e1.trans ((e14.trans e5).trans e6)) t⟩
theorem ok_Table_of_ring (T : Tx K mg) : FnR P w K mg base (L2.CX P w) 5 (HP.rA "Table" "of_ring" "staticmethod" K) (sp_Table_of_ring K) := mk_Table_of_ring T len_of_ring (body_of_ring T)
theorem okK_Table_of_ring_ring (T : Tx K mg) : HP.FnK P w K mg base (L2.CX P w) 5 (HP.rA "Table" "of_ring" "staticmethod" K) ["ring"] (fun vs zs H Q E => vs.length = 0 ∧ sp_Table_of_ring K (vs ++ zs) H Q E) := mkK_Table_of_ring_ring T len_of_ring (body_of_ring T)
def sp_Table_call (K : PySem.W.Frag) : Sp := fun vs H Q _ => ∃ (a : Addr) (fs : List Int) (k : Int), vs = [.ref a, .int k] ∧ TabAt K H a fs ∧ 0 ≤ k ∧ k ≤ 1000000000000000000000000000000 ∧ ∀ H', Ex H H' → Q (.int (callI fs k)) H'
theorem ok_Table_call (T : Tx K mg) : FnR P w K mg base (L2.CX P w) 4 (HP.mA "Table" "__call__" K) (sp_Table_call K) := mk_Table_call (k := 3) T
  (fun vs H Q E h => by obtain ⟨a, fs, n, rfl, _⟩ := h; rfl) fun cdv A outer s H vs Q E hr h => by
  obtain ⟨a, fs, k, rfl, ta, k0, k1, q⟩ := h
  refine ⟨_, (pss_cons (ps_expr (HP.pe_callR (ok_need_count T) (hr.mono (by decide)) (kp_need_count T) (by rfl) (f_glo_need_count T) passL (pa_cons (pv 1) pa_nil)))
      (pss_cons (ps_asg (pe_callB call_divmodW (by rfl) (f_free_divmod T) (by decide +kernel) (pa_cons (pv 1) (pa_cons (pe_callB (HP.len_K K) (by rfl) (f_free_len T) PySem.boot_len (pa_cons (HP.fld_K K (pv 0)) pa_nil)) pa_nil))) (HP.tgt_K K (n := 2) rfl (pgs_cons (pg_name (i := 2) sc_Table_call.nd rfl (.inl rfl)) (pgs_cons (pg_name (i := 3) sc_Table_call.nd rfl (.inl rfl)) pgs_nil))))
      (pss_one (ps_ret (pe_op op_add (pe_op op_mul (pv 2) (HP.pe_propR (pv 0) (f_cls_Table T) (f_prop_Table_turn T) (ok_Table_turn T) (hr.mono (by decide)) passL)) (pe_ix (HP.ixT_K K) (HP.fld_K K (pv 0)) (pv 3) (fun _ _ => rfl))))))), ?_⟩
  obtain ⟨dx, p, t', h1, h2, h3⟩ := tab_feeds ta
  have l1 := ta.ok.1
  have l2 := ta.ok.2.1
  have sp := sum_pos l1 ta.ok.2.2
  have bits : Builtin.Int.intBits k ≤ Builtin.Int.intBits (fs.length : Int) + 4000 := by
    have : Builtin.Int.intBits k ≤ 4000 := PySem.intBits_le_iff.mpr (Nat.lt_of_le_of_lt (show k.natAbs ≤ 1000000000000000000000000000000 by omega) (by decide +kernel))
    omega
  refine ⟨_, rfl, k, rfl, k0, k1, ?_⟩
  refine ⟨_, rfl, _, rfl, _, _, _, _, _, rfl, h1, f_cls_Table T, f_noat_Table_feeds T, rfl, p, _, rfl, HP.lenT h2, k, _, rfl, divp_ok (by omega) bits, fun r hr' => ?_⟩
  have e1 : Ex H (upd H r (.tup [.int (k / (fs.length : Int)), .int (k % (fs.length : Int))])) := Ex.new hr'
  have hm0 := Int.emod_nonneg k (show (fs.length : Int) ≠ 0 by omega)
  have hm1 := Int.emod_lt_of_pos k (show (0 : Int) < (fs.length : Int) by omega)
  have hat : atI ((placesI fs).map V.int) (k % (fs.length : Int)) = some (V.int (fs.take (k % (fs.length : Int)).toNat).sum) := by
    have z := HP.at_int (placesI_get (fs := fs) (k := (k % (fs.length : Int)).toNat) (by omega))
    rw [Int.toNat_of_nonneg hm0] at z
    exact z
  refine ⟨r, _, rfl, st_of upd_same, rfl, _, _, rfl, _, _, rfl, rfl, ?_⟩
  exact ⟨_, rfl, _, rfl, a, _, _, rfl, e1 _ _ h1, a, fs, rfl, ta.ex e1, _, _, rfl, rfl, .inr ⟨by omega, by omega⟩, _, rfl, _, _, _, _, _, rfl, e1 _ _ h1, f_cls_Table T, f_noat_Table_places T, rfl, _, rfl, t', _, _, _, rfl, rfl, ex_t e1 h3, hat, _, _, rfl, rfl, q _ e1⟩
def sp_Table_eq (K : PySem.W.Frag) : Sp := fun vs H Q _ => ∃ (a b : Addr) (fs gs : List Int), vs = [.ref a, .ref b] ∧ TabAt K H a fs ∧ TabAt K H b gs ∧ Q (.bl (decide (fs = gs))) H
theorem ok_Table_eq (T : Tx K mg) : FnR P w K mg base (L2.CX P w) 1 (HP.mA "Table" "__eq__" K) (sp_Table_eq K) := mk_Table_eq T
  (fun vs H Q E h => by obtain ⟨a, b, _, _, rfl, _⟩ := h; rfl) fun cdv A outer s H vs Q E hr h => by
  obtain ⟨a, b, fs, gs, rfl, ta, tb, q⟩ := h
  obtain ⟨dx, p, t', h1, h2, h3⟩ := tab_feeds ta
  obtain ⟨dy, p', t'', g1, g2, g3⟩ := tab_feeds tb
  refine ⟨_, (pss_one (ps_ret (pe_and (pe_callB (HP.isi_K K) (by rfl) (f_free_isinstance T) (by decide +kernel) (pa_cons (pv 1) (pa_cons (pe_glob (v := V.ref (HP.gA "Table" K)) (by rfl) (f_glo_Table T) rfl) pa_nil))) (pe_one (pe_cmpR (HP.eqI_K K hr.units) (HP.fld_K K (pv 0)) (HP.fld_K K (pv 1)) (nomark _)))))), ?_⟩
  exact ⟨_, rfl, _, _, _, _, true, rfl, .own _, f_ins_Table T g1, HP.kit_self (by simp), _, rfl, HP.ifT rfl ⟨_, rfl, _, _, _, _, _, rfl, h1, f_cls_Table T, f_noat_Table_feeds T, rfl, _, rfl, _, _, _, _, _, rfl, g1, f_cls_Table T, f_noat_Table_feeds T, rfl, p, p', fs, gs, rfl, rfl, .inl ⟨h2, g2⟩, q⟩⟩
def sp_Table_str (K : PySem.W.Frag) : Sp := fun vs H Q _ => ∃ (a : Addr) (fs : List Int), vs = [.ref a] ∧ TabAt K H a fs ∧ (wordsI fs).length ≠ 0 ∧ ∀ H', Ex H H' → Q (.str (wordsI fs)) H'
theorem ok_Table_str (T : Tx K mg) : FnR P w K mg base (L2.CX P w) 2 (HP.mA "Table" "__str__" K) (sp_Table_str K) := mk_Table_str (k := 1) T
  (fun vs H Q E h => by obtain ⟨a, fs, rfl, _⟩ := h; rfl) fun cdv A outer s H vs Q E hr h => by
  obtain ⟨a, fs, rfl, ta, hw, q⟩ := h
  obtain ⟨dx, p, t', h1, h2, h3⟩ := tab_feeds ta
  refine ⟨_, (pss_one (ps_ret (pe_callTy SkE.call_str_str (by rfl) (f_free_str T) (by decide +kernel) (pa_cons (HP.pe_callR (ok_written T) (hr.mono (by decide)) (kp_written T) (by rfl) (f_glo_written T) passL (pa_cons (HP.fld_K K (pv 0)) pa_nil)) pa_nil)))), ?_⟩
  exact ⟨_, rfl, _, _, _, _, _, rfl, h1, f_cls_Table T, f_noat_Table_feeds T, rfl, p, fs, rfl, h2, by have := ta.ok.2.1; omega, fun n hn => by
    have := ta.ok.2.2 n hn
    have e : n.natAbs < 2 ^ 1920 := Nat.lt_of_le_of_lt (show n.natAbs ≤ 100 by omega) (by decide +kernel)
    exact PySem.Flt.log2_lt_of (by decide) e, hw, fun H' e => ⟨_, rfl, q H' e⟩⟩
end
end HL
namespace HL
open PySem PySem.Spec PyProof.Rows L2 Evl SX
/-- the pen at p, at most k laps done -/
def PenAt (H : Hp) (p c : Addr) (k : Nat) : Prop := ∃ (cs : List Int) (lap left : Int), H p = some (.lst [.ref c, .int lap, .int left]) ∧ c ≠ p ∧ H c = some (.lst (cs.map V.int)) ∧ cs.length ≤ 63 ∧ 0 ≤ lap ∧ lap ≤ (k : Int) ∧ 0 ≤ left
theorem PenAt.ex {H H' : Hp} {p c : Addr} {k : Nat} (h : PenAt H p c k) (e : Ex H H') : PenAt H' p c k := by
  obtain ⟨cs, lap, left, h1, h2, h3, h4⟩ := h
  exact ⟨cs, lap, left, e _ _ h1, h2, e _ _ h3, h4⟩
theorem PenAt.mono {H : Hp} {p c : Addr} {k k' : Nat} (h : PenAt H p c k) (l : k ≤ k') : PenAt H p c k' := by
  obtain ⟨cs, lap, left, h1, h2, h3, h4, h5, h6, h7⟩ := h
  exact ⟨cs, lap, left, h1, h2, h3, h4, h5, by omega, h7⟩
theorem PenAt.fresh {H H1 : Hp} {p c D : Addr} {k k1 : Nat} {o : HO} (h : PenAt H p c k) (h1 : PenAt H1 p c k1) (hD : H1 D = none) : PenAt (upd H D o) p c k := by
  obtain ⟨cs, lap, left, g1, g2, g3, g4⟩ := h
  obtain ⟨cs', lap', left', f1, f2, f3, f4⟩ := h1
  exact ⟨cs, lap, left, by rw [upd_ne (ne_of_none f1 hD)]; exact g1, g2, by rw [upd_ne (ne_of_none f3 hD)]; exact g3, g4⟩
theorem PenAt.some {H : Hp} {p c : Addr} {k : Nat} (h : PenAt H p c k) : ∃ o, H p = some o := by
  obtain ⟨cs, lap, left, g1, _⟩ := h
  exact ⟨_, g1⟩
/-- what stays beside the pen -/
theorem penN {H : Hp} {p c a : Addr} {k : Nat} {o : HO} (h : PenAt H p c k) (ha : H a = Option.some o) (hn : ∀ c x y, o ≠ .lst [.ref c, .int x, .int y]) : a ≠ p := fun e => by
  obtain ⟨cs, lap, left, h1, _⟩ := h
  rw [e, h1] at ha
  exact hn _ _ _ (Option.some.inj ha).symm
theorem exb_fresh {H H1 : Hp} {p D : Addr} {o : HO} (e : HP.ExB p H1 H) (hD : H1 D = none) : HP.ExB p H1 (upd H D o) := fun a u n h => by
  rw [upd_ne (ne_of_none h hD)]
  exact e a u n h
section
variable {P : Program} {w : World} {K : PySem.W.Frag} {mg : Str → Option Value} {base : Heap}
def sp_law_pen (K : PySem.W.Frag) : Sp := fun vs H Q _ => ∃ (a : Addr) (ns : List Int), vs = [.ref a] ∧ SqL K H a (ns.map V.int) ∧ ∀ p c H', H p = none → Ex H H' → PenAt H' p c 0 → Q (.ref p) H'
theorem ok__law_pen (T : Tx K mg) : FnR P w K mg base (L2.CX P w) 1 (HP.gA "_law_pen" K) (sp_law_pen K) := mk__law_pen T
  (fun vs H Q E h => by obtain ⟨a, _, rfl, _⟩ := h; rfl) fun cdv A outer s H vs Q E hr h => by
  obtain ⟨a, ns, rfl, hS, q⟩ := h
  refine ⟨_, (pss_one (ps_ret (pe_lst (pa_cons (pe_callTy (HP.lstOf_K K) (by rfl) (f_free_list T) (by decide +kernel) (pa_cons (pe_slice (HP.slL_K K) (pv 0) po_none (po_some pe_int)) pa_nil)) (pa_cons pe_int (pa_cons pe_int pa_nil)))))), ?_⟩
  refine ⟨_, rfl, _, rfl, a, _, rfl, hS, fun r H1 hr1 e1 h1 => ⟨r, _, rfl, .inl (sq_of h1), fun c H2 hc e2 h2 => ⟨by show 3 ≤ sizeLine; decide, fun p hp => ?_⟩⟩⟩
  have e3 : Ex H2 (upd H2 p (.lst [.ref c, .int 0, .int 0])) := Ex.new hp
  have hcp : c ≠ p := fun e => by
    rw [e, hp] at h2
    cases h2
  refine q p c _ (fresh_back (e1.trans e2) hp) ((e1.trans e2).trans e3) ⟨ns.take 63, 0, 0, upd_same, hcp, ?_, by rw [List.length_take]; omega, by decide, by decide, by decide⟩
  rw [upd_ne hcp, h2]
  congr 2
  exact HP.cut_toI 63
def sp_law_draw : Sp := fun vs H Q _ => ∃ (p c : Addr) (many : Int) (k : Nat), vs = [.ref p, .int many] ∧ 0 < many ∧ many.natAbs < 2 ^ 200 ∧ PenAt H p c k ∧ k ≤ 1000000 ∧ ∀ d H', 0 ≤ d → d < many → HP.ExB p H H' → PenAt H' p c (k + 1) → Q (.int d) H'
theorem ok__law_draw (T : Tx K mg) : FnR P w K mg base (L2.CX P w) 1 (HP.gA "_law_draw" K) sp_law_draw := mk__law_draw T
  (fun vs H Q E h => by obtain ⟨p, c, many, k, rfl, _⟩ := h; rfl) fun cdv A outer s H vs Q E hr h => by
  obtain ⟨p, c, many, k, rfl, m0, m1, ⟨cs, lap, left, h1, h2, h3, h4, h5, h6, h7⟩, hk, q⟩ := h
  have hmod : ∀ x : Int, 0 ≤ x % many ∧ x % many < many := fun x => ⟨Int.emod_nonneg x (by omega), Int.emod_lt_of_pos x m0⟩
  have wd : ∀ x : Int, CDivW x many := fun x => wide_div m0 m1 (by decide) (by decide)
  have wd32 : ∀ x : Int, CDivW x 32 := fun x => wide_div (b := 200) (by decide) (by decide +kernel) (by decide) (by decide)
  refine ⟨_, (pss_cons (ps_if (pt_cmpR op_gt (pe_ix (HP.ixL_K K) (pv 0) pe_int (fun _ _ => rfl)) pe_int (nomark _)) (pss_cons (ps_set (i := 2) sc__law_draw.nd rfl (.inl rfl) (pe_op op_mod (pe_callTy call_int1 (by rfl) (f_free_int T) (by decide +kernel) (pa_cons (pe_ix (HP.ixL_K K) (pv 0) pe_int (fun _ _ => rfl)) pa_nil)) (pv 1)))
      (pss_cons (ps_asg (pe_op op_fdivW (pe_callTy call_int1 (by rfl) (f_free_int T) (by decide +kernel) (pa_cons (pe_ix (HP.ixL_K K) (pv 0) pe_int (fun _ _ => rfl)) pa_nil)) (pv 1)) (pg_sub (pv 0) pe_int set_list))
      (pss_one (ps_ret (pv 2))))) pss_nil)
      (pss_cons (ps_set (i := 3) sc__law_draw.nd rfl (.inl rfl) (pe_ix (HP.ixL_K K) (pv 0) pe_int (fun _ _ => rfl)))
      (pss_cons (ps_asg (pe_op op_add (pv 3) pe_int) (pg_sub (pv 0) pe_int set_list))
      (pss_cons (ps_set (i := 4) sc__law_draw.nd rfl (.inl rfl) (pe_op op_add (pe_op op_mul pe_int (pv 3)) pe_int))
      (Evl.pss_cut (ps_if (pt_cmpR (HP.neI_K K hr.units) (pe_ix (HP.ixL_K K) (pv 0) pe_int (fun _ _ => rfl)) (pe_lst pa_nil) (nomark _)) (pss_one (ps_set (i := 4) sc__law_draw.nd rfl (.inl rfl) (pe_ix (HP.ixL_K K) (pe_ix (HP.ixL_K K) (pv 0) pe_int (fun _ _ => rfl)) (pe_op op_mod (pe_callTy call_int1 (by rfl) (f_free_int T) (by decide +kernel) (pa_cons (pv 3) pa_nil)) (pe_callB (HP.len_K K) (by rfl) (f_free_len T) PySem.boot_len (pa_cons (pe_ix (HP.ixL_K K) (pv 0) pe_int (fun _ _ => rfl)) pa_nil))) (fun _ _ => rfl)))) pss_nil)
      (Evl.pss_cut (ps_if (pw_and (pt_cmpR op_lt (pv 3) (pe_callB (HP.len_K K) (by rfl) (f_free_len T) PySem.boot_len (pa_cons (pe_ix (HP.ixL_K K) (pv 0) pe_int (fun _ _ => rfl)) pa_nil)) (nomark _)) (pw_and1 (pt_cmpR op_ge (pe_callB call_abs (by rfl) (f_free_abs T) (by decide +kernel) (pa_cons (pv 4) pa_nil)) (pe_op op_pow pe_int pe_int) (nomark _)))).pt (pss_cons (ps_set (i := 5) sc__law_draw.nd rfl (.inl rfl) (pe_op op_add (pe_op op_mul pe_int (pe_op op_sub (pe_callB call_abs (by rfl) (f_free_abs T) (by decide +kernel) (pa_cons (pv 4) pa_nil)) (pe_op op_pow pe_int pe_int))) (pe_callTy call_int1 (by rfl) (f_free_int T) (by decide +kernel) (pa_cons (pe_cmpR op_lt (pv 4) pe_int (nomark _)) pa_nil))))
      (pss_cons (ps_asg (pe_op op_fdivW (pe_callTy call_int1 (by rfl) (f_free_int T) (by decide +kernel) (pa_cons (pv 5) pa_nil)) (pv 1)) (pg_sub (pv 0) pe_int set_list))
      (pss_one (ps_ret (pe_op op_mod (pe_callTy call_int1 (by rfl) (f_free_int T) (by decide +kernel) (pa_cons (pv 5) pa_nil)) (pv 1)))))) pss_nil)
      (pss_cons (ps_set (i := 6) sc__law_draw.nd rfl (.inl rfl) (pe_op op_mod (pe_callTy call_int1 (by rfl) (f_free_int T) (by decide +kernel) (pa_cons (pe_op op_pow (pe_op op_add (pe_op op_add (pe_op op_mod (pe_callTy call_int1 (by rfl) (f_free_int T) (by decide +kernel) (pa_cons (pv 4) pa_nil)) pe_int) (pe_op op_mul pe_int (pv 3))) pe_int) pe_int) pa_nil)) pe_int))
      (pss_cons (ps_set (i := 6) sc__law_draw.nd rfl (.inl rfl) (pe_op op_mod (pe_callTy call_int1 (by rfl) (f_free_int T) (by decide +kernel) (pa_cons (pe_op op_pow (pe_op op_add (pe_op op_add (pe_op op_mul (pv 6) (pe_op op_add (pe_op op_mul pe_int (pv 3)) pe_int)) (pe_op op_mul (pe_op op_mul pe_int (pv 3)) (pv 3))) pe_int) pe_int) pa_nil)) pe_int))
      (pss_one (ps_ret (pe_op op_mod (pe_callTy call_int1 (by rfl) (f_free_int T) (by decide +kernel) (pa_cons (pe_op op_fdivW (pv 6) pe_int) pa_nil)) (pv 1)))))))))))), ?_⟩
  refine ⟨_, rfl, p, _, 2, _, rfl, rfl, sq_of h1, rfl, _, _, rfl, rfl, _, rfl, ?_⟩
  by_cases c1 : (0 : Int) < left
  · refine HP.ifT (decide_eq_true c1) ?_
    refine ⟨_, rfl, p, _, 2, _, rfl, rfl, sq_of h1, rfl, .inl ⟨_, rfl, _, rfl, _, _, rfl, rfl, m0, ?_⟩⟩
    refine ⟨_, rfl, p, _, 2, _, rfl, rfl, sq_of h1, rfl, .inl ⟨_, rfl, _, rfl, _, _, rfl, rfl, wd _, _, rfl, p, _, 2, 2, rfl, rfl, h1, rfl, ?_⟩⟩
    refine ⟨_, rfl, q _ _ (hmod _).1 (hmod _).2 (HP.ExB.upd (HP.ExB.refl _ _)) ⟨cs, lap, left / many, upd_same, h2, by rw [upd_ne h2]; exact h3, h4, h5, by omega, Int.ediv_nonneg h7 (by omega)⟩⟩
  · refine HP.ifF (decide_eq_false c1) ?_
    dsimp only [tNext]
    refine ⟨_, rfl, p, _, 1, _, rfl, rfl, sq_of h1, rfl, ?_⟩
    refine ⟨_, rfl, _, _, rfl, rfl, _, rfl, p, _, 1, 1, rfl, rfl, h1, rfl, ?_⟩
    have g1 : upd H p (.lst [.ref c, .int (lap + 1), .int left]) p = some (.lst [.ref c, .int (lap + 1), .int left]) := upd_same
    have g3 : upd H p (.lst [.ref c, .int (lap + 1), .int left]) c = some (.lst (cs.map V.int)) := by rw [upd_ne h2]; exact h3
    have b1 : HP.ExB p H (upd H p (.lst [.ref c, .int (lap + 1), .int left])) := HP.ExB.upd (HP.ExB.refl _ _)
    revert g1 g3 b1
    generalize eH : upd H p (.lst [.ref c, .int (lap + 1), .int left]) = H1
    intro g1 g3 b1
    have eH' : upd H p (HO.lst (List.set [V.ref c, V.int lap, V.int left] 1 (V.int (lap + 1)))) = H1 := eH
    rw [eH']
    refine ⟨_, rfl, _, _, rfl, rfl, .inr ⟨by omega, by omega⟩, _, _, rfl, rfl, ?_⟩
    refine ⟨fun σ' H' => Ex H1 H' ∧ ∃ cell : Int, σ' = [some (.ref p), some (.int many), none, some (.int lap), some (.int cell), none, none], ?_, ?_⟩
    · refine ⟨_, rfl, p, _, 0, _, rfl, rfl, sq_of g1, rfl, Nat.zero_le _, fun l hl => ⟨c, l, cs, [], rfl, rfl, .inr ⟨ex_l (Ex.new hl) (sq_of g3), sq_of upd_same⟩, _, rfl, ?_⟩⟩
      have e1 : Ex H1 (upd H1 l (.lst [])) := Ex.new hl
      by_cases c2 : cs = []
      · refine HP.ifF (by simp [c2]) ⟨e1, _, rfl⟩
      · have hlen : 0 < cs.length := List.length_pos_iff.mpr c2
        have hm0 := Int.emod_nonneg lap (show (cs.length : Int) ≠ 0 by omega)
        have hm1 := Int.emod_lt_of_pos lap (show (0 : Int) < (cs.length : Int) by omega)
        obtain ⟨v, hv⟩ : ∃ v, cs[(lap % (cs.length : Int)).toNat]? = some v := ⟨_, List.getElem?_eq_getElem (by omega)⟩
        have hat : atI (cs.map V.int) (lap % (cs.length : Int)) = some (V.int v) := by
          have z := HP.at_int hv
          rw [Int.toNat_of_nonneg hm0] at z
          exact z
        refine HP.ifT (by simp [c2]) ?_
        refine ⟨_, rfl, p, _, 0, _, rfl, rfl, sq_of (e1 _ _ g1), rfl, _, rfl, .inl ⟨_, rfl, _, rfl, p, _, 0, _, rfl, rfl, sq_of (e1 _ _ g1), rfl, c, _, rfl, HP.lenL (sq_of (e1 _ _ g3)), _, _, rfl, rfl, (by show (0 : Int) < _; omega), c, _, _, _, rfl, rfl, sq_of (e1 _ _ g3), hat, e1, _, rfl⟩⟩
    · rintro σ' H2 ⟨e2, cell, rfl⟩
      have f1 := e2 _ _ g1
      have f3 := e2 _ _ g3
      have b2 : HP.ExB p H H2 := b1.trans (.of e2)
      have last : ∀ x : Int, Q (.int (x % many)) H2 := fun x => q _ _ (hmod _).1 (hmod _).2 b2 ⟨cs, lap + 1, left, f1, h2, f3, h4, by omega, by omega, h7⟩
      refine ⟨fun σ' H' => H' = H2 ∧ σ' = [some (.ref p), some (.int many), none, some (.int lap), some (.int cell), none, none], ?_, ?_⟩
      · refine ⟨_, rfl, _, rfl, p, _, 0, _, rfl, rfl, sq_of f1, rfl, c, _, rfl, HP.lenL (sq_of f3), _, _, rfl, rfl, _, rfl, ?_⟩
        by_cases c3 : lap < (cs.length : Int)
        · refine HP.ifT (decide_eq_true c3) ⟨_, rfl, cell, rfl, _, _, rfl, rfl, ⟨by decide, by decide, by decide⟩, _, _, rfl, rfl, _, rfl, ?_⟩
          by_cases c4 : (10 : Int) ^ (18 : Int).toNat ≤ (if cell < 0 then -cell else cell)
          · refine HP.ifT (decide_eq_true c4) ?_
            have neg : (0 : Int) ≤ (if decide (cell < 0) = true then 1 else 0) := by
              split <;> decide
            refine ⟨_, rfl, cell, rfl, _, _, rfl, rfl, ⟨by decide, by decide, by decide⟩, _, _, rfl, rfl, _, _, rfl, rfl, .inl ⟨by decide, by decide⟩, _, rfl, _, _, rfl, rfl, .inr ⟨_, rfl, _, _, rfl, rfl, ?_⟩⟩
            refine ⟨_, rfl, .inl ⟨_, rfl, _, rfl, _, _, rfl, rfl, wd _, _, rfl, p, _, 2, 2, rfl, rfl, f1, rfl, ?_⟩⟩
            refine ⟨_, rfl, .inl ⟨_, rfl, _, rfl, _, _, rfl, rfl, m0, q _ _ (hmod _).1 (hmod _).2 (HP.ExB.upd b2) ⟨cs, lap + 1, _, upd_same, h2, by rw [upd_ne h2]; exact f3, h4, by omega, by omega, Int.ediv_nonneg ?_ (by omega)⟩⟩⟩
            omega
          · exact HP.ifF (decide_eq_false c4) ⟨rfl, rfl⟩
        · exact HP.ifF (decide_eq_false c3) ⟨rfl, rfl⟩
      · rintro σ' H' ⟨rfl, rfl⟩
        have hm := Int.emod_nonneg cell (show (2147483579 : Int) ≠ 0 by decide)
        have hm' := Int.emod_lt_of_pos cell (show (0 : Int) < 2147483579 by decide)
        refine ⟨_, rfl, .inl ⟨cell, rfl, _, _, rfl, rfl, (by show (0 : Int) < 2147483579; decide), _, rfl, _, _, rfl, rfl, .inl ⟨by decide, by decide⟩, _, _, rfl, rfl, _, _, rfl, rfl, _, _, rfl, rfl, ⟨by decide, by decide, by omega⟩, .inl ⟨_, rfl, _, _, rfl, rfl, (by show (0 : Int) < 2147483629; decide), ?_⟩⟩⟩
        refine ⟨_, rfl, _, rfl, _, _, rfl, rfl, .inl ⟨by decide, by decide⟩, _, _, rfl, rfl, _, _, rfl, rfl, .inr ⟨by omega, by omega⟩, ?_⟩
        refine ⟨_, rfl, _, _, rfl, rfl, .inl ⟨by decide, by decide⟩, _, rfl, _, _, rfl, rfl, .inr ⟨by omega, by omega⟩, _, _, rfl, rfl, _, _, rfl, rfl, _, _, rfl, rfl, ⟨by decide, by decide, ?_⟩, .inl ⟨_, rfl, _, _, rfl, rfl, (by show (0 : Int) < 2147483563; decide), ?_⟩⟩
        · have sp : ∀ x : Int, 0 ≤ x % 2147483629 ∧ x % 2147483629 < 2147483629 := fun x => ⟨Int.emod_nonneg x (by decide), Int.emod_lt_of_pos x (by decide)⟩
          have k1 : lap ≤ 1000000 := by omega
          have s1 := sp ((cell % 2147483579 + 52369 * lap + 2371) ^ (5 : Int).toNat)
          have p1 : 0 ≤ ((cell % 2147483579 + 52369 * lap + 2371) ^ (5 : Int).toNat % 2147483629) * (2 * lap + 347) := Int.mul_nonneg s1.1 (by omega)
          have p2 : ((cell % 2147483579 + 52369 * lap + 2371) ^ (5 : Int).toNat % 2147483629) * (2 * lap + 347) ≤ 2147483629 * 2000347 := Int.mul_le_mul (by omega) (by omega) (by omega) (by decide)
          have p3 : 0 ≤ 36947 * lap * lap := Int.mul_nonneg (by omega) h5
          have p4 : 36947 * lap * lap ≤ 36947000000 * 1000000 := Int.mul_le_mul (by omega) k1 h5 (by decide)
          omega
        · refine ⟨_, rfl, _, _, rfl, rfl, wd32 _, .inl ⟨_, rfl, _, rfl, _, _, rfl, rfl, m0, last _⟩⟩
def sp_law_pick (K : PySem.W.Frag) : Sp := fun vs H Q _ => ∃ (p c a : Addr) (ns : List Int) (k : Nat), vs = [.ref p, .ref a] ∧ H a = some (.lst (ns.map V.int)) ∧ 1 ≤ ns.length ∧ ns.length ≤ 1000 ∧ PenAt H p c k ∧ k ≤ 1000000 ∧ ∀ d H', d ∈ ns → HP.ExB p H H' → PenAt H' p c (k + 1) → Q (.int d) H'
theorem ints_not_pen {ns : List Int} (c : Addr) (x y : Int) : HO.lst (ns.map V.int) ≠ .lst [.ref c, .int x, .int y] := fun e => by
  have e' : ns.map V.int = [V.ref c, V.int x, V.int y] := HO.lst.inj e
  cases ns with
  | nil => simp at e'
  | cons n ns => simp at e'
theorem ok__law_pick (T : Tx K mg) : FnR P w K mg base (L2.CX P w) 2 (HP.gA "_law_pick" K) (sp_law_pick K) := mk__law_pick (k := 1) T
  (fun vs H Q E h => by obtain ⟨p, c, a, ns, k, rfl, _⟩ := h; rfl) fun cdv A outer s H vs Q E hr h => by
  obtain ⟨p, c, a, ns, k, rfl, ha, n1, n2, hp, hk, q⟩ := h
  refine ⟨_, (pss_one (ps_ret (pe_ix (HP.ixL_K K) (pv 1) (HP.pe_callR (ok__law_draw T) (hr.mono (by decide)) (kp__law_draw T) (by rfl) (f_glo__law_draw T) passL (pa_cons (pv 0) (pa_cons (pe_callB (HP.len_K K) (by rfl) (f_free_len T) PySem.boot_len (pa_cons (pv 1) pa_nil)) pa_nil))) (fun _ _ => rfl)))), ?_⟩
  have hap := penN hp ha fun c x y => ints_not_pen c x y
  have hb : ((ns.length : Int)).natAbs < 2 ^ 200 := Nat.lt_of_le_of_lt (show ((ns.length : Int)).natAbs ≤ 1000 by omega) (by decide +kernel)
  refine ⟨_, rfl, _, rfl, _, rfl, a, _, rfl, HP.lenL (sq_of ha), p, c, (ns.length : Int), k, rfl, by omega, hb, hp, hk, fun d H1 d0 d1 e1 hp1 => ?_⟩
  obtain ⟨v, hv⟩ : ∃ v, ns[d.toNat]? = some v := ⟨_, List.getElem?_eq_getElem (by omega)⟩
  have hat : atI (ns.map V.int) d = some (V.int v) := by
    have z := HP.at_int hv
    rw [Int.toNat_of_nonneg d0] at z
    exact z
  exact ⟨a, _, d, _, rfl, rfl, sq_of (e1 _ _ hap ha), hat, q v H1 (List.mem_of_getElem? hv) e1 hp1⟩
end
end HL
namespace HL
open PySem PySem.Spec PyProof.Rows L2 Evl SX
section
variable {K : PySem.W.Frag} {H H' : Hp} {p c a : Addr} {k : Nat}
theorem exb_ints {ns : List Int} (hp : PenAt H p c k) (e : HP.ExB p H H') (h : H a = some (.lst (ns.map V.int))) : H' a = some (.lst (ns.map V.int)) := e _ _ (penN hp h fun c x y => ints_not_pen c x y) h
theorem exb_sqT {xs : List V} (hp : PenAt H p c k) (e : HP.ExB p H H') (h : SqT K H a xs) : SqT K H' a xs := by
  rcases h with h | h
  · refine .inl ?_
    rcases h with h | ⟨u, h⟩
    · exact .inl (e _ _ (penN hp h fun c x y z => by cases z) h)
    · exact .inr ⟨u, e _ _ (penN hp h fun c x y z => by cases z) h⟩
  · exact .inr h
theorem TabAt.exb {fs : List Int} (t : TabAt K H a fs) (hp : PenAt H p c k) (e : HP.ExB p H H') : TabAt K H' a fs := by
  obtain ⟨⟨dx, q, r, h1, h2, h3⟩, h4⟩ := t
  exact ⟨⟨dx, q, r, e _ _ (penN hp h1 fun c x y z => by cases z) h1, exb_sqT hp e h2, exb_sqT hp e h3⟩, h4⟩
end
section
variable {P : Program} {w : World} {K : PySem.W.Frag} {mg : Str → Option Value} {base : Heap}
def sp_law_feeds : Sp := fun vs H Q _ => ∃ (p c : Addr) (k : Nat), vs = [.ref p] ∧ PenAt H p c k ∧ k ≤ 999000 ∧ ∀ (a : Addr) (H' : Hp) (fs : List Int), HP.ExB p H H' → PenAt H' p c (k + 10) → H' a = some (.lst (fs.map V.int)) → 1 ≤ fs.length → fs.length ≤ 18 → (∀ f ∈ fs, 1 ≤ f ∧ f ≤ 100) → Q (.ref a) H'
theorem ok__law_feeds (T : Tx K mg) : FnR P w K mg base (L2.CX P w) 3 (HP.gA "_law_feeds" K) sp_law_feeds := mk__law_feeds (k := 2) T
  (fun vs H Q E h => by obtain ⟨p, c, k, rfl, _⟩ := h; rfl) fun cdv A outer s H vs Q E hr h => by
  obtain ⟨p, c, k, rfl, hp, hk, q⟩ := h
  refine ⟨_, (pss_cons (ps_asg (pe_tup (pa_cons (HP.pe_callR (ok__law_pick T) (hr.mono (by decide)) (kp__law_pick T) (by rfl) (f_glo__law_pick T) passL (pa_cons (pv 0) (pa_cons (pe_lst (pa_cons pe_int (pa_cons pe_int (pa_cons pe_int (pa_cons pe_int (pa_cons pe_int pa_nil)))))) pa_nil))) (pa_cons (HP.pe_callR (ok__law_pick T) (hr.mono (by decide)) (kp__law_pick T) (by rfl) (f_glo__law_pick T) passL (pa_cons (pv 0) (pa_cons (pe_lst (pa_cons pe_int (pa_cons pe_int (pa_cons pe_int (pa_cons pe_int pa_nil))))) pa_nil))) pa_nil))) (HP.tgt_K K (n := 2) rfl (pgs_cons (pg_name (i := 1) sc__law_feeds.nd rfl (.inl rfl)) (pgs_cons (pg_name (i := 2) sc__law_feeds.nd rfl (.inr rfl)) pgs_nil))))
      (pss_cons (ps_setLc (i := 3) (own := [("k", 4)]) (tt := tYes) rfl sc__law_feeds.nd rfl rfl (sw_true rfl rfl rfl (by decide +kernel)) (pi_range1 (by rfl) (f_free_range T) (pa_cons (pv 1) pa_nil)) (blkOk_by (N := N__law_feeds) (sc := defScope s__law_feeds) (by decide +kernel)) (fun _ _ _ _ _ => (pg_name (i := 4) sc__law_feeds.nd rfl (.inl rfl))) (fun _ _ _ _ _ => pts_nil) (fun _ _ _ _ _ => (pe_op op_add pe_int (HP.pe_callR (ok__law_draw T) (hr.mono (by decide)) (kp__law_draw T) (by rfl) (f_glo__law_draw T) passL (pa_cons (pv 0) (pa_cons (pv 2) pa_nil))))))
      (pss_one (ps_ret (pe_op HP.repL_ (pv 3) (HP.pe_callR (ok__law_pick T) (hr.mono (by decide)) (kp__law_pick T) (by rfl) (f_glo__law_pick T) passL (pa_cons (pv 0) (pa_cons (pe_lst (pa_cons pe_int (pa_cons pe_int (pa_cons pe_int (pa_cons pe_int pa_nil))))) pa_nil)))))))), ?_⟩
  refine ⟨_, rfl, by show 5 ≤ sizeLine; decide, fun l hl => ⟨p, c, l, [1, 2, 3, 4, 6], k, rfl, upd_same, by decide, by decide, hp.ex (Ex.new hl), by omega, fun many H2 hm e2 hp2 => ?_⟩⟩
  have m1 : 1 ≤ many ∧ many ≤ 6 := by
    simp only [List.mem_cons, List.not_mem_nil, or_false] at hm
    omega
  refine ⟨_, rfl, by show 4 ≤ sizeLine; decide, fun l2 hl2 => ⟨p, c, l2, [1, 2, 3, 100], k + 1, rfl, upd_same, by decide, by decide, hp2.ex (Ex.new hl2), by omega, fun most H30 hm2 e30 hp30 => ⟨by show 2 ≤ sizeLine; decide, fun tt htt => ⟨tt, _, rfl, st_of upd_same, rfl, _, _, rfl, _, _, rfl, rfl, ?_⟩⟩⟩⟩
  have hp3 := hp30.ex (Ex.new (o := .tup [.int many, .int most]) htt)
  have e3 := e30.trans (.of (Ex.new (o := .tup [.int many, .int most]) htt))
  revert hp3 e3
  generalize upd H30 tt (.tup [.int many, .int most]) = H3
  intro hp3 e3
  have m2 : 1 ≤ most ∧ most ≤ 100 := by
    simp only [List.mem_cons, List.not_mem_nil, or_false] at hm2
    omega
  have b3 : HP.ExB p H H3 := (((HP.ExB.of (Ex.new hl)).trans e2).trans (.of (Ex.new hl2))).trans e3
  have mb : most.natAbs < 2 ^ 200 := Nat.lt_of_le_of_lt (show most.natAbs ≤ 100 by omega) (by decide +kernel)
  dsimp only
  refine HP.lc_seq ⟨_, rfl, many, rfl, by omega, by omega, HP.lcIY walk_range (fun i acc H' => HP.ExB p H3 H' ∧ PenAt H' p c (k + 2 + i) ∧ ∃ ns : List Int, acc = ns.map V.int ∧ ns.length = i ∧ ∀ f ∈ ns, 1 ≤ f ∧ f ≤ 100) (by omega)
    (fun D v hD => ⟨exb_fresh (.refl _ _) hD, hp3.fresh hp3 hD, [], rfl, rfl, by simp⟩) (fun _ _ _ _ => trivial) (fun i acc H' D v hD z => ⟨exb_fresh z.1 hD, z.2.1.fresh hp3 hD, z.2.2⟩) (fun i acc x H4 H5 ky hi z y k1 => ?_) fun D H4 acc hD z h _ => ?_⟩
  · obtain ⟨b4, hp4, ns, rfl, hl, hb⟩ := z
    obtain ⟨rfl, rfl⟩ := y
    obtain ⟨o, ho⟩ := hp3.some
    refine ⟨rfl, _, rfl, _, rfl, p, c, most, _, rfl, by omega, mb, hp4, by omega, fun d H6 d0 d1 e6 hp6 => ⟨_, _, rfl, rfl, k1 _ H6 ?_ ⟨b4.trans e6, hp6, ns ++ [1 + d], by rw [List.map_append]; rfl, by rw [List.length_append, hl]; rfl, fun f hf => ?_⟩⟩⟩
    · exact HP.Kn.ofB ho e6
    · rcases List.mem_append.mp hf with hf | hf
      · exact hb f hf
      · have : f = 1 + d := by simpa using hf
        omega
  · obtain ⟨b4, hp4, ns, rfl, hl, hb⟩ := z
    refine ⟨_, rfl, _, rfl, by show 4 ≤ sizeLine; decide, fun l3 hl3 => ⟨p, c, l3, [1, 1, 2, 3], k + 2 + many.toNat, rfl, upd_same, by decide, by decide, hp4.ex (Ex.new hl3), by omega, fun n H6 hn e6 hp6 => ?_⟩⟩
    have n1 : 1 ≤ n ∧ n ≤ 3 := by
      simp only [List.mem_cons, List.not_mem_nil, or_false] at hn
      omega
    have hD6 : H6 D = some (.lst (ns.map V.int)) := exb_ints (hp4.ex (Ex.new hl3)) e6 (Ex.new hl3 _ _ h)
    have ln : ns.length ≤ 6 := by omega
    have lm : n.toNat * ns.length ≤ 3 * 6 := Nat.mul_le_mul (by omega) ln
    refine ⟨D, n, _, rfl, rfl, hD6, by omega, by omega, by rw [List.length_map, Nat.mul_comm]; omega, fun r H7 hr7 e7 h7 => ?_⟩
    rw [HP.rep_mapI] at h7
    have lf : (List.replicate n.toNat ns).flatten.length = n.toNat * ns.length := PyProof.Rows.lm_len_rep_flat ..
    refine q r H7 _ (((b3.trans b4).trans (.of (Ex.new hl3))).trans (e6.trans (.of e7))) ((hp6.ex e7).mono (by omega)) h7 ?_ (by omega) fun f hf => ?_
    · rw [lf]
      exact Nat.mul_pos (by omega) (by omega)
    · rw [List.mem_flatten] at hf
      obtain ⟨l, hl1, hl2⟩ := hf
      rw [(List.mem_replicate.mp hl1).2] at hl2
      exact hb f hl2
theorem okF_take {fs : List Int} (l : okF fs) (i : Nat) : okF (fs.take (i + 1)) :=
  ⟨by rw [List.length_take]; have := l.1; omega, by rw [List.length_take]; have := l.2.1; omega, fun f hf => l.2.2 f (List.mem_of_mem_take hf)⟩
theorem okF_one {f : Int} (h : 1 ≤ f ∧ f ≤ 100) : okF [f] := ⟨Nat.le_refl 1, (by show 1 ≤ 50; decide), fun g hg => by
  rw [List.mem_singleton.mp hg]
  exact h⟩
def sp_law_table (K : PySem.W.Frag) : Sp := fun vs H Q _ => ∃ (a : Addr) (fs : List Int), vs = [.ref a] ∧ H a = some (.lst (fs.map V.int)) ∧ okF fs ∧ ∀ x H', Ex H H' → TabAt K H' x fs → Q (.ref x) H'
theorem ok__law_table (T : Tx K mg) : FnR P w K mg base (L2.CX P w) 6 (HP.gA "_law_table" K) (sp_law_table K) := mk__law_table (k := 5) T
  (fun vs H Q E h => by obtain ⟨a, fs, rfl, _⟩ := h; rfl) fun cdv A outer s H vs Q E hr h => by
  obtain ⟨a, fs, rfl, ha, l, q⟩ := h
  have l1 := l.1
  refine ⟨_, (pss_cons (ps_set (i := 1) sc__law_table.nd rfl (.inl rfl) (StX.pe_makeR (f_mkr_Table T) (ok_Table_init T) (hr.mono (by decide)) (by rfl) (f_glo_Table T) passL (pa_cons (pe_ix (HP.ixL_K K) (pv 0) pe_int (fun _ _ => rfl)) pa_nil)))
      (pss_cons (ps_for HP.pso rfl (HP.iterL_K K (pe_slice (HP.slL_K K) (pv 0) (po_some pe_int) po_none)) (pg_name (i := 2) sc__law_table.nd rfl (.inl rfl))
        (pss_one (ps_set (i := 1) sc__law_table.nd rfl (.inl rfl) (pe_op (HP.op_meI (f_meth_Table___add__ T) (f_sff_Table T) (ok_Table_add T) (hr.mono (by decide)) passL) (pv 1) (StX.pe_makeR (f_mkr_Table T) (ok_Table_init T) (hr.mono (by decide)) (by rfl) (f_glo_Table T) passL (pa_cons (pv 2) pa_nil))))))
      (pss_one (ps_ret (pv 1))))), ?_⟩
  obtain ⟨f0, hf0⟩ : ∃ f, fs[0]? = some f := ⟨_, List.getElem?_eq_getElem (by omega)⟩
  refine ⟨_, rfl, a, _, 0, _, rfl, rfl, sq_of ha, HP.at_int hf0, fun x dx hx hd hxd => ⟨x, dx, [f0], H, rfl, hx, hd, hxd, rfl, okF_one (l.2.2 f0 (List.mem_of_getElem? hf0)), fun H1 e1 t1 => ⟨rfl, ?_⟩⟩⟩
  have t1' : TabAt K H1 x (fs.take 1) := by
    rw [List.take_add_one, List.take_zero, hf0]
    exact t1
  refine ⟨_, rfl, _, rfl, a, _, rfl, sq_of (e1 _ _ ha), fun r H2 hr2 e2 h2 => ?_⟩
  have h2' : H2 r = some (.lst ((fs.drop 1).map V.int)) := by
    rw [← HP.cut_fromI]
    exact h2
  refine ⟨r, rfl, ⟨_, sq_of h2'⟩, for_list (xs := (fs.drop 1).map V.int) (fun i σ H' => Ex H H' ∧ H' r = some (.lst ((fs.drop 1).map V.int)) ∧ ∃ m v, σ = [some (.ref a), some (.ref m), v] ∧ TabAt K H' m (fs.take (i + 1)))
    ⟨e1.trans e2, h2', x, _, rfl, t1'.ex e2⟩ (fun i σ H' _ z => sq_of z.2.1) ?_ ?_⟩
  · rintro i y σ H3 hy ⟨e3, h3, m, v, rfl, t3⟩
    obtain ⟨f, hf, rfl, hi⟩ := HP.get_map_int hy
    have hf' : fs[i + 1]? = some f := by
      rw [List.getElem?_drop, Nat.add_comm] at hf
      exact hf
    refine ⟨_, rfl, _, rfl, fun x dx hx hd hxd => ⟨x, dx, [f], H3, rfl, hx, hd, hxd, rfl, okF_one (l.2.2 f (List.mem_of_getElem? hf')), fun H4 e4 t4 => ⟨rfl, ?_⟩⟩⟩
    have t3' := t3.ex e4
    obtain ⟨dx, pp, t', g1, g2, g3⟩ := tab_feeds t3'
    obtain ⟨dy, pp', t'', k1, k2, k3⟩ := tab_feeds t4
    have eT : fs.take (i + 1) ++ [f] = fs.take (i + 1 + 1) := by
      rw [List.take_add_one (i := i + 1), hf']
      rfl
    refine ⟨m, _, _, rfl, g1, ⟨x, _, _, rfl, k1⟩, m, x, _, [f], rfl, t3', t4, by rw [eT]; exact okF_take l _, fun z H5 e5 t5 => ?_⟩
    rw [eT] at t5
    exact ⟨e3.trans (e4.trans e5), e5 _ _ (e4 _ _ h3), z, _, rfl, t5⟩
  · rintro σ H3 ⟨e3, h3, m, v, rfl, t3⟩
    have e9 : ((fs.drop 1).map V.int).length + 1 = fs.length := by
      rw [List.length_map, List.length_drop]
      omega
    rw [e9, List.take_of_length_le (Nat.le_refl _)] at t3
    exact ⟨_, rfl, q m H3 e3 t3⟩
end
end HL
namespace HL
open PySem PySem.Spec PyProof.Rows L2 Evl SX
section
variable {P : Program} {w : World} {K : PySem.W.Frag} {mg : Str → Option Value} {base : Heap}
def sp_law_places : Sp := fun vs H Q _ => ∃ (a : Addr) (fs : List Int), vs = [.ref a] ∧ H a = some (.lst (fs.map V.int)) ∧ 1 ≤ fs.length ∧ fs.length ≤ 1000 ∧ ∀ p H', Ex H H' → H' p = some (.lst ((placesI fs).map V.int)) → Q (.ref p) H'
theorem ok__law_places (T : Tx K mg) : FnR P w K mg base (L2.CX P w) 1 (HP.gA "_law_places" K) sp_law_places := mk__law_places T
  (fun vs H Q E h => by obtain ⟨a, fs, rfl, _⟩ := h; rfl) fun cdv A outer s H vs Q E hr h => by
  obtain ⟨a, fs, rfl, hS, h1, h2, q⟩ := h
  refine ⟨_, (pss_cons (ps_set (i := 1) sc__law_places.nd rfl (.inl rfl) (pe_lst (pa_cons pe_int pa_nil)))
      (pss_cons (ps_for HP.pso rfl (HP.iterL_K K (pe_slice (HP.slL_K K) (pv 0) po_none (po_some (pe_un un_neg pe_int)))) (pg_name (i := 2) sc__law_places.nd rfl (.inl rfl))
        (pss_one (ps_expr (pe_bm PySem.F.plainAttrs_list PySem.F.slot_list_append PySem.F.type_list_append mt_append (pv 1) (pa_cons (pe_op op_add (pe_ix (HP.ixL_K K) (pv 1) (pe_un un_neg pe_int) (fun _ _ => rfl)) (pv 2)) pa_nil)))))
      (pss_one (ps_ret (pv 1))))), ?_⟩
  refine ⟨by decide, fun l hl => ?_⟩
  refine ⟨_, rfl, 1, rfl, -1, rfl, a, _, rfl, ex_l (Ex.new hl) (sq_of hS), fun p H1 hp1 e1 hp => ?_⟩
  have e01 : Ex H H1 := (Ex.new hl).trans e1
  have hl1 : H1 l = some (.lst [.int 0]) := e1 _ _ upd_same
  have hpl : p ≠ l := fun e => by
    rw [e, upd_same] at hp1
    cases hp1
  rw [HP.cut_butI] at hp
  refine ⟨p, rfl, ⟨_, sq_of hp⟩, for_list (xs := fs.dropLast.map V.int) (fun i σ H' => Ex H H' ∧ H' p = some (.lst (fs.dropLast.map V.int)) ∧ (∃ v, σ = [some (.ref a), some (.ref l), v]) ∧ i < fs.length ∧ H' l = some (.lst (((List.range (i + 1)).map fun k => (fs.take k).sum).map V.int)))
    ⟨e01, hp, ⟨_, rfl⟩, by omega, hl1⟩ (fun i σ H' _ h => sq_of h.2.1) ?_ ?_⟩
  · rintro i x σ H' hx ⟨e, hp, ⟨v, rfl⟩, hi, hl'⟩
    obtain ⟨f, hf, rfl, hi2⟩ := HP.get_map_int hx
    have hi3 : i + 1 < fs.length := by
      rw [List.length_dropLast] at hi2
      omega
    have hf2 : fs[i]? = some f := by
      rw [List.dropLast_eq_take, List.getElem?_take] at hf
      split at hf
      · exact hf
      · cases hf
    have hlast : atI (((List.range (i + 1)).map fun k => (fs.take k).sum).map V.int) (-1) = some (V.int (fs.take i).sum) := by
      rw [List.range_succ, List.map_append, List.map_append]
      exact atI_last _ _
    refine ⟨_, rfl, .inl ⟨rfl, _, sq_of hl'⟩, _, rfl, _, rfl, l, _, -1, _, rfl, rfl, sq_of hl', hlast, _, rfl, _, _, rfl, rfl, ?_⟩
    refine ⟨l, _, _, rfl, rfl, hl', sz_lt (by simp; omega), ?_⟩
    refine ⟨Ex.mut e hl, by rw [upd_ne hpl]; exact hp, ⟨_, rfl⟩, hi3, ?_⟩
    rw [upd_same, show List.range (i + 1 + 1) = List.range (i + 1) ++ [i + 1] from List.range_succ, List.map_append, List.map_append]
    show some (HO.lst (_ ++ [V.int ((fs.take i).sum + f)])) = _
    rw [← sum_step hf2]
    rfl
  · rintro σ H' ⟨e, hp, ⟨v, rfl⟩, hi, hl'⟩
    refine ⟨_, rfl, q l H' e ?_⟩
    have e9 : (fs.dropLast.map V.int).length + 1 = fs.length := by
      rw [List.length_map, List.length_dropLast]
      omega
    rw [e9] at hl'
    exact hl'
def sp_law_least : Sp := fun vs H Q _ => ∃ (a : Addr) (fs : List Int), vs = [.ref a] ∧ H a = some (.lst (fs.map V.int)) ∧ 1 ≤ fs.length ∧ fs.length ≤ 1000 ∧ ∀ p H', Ex H H' → H' p = some (.lst ((leastI fs).map V.int)) → Q (.ref p) H'
theorem ok__law_least (T : Tx K mg) : FnR P w K mg base (L2.CX P w) 1 (HP.gA "_law_least" K) sp_law_least := mk__law_least T
  (fun vs H Q E h => by obtain ⟨a, fs, rfl, _⟩ := h; rfl) fun cdv A outer s H vs Q E hr h => by
  obtain ⟨a, fs, rfl, hS, h1, h2, q⟩ := h
  refine ⟨_, (pss_cons (ps_for HP.pso rfl (pi_range2 (by rfl) (f_free_range T) (pa_cons pe_int (pa_cons (pe_op op_add (pe_callB (HP.len_K K) (by rfl) (f_free_len T) PySem.boot_len (pa_cons (pv 0) pa_nil)) pe_int) pa_nil))) (pg_name (i := 1) sc__law_least.nd rfl (.inl rfl))
        (pss_one (ps_if (pt_cmpR (HP.eqI_K K hr.units) (pe_op HP.repL_ (pe_slice (HP.slL_K K) (pv 0) po_none (po_some (pv 1))) (pe_op op_fdiv (pe_callB (HP.len_K K) (by rfl) (f_free_len T) PySem.boot_len (pa_cons (pv 0) pa_nil)) (pv 1))) (pv 0) (nomark _)) (pss_one (ps_ret (pe_slice (HP.slL_K K) (pv 0) po_none (po_some (pv 1))))) pss_nil)))
      (pss_one (ps_ret (pv 0)))), ?_⟩
  have en : ((fs.length : Int) + 1 - 1).toNat = fs.length := by omega
  refine ⟨_, rfl, a, _, rfl, HP.lenL (sq_of hS), _, _, rfl, rfl, 1, _, rfl, ⟨by decide, by decide, by omega, by omega⟩, ?_⟩
  rw [en]
  refine for_it walk_range (fun i σ H' => Ex H H' ∧ (∃ v, σ = [some (.ref a), v]) ∧ ∀ j, j < i → good fs (j + 1) = false) ⟨Ex.refl _, ⟨_, rfl⟩, by omega⟩ (fun _ _ _ _ _ => trivial) ?_ ?_
  · rintro i x σ H1 H2 hi ⟨e, ⟨v, rfl⟩, hno⟩ ⟨rfl, hx⟩
    have ei : (1 : Int) + (i : Int) = ((i + 1 : Nat) : Int) := by omega
    rw [show x = V.int ((i + 1 : Nat) : Int) from hx.trans (congrArg V.int ei)]
    have hS1 := e _ _ hS
    refine ⟨_, rfl, _, rfl, _, rfl, a, _, rfl, sq_of hS1, fun p H3 hp3 e3 hp => ?_⟩
    rw [HP.cut_toI] at hp
    have hS3 := e3 _ _ hS1
    refine ⟨_, rfl, a, _, rfl, HP.lenL (sq_of hS3), _, rfl, _, _, rfl, rfl, ⟨by omega, by omega⟩, ?_⟩
    have hd1 : 1 ≤ fs.length / (i + 1) := Nat.div_pos (by omega) (by omega)
    have hd2 : fs.length / (i + 1) ≤ fs.length := Nat.div_le_self _ _
    have ed : ((fs.length : Int) / ((i + 1 : Nat) : Int)) = ((fs.length / (i + 1) : Nat) : Int) := by rw [Int.natCast_ediv]
    have hmul : (fs.length / (i + 1)) * (i + 1) ≤ fs.length := Nat.div_mul_le_self _ _
    refine ⟨p, ((fs.length / (i + 1) : Nat) : Int), _, rfl, by rw [← ed], hp, by omega, by omega, by rw [List.length_map, List.length_take, Int.toNat_natCast, Nat.min_eq_left (by omega), Nat.mul_comm]; omega, fun p4 H4 hp4 e4 h4 => ?_⟩
    rw [Int.toNat_natCast, HP.rep_mapI] at h4
    refine ⟨_, rfl, HP.eqI_of (K := K) (.inr ⟨sq_of h4, sq_of (e4 _ _ hS3)⟩) ⟨_, rfl, ?_⟩⟩
    show if good fs (i + 1) = true then _ else _
    have e14 := e.trans (e3.trans e4)
    by_cases c : good fs (i + 1) = true
    · rw [if_pos c]
      refine ⟨_, rfl, _, rfl, _, rfl, a, _, rfl, sq_of (e14 _ _ hS), fun r H5 hr5 e5 h5 => ?_⟩
      rw [HP.cut_toI] at h5
      refine q r H5 (e14.trans e5) ?_
      obtain ⟨j, j1, j2, j3, j4, j5⟩ := leastN_spec h1
      have ej : j = i := by
        rcases Nat.lt_trichotomy j i with h | h | h
        · rw [hno j h] at j4
          cases j4
        · exact h
        · rw [j5 i h] at c
          cases c
      unfold leastI
      rw [j2, ej]
      exact h5
    · rw [if_neg c]
      refine ⟨e14, ⟨_, rfl⟩, fun j hj => ?_⟩
      by_cases ej : j = i
      · rw [ej]
        simpa using c
      · exact hno j (by omega)
  · rintro σ H1 ⟨e, ⟨v, rfl⟩, hno⟩
    have := hno (fs.length - 1) (by omega)
    rw [show fs.length - 1 + 1 = fs.length by omega, good_self h1] at this
    cases this
def sp_law_gaps : Sp := fun vs H Q _ => ∃ z : List Nat, vs = [.str (S z)] ∧ marked z = true ∧ ∀ p H', Ex H H' → H' p = some (.lst ((gapsI z).map V.int)) → Q (.ref p) H'
theorem ok__law_gaps (T : Tx K mg) : FnR P w K mg base (L2.CX P w) 1 (HP.gA "_law_gaps" K) sp_law_gaps := mk__law_gaps T
  (fun vs H Q E h => by obtain ⟨z, rfl, _⟩ := h; rfl) fun cdv A outer s H vs Q E hr h => by
  obtain ⟨z, rfl, hm, q⟩ := h
  have hz : z.length ≤ 2000 := by
    unfold marked at hm
    simp only [Bool.and_eq_true, decide_eq_true_eq] at hm
    exact hm.1.2
  have hne := spots_ne hm
  have hpos := List.length_pos_iff.mpr hne
  have hgl := gaps_len z hne
  have hsl : (spotsI z).length ≤ z.length := by
    unfold spotsI
    rw [List.length_map]
    have := List.length_filter_le (fun i => decide (z.getD i 0 = 49)) (List.range z.length)
    rw [List.length_range] at this
    exact this
  refine ⟨_, (pss_cons (ps_set (i := 1) sc__law_gaps.nd rfl (.inr rfl) (pe_lc (own := [("at", 3)])  rfl sc__law_gaps.nd (pi_range1 (by rfl) (f_free_range T) (pa_cons (pe_callB call_len_str (by rfl) (f_free_len T) PySem.boot_len (pa_cons (pv 0) pa_nil)) pa_nil)) (blkOk_by (N := N__law_gaps) (sc := defScope s__law_gaps) (by decide +kernel)) (fun _ _ _ _ _ => (pg_name (i := 3) sc__law_gaps.nd rfl (.inl rfl))) (fun _ _ _ _ _ => pts_one (pt_cmpR op_eq (pe_ix ix_str (pv 0) (pv 3) (fun _ _ => rfl)) pe_str (nomark _))) (fun _ _ _ _ _ => (pv 3))))
      (pss_cons (ps_set (i := 2) sc__law_gaps.nd rfl (.inr rfl) (pe_op HP.catL_ (pe_slice (HP.slL_K K) (pv 1) (po_some pe_int) po_none) (pe_lst (pa_cons (pe_op op_add (pe_ix (HP.ixL_K K) (pv 1) pe_int (fun _ _ => rfl)) (pe_callB call_len_str (by rfl) (f_free_len T) PySem.boot_len (pa_cons (pv 0) pa_nil))) pa_nil))))
      (pss_one (ps_ret (pe_lc (own := [("k", 4)]) (tt := tYes) rfl sc__law_gaps.nd (pi_range1 (by rfl) (f_free_range T) (pa_cons (pe_callB (HP.len_K K) (by rfl) (f_free_len T) PySem.boot_len (pa_cons (pv 1) pa_nil)) pa_nil)) (blkOk_by (N := N__law_gaps) (sc := defScope s__law_gaps) (by decide +kernel)) (fun _ _ _ _ _ => (pg_name (i := 4) sc__law_gaps.nd rfl (.inl rfl))) (fun _ _ _ _ _ => pts_nil) (fun _ _ _ _ _ => (pe_op op_sub (pe_ix (HP.ixL_K K) (pv 2) (pv 4) (fun _ _ => rfl)) (pe_ix (HP.ixL_K K) (pv 1) (pv 4) (fun _ _ => rfl))))))))), ?_⟩
  have ez : ((S z).length : Int).toNat = z.length := by rw [S_len]; rfl
  refine HP.lc_seq ⟨_, rfl, S z, rfl, sz_of (by rw [S_len]; omega), _, rfl, by omega, by rw [S_len]; omega, ?_⟩
  rw [ez]
  refine HP.lcP walk_range (fun i => if z.getD i 0 = 49 then some (V.int ((i : Nat) : Int)) else none) (by omega) (fun _ _ => trivial) (fun i x H2 H3 ky k0 hi e y k1 k2 => ?_) fun D H2 hD e h => ?_
  · obtain ⟨rfl, hx⟩ := y
    rw [show x = V.int ((i : Nat) : Int) from hx.trans (congrArg V.int (by omega))]
    have hc : atI (S z).cps.toList (i : Int) = some (z.getD i 0) := atI_nat (by
      show z[i]? = _
      rw [List.getD_eq_getElem?_getD, List.getElem?_eq_getElem hi]
      rfl)
    refine ⟨rfl, _, rfl, _, rfl, S z, _, _, rfl, rfl, sz_of (by rw [S_len]; omega), hc, rfl, _, rfl, ?_⟩
    by_cases c : z.getD i 0 = 49
    · rw [if_pos c] at k1
      refine HP.ifT (decide_eq_true ?_) ⟨_, rfl, k1 _ _ rfl (Ex.refl _)⟩
      show V.str ⟨#[z.getD i 0]⟩ = V.str (S [49])
      rw [c]
    · rw [if_neg c] at k2
      refine HP.ifF (decide_eq_false fun h => c ?_) (k2 _ rfl (Ex.refl _))
      have := S_inj (V.str.inj (show V.str ⟨#[z.getD i 0]⟩ = V.str (S [49]) from h) : S [z.getD i 0] = S [49])
      simpa using this
  · rw [spots_fm] at h
    obtain ⟨s0, hs0⟩ : ∃ s0, (spotsI z)[0]? = some s0 := ⟨_, List.getElem?_eq_getElem hpos⟩
    have hs0' : (spotsI z).getD 0 0 = s0 := by rw [List.getD_eq_getElem?_getD, hs0]; rfl
    refine ⟨_, rfl, _, rfl, D, _, rfl, sq_of h, fun r H3 hr3 e3 h3 => ?_⟩
    have h3' : H3 r = some (.lst (((spotsI z).drop 1).map V.int)) := by
      rw [← HP.cut_fromI]
      exact h3
    refine ⟨_, rfl, D, _, 0, _, rfl, rfl, sq_of (e3 _ _ h), HP.at_int hs0, _, rfl, S z, rfl, sz_of (by rw [S_len]; omega), _, _, rfl, rfl, ?_⟩
    refine ⟨by show 1 ≤ sizeLine; decide, fun l hl => ?_⟩
    have e34 := Ex.new (o := .lst [V.int (s0 + ((S z).length : Int))]) hl
    refine ⟨r, l, _, _, rfl, rfl, e34 _ _ h3', upd_same, by rw [List.length_map, List.length_drop]; simp; omega, fun m H5 hm5 e5 h5 => ?_⟩
    have h5' : H5 m = some (.lst (((spotsI z).drop 1 ++ [s0 + (z.length : Int)]).map V.int)) := by
      rw [List.map_append, h5, S_len]
      rfl
    have e15 := e.trans (e3.trans (e34.trans e5))
    have hD5 := e5 _ _ (e34 _ _ (e3 _ _ h))
    have lens1 : ((spotsI z).drop 1 ++ [s0 + (z.length : Int)]).length = (spotsI z).length := by
      rw [List.length_append, List.length_drop, List.length_singleton]
      omega
    dsimp only
    refine HP.lc_ret ⟨_, rfl, D, _, rfl, HP.lenL (sq_of hD5), _, rfl, by omega, by omega, ?_⟩
    rw [Int.toNat_natCast]
    refine HP.lcPY walk_range (fun i => V.int ((gapsI z).getD i 0)) (by omega) (fun _ _ => trivial) (fun i x H6 H7 ky hi e y k1 => ?_) fun D2 H6 hD2 e6 h6 => ?_
    · obtain ⟨rfl, hx⟩ := y
      rw [show x = V.int ((i : Nat) : Int) from hx.trans (congrArg V.int (by omega))]
      obtain ⟨a, ha⟩ : ∃ a, (spotsI z)[i]? = some a := ⟨_, List.getElem?_eq_getElem hi⟩
      obtain ⟨b, hb⟩ : ∃ b, ((spotsI z).drop 1 ++ [s0 + (z.length : Int)])[i]? = some b := ⟨_, List.getElem?_eq_getElem (by omega)⟩
      have eg : (gapsI z).getD i 0 = b - a := by
        unfold gapsI
        rw [hs0', List.getD_eq_getElem?_getD, List.getElem?_zipWith, ha, hb]
        rfl
      rw [eg] at k1
      exact ⟨rfl, _, rfl, _, rfl, m, _, _, _, rfl, rfl, sq_of (e _ _ h5'), HP.at_int hb, _, rfl, _, rfl, D, _, _, _, rfl, rfl, sq_of (e _ _ hD5), HP.at_int ha, _, _, rfl, rfl, k1 _ (Ex.refl _)⟩
    · rw [← hgl, HP.rg_map (gapsI z) V.int _ fun i x hx => by rw [List.getD_eq_getElem?_getD, hx]; rfl] at h6
      exact q D2 H6 (e15.trans e6) h6
end
end HL
namespace HL
/-! ### the least part of a part laid again and again -/
theorem rep_get {α : Type} (t : List α) : ∀ (k i : Nat), i < k * t.length → ((List.replicate k t).flatten)[i]? = t[i % t.length]?
  | 0, i, h => by simp at h
  | k + 1, i, h => by
    rw [List.replicate_succ, List.flatten_cons]
    by_cases hi : i < t.length
    · rw [List.getElem?_append_left hi, Nat.mod_eq_of_lt hi]
    · rw [List.getElem?_append_right (by omega), rep_get t k (i - t.length) (by rw [Nat.succ_mul] at h; omega)]
      congr 1
      exact (Nat.mod_eq_sub_mod (by omega)).symm
theorem rep_len {α : Type} (t : List α) (k : Nat) : ((List.replicate k t).flatten).length = k * t.length := by
  rw [List.length_flatten, List.map_replicate, List.sum_replicate_nat]
theorem good_iff {fs : List Int} {s : Nat} (h1 : 1 ≤ s) (h2 : s ≤ fs.length) : good fs s = true ↔ s ∣ fs.length ∧ ∀ i, i < fs.length → fs[i]? = fs[i % s]? := by
  unfold good
  rw [decide_eq_true_eq]
  have lt : (fs.take s).length = s := by rw [List.length_take]; omega
  constructor
  · intro h
    have hl := congrArg List.length h
    rw [rep_len, lt] at hl
    refine ⟨⟨fs.length / s, by rw [Nat.mul_comm]; exact hl.symm⟩, fun i hi => ?_⟩
    have hg := rep_get (fs.take s) (fs.length / s) i (by rw [lt, hl]; exact hi)
    rw [h, lt, List.getElem?_take_of_lt (Nat.mod_lt _ h1)] at hg
    exact hg
  · rintro ⟨hd, hg⟩
    have hl : fs.length / s * s = fs.length := Nat.div_mul_cancel hd
    apply List.ext_getElem?
    intro i
    by_cases hi : i < fs.length
    · rw [rep_get _ _ _ (by rw [lt, hl]; exact hi), lt, List.getElem?_take_of_lt (Nat.mod_lt _ h1), hg i hi]
    · rw [List.getElem?_eq_none (by rw [rep_len, lt, hl]; omega), List.getElem?_eq_none (by omega)]
theorem least_le {fs : List Int} {s : Nat} (h0 : 1 ≤ fs.length) (h1 : 1 ≤ s) (h2 : s ≤ fs.length) (h : good fs s = true) : leastN fs ≤ s := by
  obtain ⟨j, _, j2, j3, j4, j5⟩ := leastN_spec h0
  rw [j2]
  rcases Nat.lt_or_ge (s - 1) j with c | c
  · have := j5 (s - 1) c
    rw [show s - 1 + 1 = s by omega, h] at this
    cases this
  · omega
theorem least_good {fs : List Int} (h0 : 1 ≤ fs.length) : 1 ≤ leastN fs ∧ leastN fs ≤ fs.length ∧ good fs (leastN fs) = true := by
  obtain ⟨j, _, j2, j3, j4, j5⟩ := leastN_spec h0
  rw [j2]
  exact ⟨by omega, by omega, j4⟩
theorem per_mul {α : Type} {a : Nat → α} {s : Nat} (h : ∀ i, a (i + s) = a i) : ∀ q i, a (i + s * q) = a i
  | 0, i => by simp
  | q + 1, i => by rw [Nat.mul_succ, ← Nat.add_assoc, h, per_mul h q i]
theorem per_gcd {α : Type} {a : Nat → α} : ∀ (s m : Nat), (∀ i, a (i + s) = a i) → (∀ i, a (i + m) = a i) → ∀ i, a (i + Nat.gcd s m) = a i := by
  intro s m
  induction s, m using Nat.gcd.induction with
  | H0 n =>
    intro _ h i
    rw [Nat.gcd_zero_left]
    exact h i
  | H1 s m hs ih =>
    intro h1 h2
    rw [Nat.gcd_rec]
    refine ih (fun i => ?_) h1
    have e : i + m % s + s * (m / s) = i + m := by
      have := Nat.mod_add_div m s
      omega
    have := per_mul h1 (m / s) (i + m % s)
    rw [e, h2] at this
    exact this.symm
theorem per_mod {α : Type} {a : Nat → α} {s : Nat} (h : ∀ i, a (i + s) = a i) (i : Nat) : a i = a (i % s) := by
  have := per_mul h (i / s) (i % s)
  rw [Nat.mod_add_div] at this
  exact this
theorem least_rep {fs : List Int} (h0 : 1 ≤ fs.length) {n : Nat} (hn : 1 ≤ n) : leastI (List.replicate n fs).flatten = leastI fs := by
  have hM : (List.replicate n fs).flatten.length = n * fs.length := rep_len fs n
  have hM1 : fs.length ≤ n * fs.length := Nat.le_mul_of_pos_left _ hn
  have hget : ∀ i, i < n * fs.length → ((List.replicate n fs).flatten)[i]? = fs[i % fs.length]? := fun i hi => rep_get fs n i hi
  obtain ⟨a1, a2, a3⟩ := least_good h0
  obtain ⟨b1, b2, b3⟩ := least_good (fs := (List.replicate n fs).flatten) (by omega)
  obtain ⟨ad, ag⟩ := (good_iff a1 a2).mp a3
  obtain ⟨bd, bg⟩ := (good_iff b1 b2).mp b3
  rw [hM] at bd bg b2
  have le1 : leastN (List.replicate n fs).flatten ≤ leastN fs := by
    refine least_le (by omega) a1 (by omega) ((good_iff a1 (by omega)).mpr ⟨by rw [hM]; exact Nat.dvd_trans ad (Nat.dvd_mul_left _ _), fun i hi => ?_⟩)
    rw [hM] at hi
    have hi' : i % leastN fs < fs.length := Nat.lt_of_lt_of_le (Nat.mod_lt _ a1) a2
    rw [hget i hi, hget (i % leastN fs) (by omega), Nat.mod_eq_of_lt hi', ag (i % fs.length) (Nat.mod_lt _ h0), Nat.mod_mod_of_dvd _ ad]
  have pm : ∀ i, fs[(i + fs.length) % fs.length]? = fs[i % fs.length]? := fun i => by rw [Nat.add_mod_right]
  have ps : ∀ i, fs[(i + leastN (List.replicate n fs).flatten) % fs.length]? = fs[i % fs.length]? := fun i => by
    have key : ∀ i, fs[i % fs.length]? = fs[(i % leastN (List.replicate n fs).flatten) % fs.length]? := fun i => by
      have hlt : i % (n * fs.length) < n * fs.length := Nat.mod_lt _ (by omega)
      have e1 : fs[i % fs.length]? = fs[(i % (n * fs.length)) % fs.length]? := by rw [Nat.mod_mod_of_dvd _ (Nat.dvd_mul_left _ _)]
      rw [e1, ← hget _ hlt, bg _ hlt, Nat.mod_mod_of_dvd _ bd]
      exact hget _ (Nat.lt_of_lt_of_le (Nat.mod_lt _ b1) b2)
    rw [key (i + _), Nat.add_mod_right, ← key i]
  have pg := per_gcd (a := fun i => fs[i % fs.length]?) _ _ ps pm
  have g1 : 1 ≤ Nat.gcd (leastN (List.replicate n fs).flatten) fs.length := Nat.gcd_pos_of_pos_left _ b1
  have g2 : Nat.gcd (leastN (List.replicate n fs).flatten) fs.length ≤ leastN (List.replicate n fs).flatten := Nat.gcd_le_left _ b1
  have g3 : Nat.gcd (leastN (List.replicate n fs).flatten) fs.length ∣ fs.length := Nat.gcd_dvd_right _ _
  have g4 : Nat.gcd (leastN (List.replicate n fs).flatten) fs.length ≤ fs.length := Nat.le_of_dvd h0 g3
  have le2 : leastN fs ≤ Nat.gcd (leastN (List.replicate n fs).flatten) fs.length := least_le h0 g1 g4 ((good_iff g1 g4).mpr ⟨g3, fun i hi => by
    have z := per_mod (a := fun i => fs[i % fs.length]?) pg i
    rw [Nat.mod_eq_of_lt hi, Nat.mod_eq_of_lt (Nat.lt_of_lt_of_le (Nat.mod_lt _ g1) g4)] at z
    exact z⟩)
  have e : leastN (List.replicate n fs).flatten = leastN fs := by omega
  unfold leastI
  rw [e]
  apply List.ext_getElem?
  intro i
  by_cases hi : i < leastN fs
  · rw [List.getElem?_take_of_lt hi, List.getElem?_take_of_lt hi, hget i (by omega), Nat.mod_eq_of_lt (by omega)]
  · rw [List.getElem?_take_eq_none (by omega), List.getElem?_take_eq_none (by omega)]
/-! ### rings -/
theorem spots_app (a b : List Nat) : spotsI (a ++ b) = spotsI a ++ (spotsI b).map (· + (a.length : Int)) := by
  unfold spotsI
  rw [List.length_append, List.range_add, List.filter_append, List.map_append]
  congr 1
  · congr 1
    apply List.filter_congr
    intro i hi
    rw [List.getD_eq_getElem?_getD, List.getD_eq_getElem?_getD, List.getElem?_append_left (List.mem_range.mp hi)]
  · rw [List.filter_map, List.map_map, List.map_map]
    congr 1
    · funext i
      simp
      omega
    · apply List.filter_congr
      intro i _
      simp only [Function.comp]
      rw [List.getD_eq_getElem?_getD, List.getD_eq_getElem?_getD, List.getElem?_append_right (by omega), Nat.add_sub_cancel_left]
theorem spots_zero (m : Nat) : spotsI (List.replicate m 48) = [] := by
  unfold spotsI
  rw [List.map_eq_nil_iff, List.filter_eq_nil_iff]
  intro i hi
  rw [List.length_replicate, List.mem_range] at hi
  simp [List.getD_eq_getElem?_getD, List.getElem?_replicate, hi]
theorem spots_one (j : Nat) : spotsI (49 :: List.replicate j 48) = [0] := by
  have e : spotsI [49] = [0] := by decide
  have := spots_app [49] (List.replicate j 48)
  rw [spots_zero, e] at this
  exact this
/-- running sums from s -/
def runI : Int → List Int → List Int
  | s, [] => [s]
  | s, g :: gs => s :: runI (s + g) gs
theorem run_map (d : Int) : ∀ (s : Int) (gs : List Int), (runI s gs).map (· + d) = runI (s + d) gs
  | s, [] => rfl
  | s, g :: gs => by
    rw [runI, List.map_cons, run_map d (s + g) gs, runI]
    congr 2
    omega
theorem run_cons (s : Int) (gs : List Int) : runI s gs = s :: (runI s gs).drop 1 := by
  cases gs <;> rfl
theorem ring_cons (g : Int) (gs : List Int) : ringI (g :: gs) = (49 :: List.replicate (g - 1).toNat 48) ++ ringI gs := rfl
theorem ring_app (gs hs : List Int) : ringI (gs ++ hs) = ringI gs ++ ringI hs := by
  unfold ringI
  rw [List.map_append, List.flatten_append]
theorem ring_len {gs : List Int} (h : ∀ g ∈ gs, 1 ≤ g) : ((ringI gs).length : Int) = gs.sum := by
  induction gs with
  | nil => rfl
  | cons g gs ih =>
    have hg := h g (List.mem_cons_self ..)
    rw [ring_cons, List.length_append, List.length_cons, List.length_replicate, List.sum_cons, ← ih fun x hx => h x (List.mem_cons_of_mem _ hx)]
    omega
theorem spots_ring (j : Nat) : ∀ {gs : List Int}, (∀ g ∈ gs, 1 ≤ g) → spotsI (ringI gs ++ (49 :: List.replicate j 48)) = runI 0 gs
  | [], _ => spots_one j
  | g :: gs, h => by
    have hg := h g (List.mem_cons_self ..)
    rw [ring_cons, List.append_assoc, spots_app, spots_one, spots_ring j fun x hx => h x (List.mem_cons_of_mem _ hx), run_map, runI]
    have e : ((49 :: List.replicate (g - 1).toNat 48 : List Nat).length : Int) = g := by
      rw [List.length_cons, List.length_replicate]
      omega
    rw [e]
    rfl
theorem zip_run (E : Int) : ∀ (s : Int) (gs : List Int), List.zipWith (fun one later => later - one) (runI s gs) ((runI s gs).drop 1 ++ [E]) = gs ++ [E - (s + gs.sum)]
  | s, [] => by simp [runI]
  | s, g :: gs => by
    have ih := zip_run E (s + g) gs
    rw [runI, List.drop_succ_cons, List.drop_zero]
    rw [run_cons (s + g) gs, List.cons_append, List.zipWith_cons_cons, ← run_cons, ih, List.sum_cons, List.cons_append]
    congr 1
    · omega
    · congr 2
      omega
theorem gaps_of {m j : Nat} {gs : List Int} (h : ∀ g ∈ gs, 1 ≤ g) : gapsI (List.replicate m 48 ++ (ringI gs ++ (49 :: List.replicate j 48))) = gs ++ [((j + 1 + m : Nat) : Int)] := by
  have e1 : spotsI (List.replicate m 48 ++ (ringI gs ++ (49 :: List.replicate j 48))) = runI (m : Int) gs := by
    rw [spots_app, spots_zero, spots_ring j h, run_map, List.length_replicate, Int.zero_add]
    rfl
  unfold gapsI
  rw [e1]
  have e2 : (runI (m : Int) gs).getD 0 0 = m := by
    rw [run_cons]
    rfl
  rw [e2, zip_run]
  congr 2
  have := ring_len h
  rw [List.length_append, List.length_append, List.length_cons, List.length_replicate, List.length_replicate]
  omega
theorem ring_gaps {fs : List Int} (h0 : fs ≠ []) (h : ∀ g ∈ fs, 1 ≤ g) : gapsI (ringI fs) = fs := by
  obtain ⟨gs, g, rfl⟩ : ∃ gs g, fs = gs ++ [g] := ⟨fs.dropLast, fs.getLast h0, (List.dropLast_concat_getLast h0).symm⟩
  have hg := h g (by simp)
  have := gaps_of (m := 0) (j := (g - 1).toNat) (gs := gs) fun x hx => h x (List.mem_append_left _ hx)
  rw [ring_app]
  have e : ringI [g] = 49 :: List.replicate (g - 1).toNat 48 := by simp [ringI]
  rw [e]
  simp only [List.replicate_zero, List.nil_append] at this
  rw [this]
  congr 2
  omega
end HL
namespace HL
/-! ### a ring, cut and laid on -/
theorem rep_add {α : Type} (a b : Nat) (x : α) : List.replicate (a + b) x = List.replicate a x ++ List.replicate b x := (List.replicate_append_replicate ..).symm
theorem place_get {fs : List Int} {k : Nat} (h : k < fs.length) : (placesI fs).getD k 0 = (fs.take k).sum := by
  rw [List.getD_eq_getElem?_getD, placesI_get h]
  rfl
theorem place_len (fs : List Int) : (placesI fs).length = fs.length := by
  unfold placesI
  rw [List.length_map, List.length_range]
theorem ring_one (g : Int) : ringI [g] = 49 :: List.replicate (g - 1).toNat 48 := by simp [ringI]
theorem take_snoc {fs : List Int} {k : Nat} {g : Int} (h : fs[k]? = some g) : fs.take (k + 1) = fs.take k ++ [g] := by
  rw [List.take_add_one, h]
  rfl
theorem ring_len_take {fs : List Int} (h : ∀ g ∈ fs, 1 ≤ g) (k : Nat) : ((ringI (fs.take k)).length : Int) = (fs.take k).sum := ring_len fun g hg => h g (List.mem_of_mem_take hg)
/-- the cut falls into the turn behind mark k -/
theorem rot_in {fs : List Int} (h : ∀ g ∈ fs, 1 ≤ g) {k b : Nat} {g : Int} (hk : fs[k]? = some g) (b1 : (fs.take k).sum < (b : Int)) (b2 : (b : Int) ≤ (fs.take (k + 1)).sum) :
    gapsI ((ringI fs).drop b ++ (ringI fs).take b) = fs.drop (k + 1) ++ fs.take (k + 1) := by
  have hkl : k < fs.length := (List.getElem?_eq_some_iff.mp hk).1
  have hg : 1 ≤ g := h g (List.mem_of_getElem? hk)
  have e0 : fs = fs.take k ++ (g :: fs.drop (k + 1)) := by
    have := (List.take_append_drop (k + 1) fs).symm
    rw [take_snoc hk, List.append_assoc] at this
    exact this
  have eR : ringI fs = ringI (fs.take k) ++ ((49 :: List.replicate (g - 1).toNat 48) ++ ringI (fs.drop (k + 1))) := by
    rw [← ring_cons, ← ring_app, ← e0]
  have lk := ring_len_take h k
  rw [take_snoc hk, List.sum_append] at b2
  simp only [List.sum_cons, List.sum_nil, Int.add_zero] at b2
  obtain ⟨r, hr⟩ : ∃ r : Nat, b = (ringI (fs.take k)).length + (r + 1) := ⟨b - (ringI (fs.take k)).length - 1, by omega⟩
  obtain ⟨m, hm⟩ : ∃ m : Nat, (g - 1).toNat = r + m := ⟨(g - 1).toNat - r, by omega⟩
  have eD : (ringI fs).drop b = List.replicate m 48 ++ ringI (fs.drop (k + 1)) := by
    rw [eR, hr, List.drop_append, List.drop_eq_nil_of_le (by omega), List.nil_append, show (ringI (fs.take k)).length + (r + 1) - (ringI (fs.take k)).length = r + 1 by omega, List.cons_append, List.drop_succ_cons, hm, rep_add, List.append_assoc,
      List.drop_append, List.drop_eq_nil_of_le (by rw [List.length_replicate]; omega), List.length_replicate, Nat.sub_self, List.drop_zero, List.nil_append]
  have eT : (ringI fs).take b = ringI (fs.take k) ++ (49 :: List.replicate r 48) := by
    rw [eR, hr, List.take_append, List.take_of_length_le (l := ringI (fs.take k)) (by omega), show (ringI (fs.take k)).length + (r + 1) - (ringI (fs.take k)).length = r + 1 by omega, List.cons_append, List.take_succ_cons, hm, rep_add, List.append_assoc,
      List.take_append, List.take_of_length_le (l := List.replicate r 48) (by rw [List.length_replicate]; omega), List.length_replicate, Nat.sub_self, List.take_zero, List.append_nil]
  rw [eD, eT, List.append_assoc, ← List.append_assoc (ringI (fs.drop (k + 1))), ← ring_app]
  rw [gaps_of fun x hx => ?_]
  · rw [take_snoc hk, List.append_assoc]
    congr 3
    omega
  · rcases List.mem_append.mp hx with hx | hx
    · exact h x (List.mem_of_mem_drop hx)
    · exact h x (List.mem_of_mem_take hx)
theorem rot_zero {fs : List Int} (h0 : fs ≠ []) (h : ∀ g ∈ fs, 1 ≤ g) : gapsI ((ringI fs).drop 0 ++ (ringI fs).take 0) = fs := by
  rw [List.drop_zero, List.take_zero, List.append_nil, ring_gaps h0 h]
/-- the law's at: the first place not ahead of the cut -/
def atI' (fs : List Int) (b : Int) : Nat := ((List.range fs.length).find? fun k => decide (b ≤ (fs.take k).sum)).getD 0
theorem rot_at {fs : List Int} (h0 : 1 ≤ fs.length) (h : ∀ g ∈ fs, 1 ≤ g) {b : Nat} (hb : (b : Int) < fs.sum) : gapsI ((ringI fs).drop b ++ (ringI fs).take b) = rotI fs (atI' fs b) ∧ atI' fs b < fs.length := by
  have hne : fs ≠ [] := fun e => by
    rw [e] at h0
    simp at h0
  unfold atI'
  cases e : (List.range fs.length).find? (fun k => decide ((b : Int) ≤ (fs.take k).sum)) with
  | none =>
    rw [List.find?_eq_none] at e
    have z := e (fs.length - 1) (List.mem_range.mpr (by omega))
    have hk : fs[fs.length - 1]? = some (fs[fs.length - 1]'(by omega)) := List.getElem?_eq_getElem (by omega)
    have el : fs.take (fs.length - 1 + 1) = fs := by rw [show fs.length - 1 + 1 = fs.length by omega, List.take_of_length_le (Nat.le_refl _)]
    have := rot_in h hk (b := b) (by simpa using z) (by rw [el]; omega)
    rw [this, el, show fs.length - 1 + 1 = fs.length by omega, List.drop_eq_nil_of_le (Nat.le_refl _)]
    refine ⟨?_, h0⟩
    unfold rotI
    show [] ++ fs = fs.drop 0 ++ fs.take 0
    simp
  | some j =>
    rw [List.find?_range_eq_some] at e
    obtain ⟨e1, e2, e3⟩ := e
    have e1' : (b : Int) ≤ (fs.take j).sum := of_decide_eq_true e1
    have e2' := List.mem_range.mp e2
    show gapsI _ = rotI fs j ∧ j < fs.length
    refine ⟨?_, e2'⟩
    cases j with
    | zero =>
      rw [List.take_zero, List.sum_nil] at e1'
      have : b = 0 := by omega
      subst this
      rw [rot_zero hne h]
      unfold rotI
      simp
    | succ k =>
      have hk : fs[k]? = some (fs[k]'(by omega)) := List.getElem?_eq_getElem (by omega)
      have z := e3 k (by omega)
      exact rot_in h hk (b := b) (by simpa using z) e1'
/-- every ring with a mark is some zeros, turns, and a last mark -/
theorem ring_parts : ∀ z : List Nat, (∀ c ∈ z, c ∈ [48, 49]) → 49 ∈ z → ∃ (m j : Nat) (gs : List Int), z = List.replicate m 48 ++ (ringI gs ++ (49 :: List.replicate j 48)) ∧ ∀ g ∈ gs, 1 ≤ g
  | [], _, h => by simp at h
  | c :: z, hz, h => by
    have hz' : ∀ c ∈ z, c ∈ [48, 49] := fun x hx => hz x (List.mem_cons_of_mem _ hx)
    by_cases hm : 49 ∈ z
    · obtain ⟨m, j, gs, e, hg⟩ := ring_parts z hz' hm
      have hc := hz c (List.mem_cons_self ..)
      simp only [List.mem_cons, List.not_mem_nil, or_false] at hc
      rcases hc with rfl | rfl
      · exact ⟨m + 1, j, gs, by rw [e, List.replicate_succ]; rfl, hg⟩
      · refine ⟨0, j, ((m + 1 : Nat) : Int) :: gs, ?_, fun g hgm => ?_⟩
        · rw [e, List.replicate_zero, List.nil_append, ring_cons, show (((m + 1 : Nat) : Int) - 1).toNat = m by omega]
          simp
        · rcases List.mem_cons.mp hgm with rfl | hgm
          · omega
          · exact hg g hgm
    · have hc : c = 49 := by
        rcases List.mem_cons.mp h with h | h
        · exact h.symm
        · exact absurd h hm
      subst hc
      have hall : z = List.replicate z.length 48 := by
        rw [List.eq_replicate_iff]
        refine ⟨rfl, fun x hx => ?_⟩
        have := hz' x hx
        simp only [List.mem_cons, List.not_mem_nil, or_false] at this
        rcases this with h | h
        · exact h
        · exact absurd (h ▸ hx) hm
      exact ⟨0, z.length, [], by rw [List.replicate_zero, List.nil_append, ← hall]; rfl, by simp⟩
theorem len_le_sum {gs : List Int} (h : ∀ g ∈ gs, 1 ≤ g) : (gs.length : Int) ≤ gs.sum ∧ ∀ g ∈ gs, g ≤ gs.sum := by
  induction gs with
  | nil => exact ⟨by simp, by simp⟩
  | cons g gs ih =>
    have hg := h g (List.mem_cons_self ..)
    obtain ⟨i1, i2⟩ := ih fun x hx => h x (List.mem_cons_of_mem _ hx)
    rw [List.length_cons, List.sum_cons]
    refine ⟨by omega, fun x hx => ?_⟩
    rcases List.mem_cons.mp hx with rfl | hx
    · omega
    · have := i2 x hx
      omega
theorem gaps_ok {z : List Nat} (h : marked z = true) (hl : z.length ≤ 50) : okF (gapsI z) := by
  unfold marked at h
  simp only [Bool.and_eq_true, decide_eq_true_eq, List.all_eq_true] at h
  obtain ⟨m, j, gs, e, hg⟩ := ring_parts z (fun c hc => h.2.2 c hc) h.2.1
  rw [e, gaps_of hg]
  have rl := ring_len hg
  obtain ⟨i1, i2⟩ := len_le_sum hg
  rw [e, List.length_append, List.length_append, List.length_cons, List.length_replicate, List.length_replicate] at hl
  refine ⟨by rw [List.length_append]; simp, by rw [List.length_append, List.length_singleton]; omega, fun f hf => ?_⟩
  rcases List.mem_append.mp hf with hf | hf
  · have a := hg f hf
    have b := i2 f hf
    omega
  · have : f = ((j + 1 + m : Nat) : Int) := by simpa using hf
    omega
theorem marked_ring {fs : List Int} (h0 : 1 ≤ fs.length) (h : ∀ g ∈ fs, 1 ≤ g) (hs : fs.sum ≤ 2000) : marked (ringI fs) = true := by
  have rl := ring_len h
  have hmem : ∀ (gs : List Int) (c : Nat), c ∈ ringI gs → c ∈ [48, 49] := by
    intro gs c hc
    unfold ringI at hc
    rw [List.mem_flatten] at hc
    obtain ⟨l, hl, hc⟩ := hc
    rw [List.mem_map] at hl
    obtain ⟨f, _, rfl⟩ := hl
    rcases List.mem_cons.mp hc with rfl | hc
    · simp
    · rw [(List.mem_replicate.mp hc).2]
      simp
  have h49 : 49 ∈ ringI fs := by
    cases fs with
    | nil => simp at h0
    | cons g gs => rw [ring_cons]; simp
  have := len_le_sum h
  unfold marked
  simp only [Bool.and_eq_true, decide_eq_true_eq, List.all_eq_true]
  exact ⟨⟨by omega, by omega⟩, h49, fun c hc => hmem fs c hc⟩
theorem marked_rot {z : List Nat} (h : marked z = true) (b : Nat) : marked (z.drop b ++ z.take b) = true := by
  unfold marked at h ⊢
  simp only [Bool.and_eq_true, decide_eq_true_eq, List.all_eq_true] at h ⊢
  have hl : (z.drop b ++ z.take b).length = z.length := by rw [List.length_append, List.length_drop, List.length_take]; omega
  have hm : ∀ c, c ∈ z.drop b ++ z.take b ↔ c ∈ z := fun c => by
    rw [List.mem_append]
    constructor
    · rintro (h | h)
      · exact List.mem_of_mem_drop h
      · exact List.mem_of_mem_take h
    · intro h
      rw [← List.take_append_drop b z, List.mem_append] at h
      exact h.symm
  rw [hl]
  exact ⟨h.1, (hm _).mpr h.2.1, fun c hc => h.2.2 c ((hm c).mp hc)⟩
/-! ### calls of a turned table -/
/-- .. told of a natural number -/
def callN (fs : List Int) (k : Nat) : Int := ((k / fs.length : Nat) : Int) * fs.sum + (fs.take (k % fs.length)).sum
theorem callI_nat (fs : List Int) (k : Nat) : callI fs (k : Int) = callN fs k := by
  unfold callI callN
  rw [← Int.natCast_ediv, ← Int.natCast_emod, Int.toNat_natCast]
theorem callN_succ {fs : List Int} (h : 1 ≤ fs.length) (k : Nat) : callN fs (k + 1) = callN fs k + fs.getD (k % fs.length) 0 := by
  have hm := Nat.mod_lt k h
  have hd := Nat.mod_add_div k fs.length
  have hg : fs[k % fs.length]? = some (fs.getD (k % fs.length) 0) := by
    rw [List.getD_eq_getElem?_getD, List.getElem?_eq_getElem hm]
    rfl
  unfold callN
  rcases Nat.lt_or_ge (k % fs.length + 1) fs.length with c | c
  · have e1 : (k + 1) % fs.length = k % fs.length + 1 := by rw [Nat.add_mod, Nat.mod_eq_of_lt (show 1 < fs.length by omega), Nat.mod_eq_of_lt c]
    have e2 : (k + 1) / fs.length = k / fs.length := by
      have hd' := Nat.mod_add_div (k + 1) fs.length
      rw [e1] at hd'
      exact Nat.eq_of_mul_eq_mul_left h (by omega)
    rw [e1, e2, sum_step hg]
    omega
  · have ek : k % fs.length + 1 = fs.length := by omega
    have hk1 : k + 1 = fs.length * (k / fs.length + 1) := by
      rw [Nat.mul_add, Nat.mul_one]
      omega
    have e1 : (k + 1) % fs.length = 0 := by rw [hk1, Nat.mul_mod_right]
    have e2 : (k + 1) / fs.length = k / fs.length + 1 := by rw [hk1, Nat.mul_div_cancel_left _ h]
    have es := sum_step hg
    rw [ek, List.take_of_length_le (Nat.le_refl _)] at es
    rw [e1, e2, List.take_zero, List.sum_nil, es, Int.add_zero]
    push_cast
    rw [Int.add_mul, Int.one_mul, ← es]
    omega
theorem rot_len {fs : List Int} (s : Nat) : (rotI fs s).length = fs.length := by
  unfold rotI
  rw [List.length_append, List.length_drop, List.length_take]
  omega
theorem rot_get {fs : List Int} {s : Nat} (hs : s < fs.length) (j : Nat) (hj : j < fs.length) : (rotI fs s).getD j 0 = fs.getD ((s + j) % fs.length) 0 := by
  unfold rotI
  rw [List.getD_eq_getElem?_getD, List.getD_eq_getElem?_getD]
  rcases Nat.lt_or_ge j (fs.length - s) with c | c
  · rw [List.getElem?_append_left (by rw [List.length_drop]; exact c), List.getElem?_drop, Nat.mod_eq_of_lt (by omega)]
  · rw [List.getElem?_append_right (by rw [List.length_drop]; exact c), List.length_drop, List.getElem?_take_of_lt (by omega)]
    have : (s + j) % fs.length = j - (fs.length - s) := by
      rw [Nat.mod_eq_sub_mod (by omega), Nat.mod_eq_of_lt (by omega)]
      omega
    rw [this]
theorem call_rot {fs : List Int} (h : 1 ≤ fs.length) (n : Nat) : ∀ k, callN (rotI fs (n % fs.length)) k = callN fs (n + k) - callN fs n
  | 0 => by
    unfold callN
    simp
  | k + 1 => by
    have hs := Nat.mod_lt n h
    have hk := Nat.mod_lt k h
    rw [callN_succ (by rw [rot_len]; exact h), call_rot h n k, rot_len, rot_get hs _ hk, ← Nat.add_assoc, callN_succ h (n + k), ← Nat.add_mod]
    omega
end HL
namespace HL
open PySem PySem.Spec PyProof.Rows L2 Evl SX
/-! ### what evaluates to a table, a tuple of ints, a list of ints -/
def EvTab (K : PySem.W.Frag) (te : TE) (σ : L2.St) (H : Hp) (fs : List Int) : Prop := ∀ H1, Ex H H1 → ∀ Q : VK, (∀ x H2, Ex H1 H2 → TabAt K H2 x fs → Q (.ref x) H2) → te σ H1 Q
def EvTu (K : PySem.W.Frag) (te : TE) (σ : L2.St) (H : Hp) (ns : List Int) : Prop := ∀ H1, Ex H H1 → ∀ Q : VK, (∀ x H2, Ex H1 H2 → SqT K H2 x (ns.map V.int) → Q (.ref x) H2) → te σ H1 Q
def EvLs (te : TE) (σ : L2.St) (H : Hp) (ns : List Int) : Prop := ∀ H1, Ex H H1 → ∀ Q : VK, (∀ x H2, Ex H1 H2 → H2 x = some (.lst (ns.map V.int)) → Q (.ref x) H2) → te σ H1 Q
section
variable {K : PySem.W.Frag} {mg : Str → Option Value} {σ : L2.St} {H : Hp} {ta tb te : TE} {i : Nat} {x a : Addr} {fs gs ns ms : List Int} {E : XK} {n : Int} {C : Addr}
theorem tab_var (h : σ[i]? = some (some (.ref x))) (t : TabAt K H x fs) : EvTab K (tVar i) σ H fs := fun H1 e Q q => ⟨_, h, q x H1 (Ex.refl _) (t.ex e)⟩
theorem ls_var (h : σ[i]? = some (some (.ref x))) (t : H x = some (.lst (ns.map V.int))) : EvLs (tVar i) σ H ns := fun H1 e Q q => ⟨_, h, q x H1 (Ex.refl _) (e _ _ t)⟩
theorem tab_lean (h : EvTab K te σ H fs) : EvTab K (tMethR (HP.gA "Table" K) "lean" (sp_Table_lean K) E te tNil) σ H (leastI fs) := fun H1 e Q q => h H1 e _ fun x H2 e2 t => by
  obtain ⟨dx, p, t', h1, h2, h3⟩ := tab_feeds t
  exact ⟨x, dx, _, rfl, h1, rfl, x, fs, rfl, t, fun y H3 e3 t3 => q y H3 (e2.trans e3) t3⟩
theorem tab_turned {tn : TE} (h : EvTab K te σ H fs) (hn : Ev tn σ H (.int n)) (h0 : 0 ≤ n) (h1 : n ≤ 1000000000000000000000000000000) : EvTab K (tMethR (HP.gA "Table" K) "turned" (sp_Table_turned K) E te (tCons tn tNil)) σ H (rotI fs (n % (fs.length : Int)).toNat) :=
  fun H1 e Q q => h H1 e _ fun x H2 e2 t => by
    obtain ⟨dx, p, t', g1, g2, g3⟩ := tab_feeds t
    exact ⟨x, dx, _, rfl, g1, rfl, hn H2 (e.trans e2) _ fun H3 e3 => ⟨x, fs, n, rfl, t.ex e3, h0, h1, fun y H4 e4 t4 => q y H4 ((e2.trans e3).trans e4) t4⟩⟩
theorem tab_add (h : EvTab K ta σ H fs) (h' : EvTab K tb σ H gs) (l : okF (fs ++ gs)) : EvTab K (tOp (HP.rOwn2 (HP.gA "Table" K) (sp_Table_add K) E (HP.isIns (HP.gA "Table" K))) ta tb) σ H (fs ++ gs) :=
  fun H1 e Q q => h H1 e _ fun x H2 e2 t => h' H2 (e.trans e2) _ fun y H3 e3 t3 => by
    have t2 := t.ex e3
    obtain ⟨dx, p, t', g1, g2, g3⟩ := tab_feeds t2
    obtain ⟨dy, p', t'', k1, k2, k3⟩ := tab_feeds t3
    exact ⟨x, _, _, rfl, g1, ⟨y, _, _, rfl, k1⟩, x, y, fs, gs, rfl, t2, t3, l, fun z H4 e4 t4 => q z H4 ((e2.trans e3).trans e4) t4⟩
theorem tab_mul {tn : TE} (h : EvTab K ta σ H fs) (hn : Ev tn σ H (.int n)) (n1 : 1 ≤ n) (n2 : n * (fs.length : Int) ≤ 50) (l : okF (List.replicate n.toNat fs).flatten) : EvTab K (tOp (HP.rOwn2 (HP.gA "Table" K) (sp_Table_mul K) E HP.isInt) ta tn) σ H (List.replicate n.toNat fs).flatten :=
  fun H1 e Q q => h H1 e _ fun x H2 e2 t => hn H2 (e.trans e2) _ fun H3 e3 => by
    have t2 := t.ex e3
    obtain ⟨dx, p, t', g1, g2, g3⟩ := tab_feeds t2
    exact ⟨x, _, _, rfl, g1, ⟨n, rfl⟩, x, fs, n, rfl, t2, n1, n2, l, fun z H4 e4 t4 => q z H4 ((e2.trans e3).trans e4) t4⟩
theorem tab_of {t : TA} (h : ∀ H1, Ex H H1 → ∀ Q : List V → Hp → Prop, (∀ H2, Ex H1 H2 → Q (fs.map V.int) H2) → t σ H1 Q) (l : okF fs) : EvTab K (StX.tMakeR (HP.gA "Table" K) (sp_Table_init K) E t) σ H fs :=
  fun H1 e Q q => h H1 e _ fun H2 e2 => fun x dx hx hd hxd => ⟨x, dx, fs, H2, rfl, hx, hd, hxd, rfl, l, fun H3 e3 t3 => ⟨rfl, q x H3 (e2.trans e3) t3⟩⟩
theorem tab_table {j : Nat} (h : σ[j]? = some (some (.ref a))) (ha : H a = some (.lst (fs.map V.int))) (l : okF fs) : EvTab K (HP.tCallR (sp_law_table K) E (tCons (tVar j) tNil)) σ H fs := fun H1 e Q q =>
  ⟨_, h, a, fs, rfl, e _ _ ha, l, fun x H2 e2 t => q x H2 e2 t⟩
theorem tab_ring {z : List Nat} (h : Ev te σ H (.str (S z))) (hm : marked z = true) (l : okF (gapsI z)) : EvTab K (HP.tStat (HP.gA "Table" K) (sp_Table_of_ring K) E (tC (.ref (HP.gA "Table" K))) (tCons te tNil)) σ H (gapsI z) := fun H1 e Q q =>
  ⟨rfl, h H1 e _ fun H2 e2 => ⟨z, rfl, hm, l, fun x H3 e3 t => q x H3 (e2.trans e3) t⟩⟩
theorem tu_feeds (T : Tx K mg) (h : EvTab K te σ H fs) : EvTu K (tFld K te "feeds") σ H fs := fun H1 e Q q => h H1 e _ fun x H2 e2 t => by
  obtain ⟨dx, p, t', h1, h2, h3⟩ := tab_feeds t
  exact ⟨x, _, dx, _, _, rfl, h1, f_cls_Table T, f_noat_Table_feeds T, rfl, q p H2 e2 h2⟩
theorem tu_ofL (h : EvLs te σ H ns) : EvTu K (tCB (HP.rTupOf K) (tCons te tNil)) σ H ns := fun H1 e Q q => h H1 e _ fun x H2 e2 hx => ⟨x, _, rfl, .inl (sq_of hx), fun t H3 e3 h3 => q t H3 (e2.trans e3) h3⟩
theorem tu_lit {t : TA} (h : ∀ H1, Ex H H1 → ∀ Q : List V → Hp → Prop, (∀ H2, Ex H1 H2 → Q (ns.map V.int) H2) → t σ H1 Q) (l : ns.length ≤ 1000) : EvTu K (tTup t) σ H ns := fun H1 e Q q => h H1 e _ fun H2 e2 =>
  ⟨sz_of (by rw [List.length_map]; omega), fun p hp => q p _ (e2.trans (Ex.new hp)) (st_of upd_same)⟩
theorem ls_cat (h : EvLs ta σ H ns) (h' : EvLs tb σ H ms) (l : ns.length + ms.length ≤ 100000) : EvLs (tOp HP.rCatL ta tb) σ H (ns ++ ms) := fun H1 e Q q => h H1 e _ fun x H2 e2 hx => h' H2 (e.trans e2) _ fun y H3 e3 hy =>
  ⟨x, y, _, _, rfl, rfl, e3 _ _ hx, hy, by rw [List.length_map, List.length_map]; exact l, fun r H4 _ e4 h4 => q r H4 ((e2.trans e3).trans e4) (by rw [List.map_append]; exact h4)⟩
theorem ls_rep {tn : TE} (h : EvLs ta σ H ns) (hn : Ev tn σ H (.int n)) (h0 : 0 ≤ n) (h1 : n ≤ 1000) (l : ns.length ≤ 100) : EvLs (tOp HP.rRepL ta tn) σ H (List.replicate n.toNat ns).flatten := fun H1 e Q q => h H1 e _ fun x H2 e2 hx => hn H2 (e.trans e2) _ fun H3 e3 =>
  ⟨x, n, _, rfl, rfl, e3 _ _ hx, by omega, by omega, by
    rw [List.length_map]
    have : ns.length * n.toNat ≤ 100 * 1000 := Nat.mul_le_mul l (by omega)
    omega, fun r H4 _ e4 h4 => q r H4 ((e2.trans e3).trans e4) (by rw [← HP.rep_mapI]; exact h4)⟩
theorem ls_to {tn : TE} {k : Nat} (h : EvLs ta σ H ns) (hn : Ev tn σ H (.int (k : Int))) : EvLs (tSl (HP.rSlLk K) ta tNoPart (tPart tn)) σ H (ns.take k) := fun H1 e Q q => h H1 e _ fun x H2 e2 hx => hn H2 (e.trans e2) _ fun H3 e3 =>
  ⟨_, rfl, x, _, rfl, sq_of (e3 _ _ hx), fun r H4 _ e4 h4 => q r H4 ((e2.trans e3).trans e4) (by rw [← HP.cut_toI]; exact h4)⟩
theorem ls_from {tn : TE} {k : Nat} (h : EvLs ta σ H ns) (hn : Ev tn σ H (.int (k : Int))) : EvLs (tSl (HP.rSlLk K) ta (tPart tn) tNoPart) σ H (ns.drop k) := fun H1 e Q q => h H1 e _ fun x H2 e2 hx => hn H2 (e.trans e2) _ fun H3 e3 =>
  ⟨_, rfl, x, _, rfl, sq_of (e3 _ _ hx), fun r H4 _ e4 h4 => q r H4 ((e2.trans e3).trans e4) (by rw [← HP.cut_fromI]; exact h4)⟩
theorem ls_least (h : EvLs te σ H ns) (l1 : 1 ≤ ns.length) (l2 : ns.length ≤ 1000) : EvLs (HP.tCallR sp_law_least E (tCons te tNil)) σ H (leastI ns) := fun H1 e Q q => h H1 e _ fun x H2 e2 hx => ⟨x, ns, rfl, hx, l1, l2, fun r H3 e3 h3 => q r H3 (e2.trans e3) h3⟩
theorem ls_gaps {z : List Nat} (h : Ev te σ H (.str (S z))) (hm : marked z = true) : EvLs (HP.tCallR sp_law_gaps E (tCons te tNil)) σ H (gapsI z) := fun H1 e Q q => h H1 e _ fun H2 e2 => ⟨z, rfl, hm, fun r H3 e3 h3 => q r H3 (e2.trans e3) h3⟩
theorem ev_tuEq (h : EvTu K ta σ H ns) (h' : EvTu K tb σ H ms) : Ev (tOp (HP.rSeqI K false) ta tb) σ H (.bl (decide (ns = ms))) := fun H1 e Q q => h H1 e _ fun x H2 e2 hx => h' H2 (e.trans e2) _ fun y H3 e3 hy =>
  ⟨x, y, ns, ms, rfl, rfl, .inl ⟨ex_t e3 hx, hy⟩, q H3 (e2.trans e3)⟩
theorem ev_tuNe (h : EvTu K ta σ H ns) (h' : EvTu K tb σ H ms) : Ev (tOp (HP.rSeqI K true) ta tb) σ H (.bl (!decide (ns = ms))) := fun H1 e Q q => h H1 e _ fun x H2 e2 hx => h' H2 (e.trans e2) _ fun y H3 e3 hy =>
  ⟨x, y, ns, ms, rfl, rfl, .inl ⟨ex_t e3 hx, hy⟩, q H3 (e2.trans e3)⟩
theorem ev_lsEq (h : EvLs ta σ H ns) (h' : EvLs tb σ H ms) : Ev (tOp (HP.rSeqI K false) ta tb) σ H (.bl (decide (ns = ms))) := fun H1 e Q q => h H1 e _ fun x H2 e2 hx => h' H2 (e.trans e2) _ fun y H3 e3 hy =>
  ⟨x, y, ns, ms, rfl, rfl, .inr ⟨sq_of (e3 _ _ hx), sq_of hy⟩, q H3 (e2.trans e3)⟩
theorem ev_tabEq (h : EvTab K ta σ H fs) (h' : EvTab K tb σ H gs) : Ev (tOp (HP.rOwn2 (HP.gA "Table" K) (sp_Table_eq K) E (HP.okRight K (HP.gA "Table" K))) ta tb) σ H (.bl (decide (fs = gs))) := fun H1 e Q q => h H1 e _ fun x H2 e2 t => h' H2 (e.trans e2) _ fun y H3 e3 t3 => by
  have t2 := t.ex e3
  obtain ⟨dx, p, t', g1, g2, g3⟩ := tab_feeds t2
  obtain ⟨dy, p', t'', k1, k2, k3⟩ := tab_feeds t3
  exact ⟨x, _, _, rfl, g1, .inl ⟨_, _, k1⟩, x, y, fs, gs, rfl, t2, t3, q H3 (e2.trans e3)⟩
theorem ev_tabNe (h : EvTab K ta σ H fs) (h' : EvTab K tb σ H gs) : Ev (tOp (HP.rOwnNe K (HP.gA "Table" K) (sp_Table_eq K) E) ta tb) σ H (.bl (!decide (fs = gs))) := fun H1 e Q q => h H1 e _ fun x H2 e2 t => h' H2 (e.trans e2) _ fun y H3 e3 t3 => by
  have t2 := t.ex e3
  obtain ⟨dx, p, t', g1, g2, g3⟩ := tab_feeds t2
  obtain ⟨dy, p', t'', k1, k2, k3⟩ := tab_feeds t3
  exact ⟨x, _, _, rfl, g1, .inl ⟨_, _, k1⟩, x, y, fs, gs, rfl, t2, t3, _, rfl, q H3 (e2.trans e3)⟩
theorem ev_ring (h : EvTab K te σ H fs) : Ev (tMethR (HP.gA "Table" K) "as_ring" (sp_Table_as_ring K) E te tNil) σ H (.str (S (ringI fs))) := fun H1 e Q q => h H1 e _ fun x H2 e2 t => by
  obtain ⟨dx, p, t', g1, g2, g3⟩ := tab_feeds t
  exact ⟨x, dx, _, rfl, g1, rfl, x, fs, rfl, t, fun H3 e3 => q H3 (e2.trans e3)⟩
theorem ev_strOf (h : EvTab K te σ H fs) (hw : (wordsI fs).length ≠ 0) : Ev (tCB (HP.rStrOwn (HP.gA "Table" K) (sp_Table_str K) E) (tCons te tNil)) σ H (.str (wordsI fs)) := fun H1 e Q q => h H1 e _ fun x H2 e2 t => by
  obtain ⟨dx, p, t', g1, g2, g3⟩ := tab_feeds t
  exact ⟨x, dx, _, rfl, g1, x, fs, rfl, t, hw, fun H3 e3 => ⟨⟨_, rfl⟩, q H3 (e2.trans e3)⟩⟩
end
end HL
namespace HL
open PySem PySem.Spec PyProof.Rows L2 Evl SX
section
variable {K : PySem.W.Frag} {σ : L2.St} {H : Hp} {ta tb te : TE} {i j : Nat} {fs gs ns : List Int} {tz : TS} {D : Ends} {z : Str} {n : Int}
theorem q_parT (h : EvTab K ta σ H fs) (h' : EvTab K tb σ H gs) (k : ∀ x y H1, Ex H H1 → TabAt K H1 x fs → TabAt K H1 y gs → tz D ((σ.set i (some (.ref x))).set j (some (.ref y))) H1) : tSeq (tPar i j (tCons ta (tCons tb tNil))) tz D σ H :=
  h H (Ex.refl _) _ fun x H1 e1 t1 => h' H1 e1 _ fun y H2 e2 t2 => ⟨_, _, rfl, k x y H2 (e1.trans e2) (t1.ex e2) t2⟩
theorem q_tab (h : EvTab K te σ H fs) (k : ∀ x H1, Ex H H1 → TabAt K H1 x fs → tz D (σ.set i (some (.ref x))) H1) : tSeq (tAsg te (gName i)) tz D σ H := h H (Ex.refl _) _ k
end
/-- feeds that the law draws -/
def okD (fs : List Int) : Prop := 1 ≤ fs.length ∧ fs.length ≤ 18 ∧ ∀ f ∈ fs, 1 ≤ f ∧ f ≤ 100
theorem okD.ok {fs : List Int} (h : okD fs) : okF fs := ⟨h.1, by have := h.2.1; omega, h.2.2⟩
theorem okD.app {fs gs : List Int} (h : okD fs) (h' : okD gs) : okF (fs ++ gs) := ⟨by rw [List.length_append]; have := h.1; omega, by rw [List.length_append]; have := h.2.1; have := h'.2.1; omega, fun f hf => by
  rcases List.mem_append.mp hf with hf | hf
  · exact h.2.2 f hf
  · exact h'.2.2 f hf⟩
theorem okF_rep {fs : List Int} (h : okF fs) {n : Nat} (h1 : 1 ≤ n) (h2 : n * fs.length ≤ 50) : okF (List.replicate n fs).flatten := by
  refine ⟨by rw [rep_len]; exact Nat.mul_pos h1 h.1, by rw [rep_len]; exact h2, fun f hf => ?_⟩
  rw [List.mem_flatten] at hf
  obtain ⟨l, hl1, hl2⟩ := hf
  rw [(List.mem_replicate.mp hl1).2] at hl2
  exact h.2.2 f hl2
section
variable {P : Program} {w : World} {K : PySem.W.Frag} {mg : Str → Option Value} {base : Heap}
def sp_joined (K : PySem.W.Frag) : Sp := fun vs H Q _ => ∃ (p c a b : Addr) (fs gs : List Int) (k : Nat), vs = [.ref p, .ref a, .ref b] ∧ PenAt H p c k ∧ k ≤ 900000 ∧ H a = some (.lst (fs.map V.int)) ∧ H b = some (.lst (gs.map V.int)) ∧ okD fs ∧ okD gs ∧ ∀ H', HP.ExB p H H' → PenAt H' p c (k + 1) → Q (.bl true) H'
theorem ok__law_joined_right (T : Tx K mg) : FnR P w K mg base (L2.CX P w) 7 (HP.gA "_law_joined_right" K) (sp_joined K) := mk__law_joined_right (k := 6) T
  (fun vs H Q E h => by obtain ⟨p, c, a, b, fs, gs, k, rfl, _⟩ := h; rfl) fun cdv A outer s H vs Q E hr h => by
  obtain ⟨p, c, a, b, fs, gs, k, rfl, hp, hk, ha, hb, of, og, q⟩ := h
  have f1 := of.1
  have f2 := of.2.1
  have g2 := og.2.1
  refine ⟨_, (pss_cons (ps_par (i := 3) (j := 4) rfl sc__law_joined_right.nd rfl rfl (by decide) rfl rfl (pa_cons (HP.pe_callR (ok__law_table T) (hr.mono (by decide)) (kp__law_table T) (by rfl) (f_glo__law_table T) passL (pa_cons (pv 1) pa_nil)) (pa_cons (HP.pe_callR (ok__law_table T) (hr.mono (by decide)) (kp__law_table T) (by rfl) (f_glo__law_table T) passL (pa_cons (pv 2) pa_nil)) pa_nil)) (by rfl))
      (pss_cons (ps_par (i := 5) (j := 6) rfl sc__law_joined_right.nd rfl rfl (by decide) rfl rfl (pa_cons (pe_op (HP.op_meI (f_meth_Table___add__ T) (f_sff_Table T) (ok_Table_add T) (hr.mono (by decide)) passL) (pv 3) (pv 4)) (pa_cons (pv 3) pa_nil)) (by rfl))
      (pss_cons (ps_aug (i := 6) sc__law_joined_right.nd rfl (.inl rfl) (pv 4) (HP.ip_of (HP.iop_meI (f_noin_Table_Add T) (f_meth_Table___add__ T) (f_sff_Table T) (ok_Table_add T) (hr.mono (by decide)) passL)))
      (pss_cons (ps_if (pw_or (pt_cmpR (HP.neI_K K hr.units) (HP.fld_K K (pv 5)) (pe_callTy (HP.tupOf_K K) (by rfl) (f_free_tuple T) (by decide +kernel) (pa_cons (pe_op HP.catL_ (pv 1) (pv 2)) pa_nil)) (nomark _)) (pw_or (pt_cmpR (HP.op_meNe (f_meth_Table___eq__ T) (f_ne_Table T) (f_rgt_Table T) (ok_Table_eq T) (hr.mono (by decide)) passL) (pv 6) (pv 5) (nomark _)) (pw_or (pt_cmpR (HP.neI_K K hr.units) (HP.fld_K K (pv 3)) (pe_callTy (HP.tupOf_K K) (by rfl) (f_free_tuple T) (by decide +kernel) (pa_cons (pv 1) pa_nil)) (nomark _)) (pw_or1 (pt_cmpR (HP.neI_K K hr.units) (HP.fld_K K (pv 4)) (pe_callTy (HP.tupOf_K K) (by rfl) (f_free_tuple T) (by decide +kernel) (pa_cons (pv 2) pa_nil)) (nomark _)))))).pt (pss_one (ps_ret pe_bl)) pss_nil)
      (pss_cons (ps_set (i := 7) sc__law_joined_right.nd rfl (.inl rfl) (pe_op op_add pe_int (HP.pe_callR (ok__law_draw T) (hr.mono (by decide)) (kp__law_draw T) (by rfl) (f_glo__law_draw T) passL (pa_cons (pv 0) (pa_cons (pe_op op_fdiv pe_int (pe_callB (HP.len_K K) (by rfl) (f_free_len T) PySem.boot_len (pa_cons (pv 1) pa_nil))) pa_nil)))))
      (pss_cons (ps_set (i := 8) sc__law_joined_right.nd rfl (.inl rfl) (pe_op (HP.op_meN (f_meth_Table___mul__ T) (f_sff_Table T) (f_num_Table_Mult T) (ok_Table_mul T) (hr.mono (by decide)) passL) (pv 3) (pv 7)))
      (pss_cons (ps_if (pw_or (pt_cmpR (HP.neI_K K hr.units) (HP.fld_K K (pv 8)) (pe_callTy (HP.tupOf_K K) (by rfl) (f_free_tuple T) (by decide +kernel) (pa_cons (pe_op HP.repL_ (pv 1) (pv 7)) pa_nil)) (nomark _)) (pw_or (pt_cmpR (HP.neI_K K hr.units) (HP.fld_K K (pv 3)) (pe_callTy (HP.tupOf_K K) (by rfl) (f_free_tuple T) (by decide +kernel) (pa_cons (pv 1) pa_nil)) (nomark _)) (pw_or1 (pw_and (pt_cmpR op_gt (pv 7) pe_int (nomark _)) (pw_and1 (pt_cmpR (HP.op_meEq (f_meth_Table___eq__ T) (f_rgt_Table T) (ok_Table_eq T) (hr.mono (by decide)) passL) (pv 8) (pv 3) (nomark _)))).pt))).pt (pss_one (ps_ret pe_bl)) pss_nil)
      (pss_cons (ps_if (pw_or (pt_cmpR (HP.neI_K K hr.units) (HP.fld_K K (HP.pe_methR0 (pv 8) (f_cls_Table T) (f_meth_Table_lean T) (ok_Table_lean T) (hr.mono (by decide)) passL)) (pe_callTy (HP.tupOf_K K) (by rfl) (f_free_tuple T) (by decide +kernel) (pa_cons (HP.pe_callR (ok__law_least T) (hr.mono (by decide)) (kp__law_least T) (by rfl) (f_glo__law_least T) passL (pa_cons (pe_op HP.repL_ (pv 1) (pv 7)) pa_nil)) pa_nil)) (nomark _)) (pw_or1 (pt_cmpR (HP.neI_K K hr.units) (HP.fld_K K (HP.pe_methR0 (pv 3) (f_cls_Table T) (f_meth_Table_lean T) (ok_Table_lean T) (hr.mono (by decide)) passL)) (pe_callTy (HP.tupOf_K K) (by rfl) (f_free_tuple T) (by decide +kernel) (pa_cons (HP.pe_callR (ok__law_least T) (hr.mono (by decide)) (kp__law_least T) (by rfl) (f_glo__law_least T) passL (pa_cons (pv 1) pa_nil)) pa_nil)) (nomark _)))).pt (pss_one (ps_ret pe_bl)) pss_nil)
      (pss_one (ps_ret (pe_and (pe_cmpR (HP.eqI_K K hr.units) (HP.fld_K K (HP.pe_methR0 (pv 5) (f_cls_Table T) (f_meth_Table_lean T) (ok_Table_lean T) (hr.mono (by decide)) passL)) (pe_callTy (HP.tupOf_K K) (by rfl) (f_free_tuple T) (by decide +kernel) (pa_cons (HP.pe_callR (ok__law_least T) (hr.mono (by decide)) (kp__law_least T) (by rfl) (f_glo__law_least T) passL (pa_cons (pe_op HP.catL_ (pv 1) (pv 2)) pa_nil)) pa_nil)) (nomark _)) (pe_and (pe_cmpR (HP.op_meEq (f_meth_Table___eq__ T) (f_rgt_Table T) (ok_Table_eq T) (hr.mono (by decide)) passL) (HP.pe_methR0 (pv 8) (f_cls_Table T) (f_meth_Table_lean T) (ok_Table_lean T) (hr.mono (by decide)) passL) (HP.pe_methR0 (pv 3) (f_cls_Table T) (f_meth_Table_lean T) (ok_Table_lean T) (hr.mono (by decide)) passL) (nomark _)) (pe_one (pe_cmpR (HP.eqI_K K hr.units) (HP.fld_K K (pv 3)) (pe_callTy (HP.tupOf_K K) (by rfl) (f_free_tuple T) (by decide +kernel) (pa_cons (pv 1) pa_nil)) (nomark _))))))))))))))), ?_⟩
  refine q_parT (K := K) (tab_table rfl ha of.ok) (tab_table rfl hb og.ok) fun x y H1 e1 tx ty => ?_
  refine q_parT (K := K) (tab_add (tab_var rfl tx) (tab_var rfl ty) (of.app og)) (tab_var rfl tx) fun u x' H2 e2 tu tx2 => ?_
  have ty2 := ty.ex e2
  obtain ⟨dx, pp, t', g1, _⟩ := tab_feeds tx2
  obtain ⟨dy, pp', t'', k1, _⟩ := tab_feeds ty2
  refine ⟨_, rfl, _, rfl, x', _, _, rfl, g1, ⟨y, _, _, rfl, k1⟩, x', y, fs, gs, rfl, tx2, ty2, of.app og, fun v H3 e3 tv => ?_⟩
  have e13 := e1.trans (e2.trans e3)
  have tx3 := tx.ex (e2.trans e3)
  have ty3 := ty2.ex e3
  have tu3 := tu.ex e3
  have ha3 := e13 _ _ ha
  have hb3 := e13 _ _ hb
  refine q_when (b := _) (et_or (et_test (ev_tuNe (tu_feeds T (tab_var rfl tu3)) (tu_ofL (ls_cat (ls_var rfl ha3) (ls_var rfl hb3) (by omega))))) fun _ => et_or (et_test (ev_tabNe (tab_var rfl tv) (tab_var rfl tu3))) fun _ =>
    et_or (et_test (ev_tuNe (tu_feeds T (tab_var rfl tx3)) (tu_ofL (ls_var rfl ha3)))) fun _ => et_test (ev_tuNe (tu_feeds T (tab_var rfl ty3)) (tu_ofL (ls_var rfl hb3)))) (fun h => absurd h (by simp)) fun _ H4 e4 => ?_
  have hp4 := hp.ex (e13.trans e4)
  have ha4 := e4 _ _ ha3
  have hd1 : (1 : Int) ≤ 50 / (fs.length : Int) := Int.le_ediv_of_mul_le (by omega) (by omega)
  have hd2 : 50 / (fs.length : Int) * (fs.length : Int) ≤ 50 := Int.ediv_mul_le _ (by omega)
  have hd3 : 50 / (fs.length : Int) ≤ 50 := Int.ediv_le_self _ (by omega)
  have hdb : (50 / (fs.length : Int)).natAbs < 2 ^ 200 := Nat.lt_of_le_of_lt (show (50 / (fs.length : Int)).natAbs ≤ 50 by omega) (by decide +kernel)
  refine ⟨_, rfl, _, rfl, a, _, rfl, HP.lenL (sq_of ha4), _, _, rfl, rfl, ⟨by omega, by omega⟩, p, c, _, k, rfl, by omega, hdb, hp4, by omega, fun d H5 d0 d1 e5 hp5 => ⟨_, _, rfl, rfl, ?_⟩⟩
  have tx5 := (tx3.ex e4).exb hp4 e5
  have tu5 := (tu3.ex e4).exb hp4 e5
  have ha5 := exb_ints hp4 e5 ha4
  have hb5 := exb_ints hp4 e5 (e4 _ _ hb3)
  have hn : (1 + d) * (fs.length : Int) ≤ 50 := Int.le_trans (Int.mul_le_mul_of_nonneg_right (by omega) (by omega)) hd2
  have hnN : (1 + d).toNat * fs.length ≤ 50 := by
    have : (((1 + d).toNat * fs.length : Nat) : Int) = (1 + d) * (fs.length : Int) := by
      rw [Int.natCast_mul, Int.toNat_of_nonneg (by omega)]
    omega
  have okN := okF_rep of.ok (n := (1 + d).toNat) (by omega) hnN
  refine q_tab (K := K) (tab_mul (tab_var rfl tx5) (ev_var rfl) (by omega) hn okN) fun m H6 e6 tm => ?_
  have tx6 := tx5.ex e6
  have ha6 := e6 _ _ ha5
  have neq : 1 < (1 + d) → ¬ (List.replicate (1 + d).toNat fs).flatten = fs := fun h1 h2 => by
    have := congrArg List.length h2
    rw [rep_len] at this
    have : 2 * fs.length ≤ (1 + d).toNat * fs.length := Nat.mul_le_mul_right _ (by omega)
    omega
  refine q_when (b := _) (et_or (et_test (ev_tuNe (tu_feeds T (tab_var rfl tm)) (tu_ofL (ls_rep (ls_var rfl ha6) (ev_var rfl) (by omega) (by omega) (by omega))))) fun _ => et_or (et_test (ev_tuNe (tu_feeds T (tab_var rfl tx6)) (tu_ofL (ls_var rfl ha6)))) fun _ =>
    et_and (et_test (ev_op (ev_var rfl) ev_c rv_I0)) fun _ => et_test (ev_tabEq (tab_var rfl tm) (tab_var rfl tx6))) (fun h => absurd h (by
      simp only [Bool.or_eq_true, Bool.and_eq_true, Bool.not_eq_true', decide_eq_true_eq, decide_eq_false_iff_not, not_true, false_or, not_and]
      exact neq)) fun _ H7 e7 => ?_
  have tm7 := tm.ex e7
  have tx7 := tx6.ex e7
  have ha7 := e7 _ _ ha6
  refine q_when (b := _) (et_or (et_test (ev_tuNe (tu_feeds T (tab_lean (tab_var rfl tm7))) (tu_ofL (ls_least (ls_rep (ls_var rfl ha7) (ev_var rfl) (by omega) (by omega) (by omega)) okN.1 (by have := okN.2.1; omega))))) fun _ =>
    et_test (ev_tuNe (tu_feeds T (tab_lean (tab_var rfl tx7))) (tu_ofL (ls_least (ls_var rfl ha7) f1 (by omega))))) (fun h => absurd h (by simp)) fun _ H8 e8 => ?_
  have e68 := e6.trans (e7.trans e8)
  refine s_ret (v := _) (ev_andV (ev_tuEq (tu_feeds T (tab_lean (tab_var rfl (tu5.ex e68)))) (tu_ofL (ls_least (ls_cat (ls_var rfl (e68 _ _ ha5)) (ls_var rfl (e68 _ _ hb5)) (by omega)) (of.app og).1 (by have := (of.app og).2.1; omega)))) fun _ =>
    ev_andV (ev_tabEq (tab_lean (tab_var rfl (tm7.ex e8))) (tab_lean (tab_var rfl (tx7.ex e8)))) fun _ => ev_tuEq (tu_feeds T (tab_var rfl (tx7.ex e8))) (tu_ofL (ls_var rfl (e8 _ _ ha7)))) fun H9 e9 => ?_
  have z := q H9 ((((HP.ExB.of (e13.trans e4)).trans e5).trans (.of e68)).trans (.of e9)) (hp5.ex (e68.trans e9))
  rw [least_rep f1 (by omega)]
  simpa using z
end
end HL
namespace HL
open PySem PySem.Spec PyProof.Rows L2 Evl SX
section
variable {K : PySem.W.Frag} {σ : L2.St} {H : Hp} {ta tb te tn tf : TE} {i j : Nat} {fs gs ns : List Int} {tz : TS} {D : Ends} {z : Str} {n : Int} {E : XK} {t : TA} {vs : List Nat}
theorem tab_turnedK (h : EvTab K te σ H fs) (hn : Ev tn σ H (.int n)) (h0 : 0 ≤ n) (h1 : n ≤ 1000000000000000000000000000000) :
    EvTab K (HP.tMethKw (HP.gA "Table" K) "turned" (fun vs zs H Q E => vs.length = 1 ∧ sp_Table_turned K (vs ++ zs) H Q E) E te (tCons tn tNil) 1) σ H (rotI fs (n % (fs.length : Int)).toNat) := fun H1 e Q q => h H1 e _ fun x H2 e2 t => by
  obtain ⟨dx, p, t', g1, g2, g3⟩ := tab_feeds t
  exact ⟨x, dx, _, rfl, g1, rfl, hn H2 (e.trans e2) _ fun H3 e3 => ⟨rfl, rfl, x, fs, n, rfl, t.ex e3, h0, h1, fun y H4 e4 t4 => q y H4 ((e2.trans e3).trans e4) t4⟩⟩
theorem ev_callT (h : EvTab K tf σ H fs) (hn : Ev tn σ H (.int n)) (h0 : 0 ≤ n) (h1 : n ≤ 1000000000000000000000000000000) : Ev (HP.tCallOk (HP.gA "Table" K) (sp_Table_call K) E tf (tCons tn tNil)) σ H (.int (callI fs n)) := fun H1 e Q q => h H1 e _ fun x H2 e2 t => ⟨x, rfl, hn H2 (e.trans e2) _ fun H3 e3 => by
  have t3 := t.ex e3
  obtain ⟨dx, p, t', g1, g2, g3⟩ := tab_feeds t3
  exact ⟨⟨dx, _, g1⟩, x, fs, n, rfl, t3, h0, h1, fun H4 e4 => q H4 ((e2.trans e3).trans e4)⟩⟩
theorem ls_lc {m : Nat} {f : Nat → Int} (h : EvA t σ H [.int (m : Int)]) (hm : m ≤ 40000) (hw : ∀ x, wipe ((wipe σ vs).set j (some x)) vs = wipe σ vs) (he : ∀ i, i < m → Ev te ((wipe σ vs).set j (some (.int (i : Int)))) H (.int (f i))) :
    EvLs (tLc (iRng1 t) (gName j) tYes te vs) σ H ((List.range m).map f) := fun H1 e Q q => h H1 e _ fun H2 e2 => by
  refine ⟨(m : Int), rfl, by omega, by omega, ?_⟩
  rw [Int.toNat_natCast]
  refine HP.lcPY walk_range (fun i => V.int (f i)) (by omega) (fun _ _ => trivial) (fun i x H3 H4 ky hi e3 y k1 => ?_) fun D H3 hD e3 h3 => q D H3 (e2.trans e3) (by rw [List.map_map]; exact h3)
  obtain ⟨rfl, hx⟩ := y
  rw [show x = V.int ((i : Nat) : Int) from hx.trans (congrArg V.int (by omega))]
  exact ⟨hw _, he i hi H4 ((e.trans e2).trans e3) ky fun H5 e5 => k1 H5 e5⟩
end
theorem big30 : (10 : Int) ^ (30 : Int).toNat = 1000000000000000000000000000000 := by decide +kernel
section
variable {P : Program} {w : World} {K : PySem.W.Frag} {mg : Str → Option Value} {base : Heap}
def sp_turned (K : PySem.W.Frag) : Sp := fun vs H Q _ => ∃ (p c a : Addr) (fs : List Int) (k : Nat), vs = [.ref p, .ref a] ∧ PenAt H p c k ∧ k ≤ 900000 ∧ H a = some (.lst (fs.map V.int)) ∧ okD fs ∧ ∀ H', HP.ExB p H H' → PenAt H' p c (k + 2) → Q (.bl true) H'
theorem ok__law_turned_right (T : Tx K mg) : FnR P w K mg base (L2.CX P w) 7 (HP.gA "_law_turned_right" K) (sp_turned K) := mk__law_turned_right (k := 6) T
  (fun vs H Q E h => by obtain ⟨p, c, a, fs, k, rfl, _⟩ := h; rfl) fun cdv A outer s H vs Q E hr h => by
  obtain ⟨p, c, a, fs, k, rfl, hp, hk, ha, of, q⟩ := h
  have f1 := of.1
  have f2 := of.2.1
  refine ⟨_, (pss_cons (ps_asg (pe_tup (pa_cons (HP.pe_callR (ok__law_table T) (hr.mono (by decide)) (kp__law_table T) (by rfl) (f_glo__law_table T) passL (pa_cons (pv 1) pa_nil)) (pa_cons (HP.pe_callR (ok__law_pick T) (hr.mono (by decide)) (kp__law_pick T) (by rfl) (f_glo__law_pick T) passL (pa_cons (pv 0) (pa_cons (pe_lst (pa_cons pe_int (pa_cons pe_int (pa_cons (pe_callB (HP.len_K K) (by rfl) (f_free_len T) PySem.boot_len (pa_cons (pv 1) pa_nil)) (pa_cons (pe_op op_sub (pe_callB (HP.len_K K) (by rfl) (f_free_len T) PySem.boot_len (pa_cons (pv 1) pa_nil)) pe_int) (pa_cons (HP.pe_callR (ok__law_draw T) (hr.mono (by decide)) (kp__law_draw T) (by rfl) (f_glo__law_draw T) passL (pa_cons (pv 0) (pa_cons (pe_op op_sub (pe_op op_pow pe_int pe_int) pe_int) pa_nil))) (pa_cons (pe_op op_pow pe_int pe_int) pa_nil))))))) pa_nil))) pa_nil))) (HP.tgt_K K (n := 2) rfl (pgs_cons (pg_name (i := 2) sc__law_turned_right.nd rfl (.inr rfl)) (pgs_cons (pg_name (i := 3) sc__law_turned_right.nd rfl (.inr rfl)) pgs_nil))))
      (pss_cons (ps_asg (pe_tup (pa_cons (pe_methR (pv 2) (f_cls_Table T) (f_meth_Table_turned T) (ok_Table_turned T) (hr.mono (by decide)) passL (pa_cons (pv 3) pa_nil)) (pa_cons (pe_op op_mod (pe_callTy call_int1 (by rfl) (f_free_int T) (by decide +kernel) (pa_cons (pv 3) pa_nil)) (pe_callB (HP.len_K K) (by rfl) (f_free_len T) PySem.boot_len (pa_cons (pv 1) pa_nil))) pa_nil))) (HP.tgt_K K (n := 2) rfl (pgs_cons (pg_name (i := 4) sc__law_turned_right.nd rfl (.inr rfl)) (pgs_cons (pg_name (i := 5) sc__law_turned_right.nd rfl (.inl rfl)) pgs_nil))))
      (pss_cons (ps_if (pw_or (pt_cmpR (HP.neI_K K hr.units) (HP.fld_K K (pv 4)) (pe_callTy (HP.tupOf_K K) (by rfl) (f_free_tuple T) (by decide +kernel) (pa_cons (pe_op HP.catL_ (pe_slice (HP.slL_K K) (pv 1) (po_some (pv 5)) po_none) (pe_slice (HP.slL_K K) (pv 1) po_none (po_some (pv 5)))) pa_nil)) (nomark _)) (pw_or (pt_cmpR (HP.op_meNe (f_meth_Table___eq__ T) (f_ne_Table T) (f_rgt_Table T) (ok_Table_eq T) (hr.mono (by decide)) passL) (HP.pe_methK (ks := ["n"]) (pv 2) (f_cls_Table T) (f_meth_Table_turned T) (okK_Table_turned_n T) (hr.mono (by decide)) passL (pk_cons (pv 3) pk_nil)) (pv 4) (nomark _)) (pw_or1 (pt_cmpR (HP.neI_K K hr.units) (HP.fld_K K (pv 2)) (pe_callTy (HP.tupOf_K K) (by rfl) (f_free_tuple T) (by decide +kernel) (pa_cons (pv 1) pa_nil)) (nomark _))))).pt (pss_one (ps_ret pe_bl)) pss_nil)
      (pss_one (ps_ret (pe_or (pe_cmpR op_eq (pv 3) (pe_op op_pow pe_int pe_int) (nomark _)) (pe_one (pe_cmpR (HP.eqI_K K hr.units) (pe_lc (own := [("k", 6)]) (tt := tYes) rfl sc__law_turned_right.nd (pi_range1 (by rfl) (f_free_range T) (pa_cons pe_int pa_nil)) (blkOk_by (N := N__law_turned_right) (sc := defScope s__law_turned_right) (by decide +kernel)) (fun _ _ _ _ _ => (pg_name (i := 6) sc__law_turned_right.nd rfl (.inl rfl))) (fun _ _ _ _ _ => pts_nil) (fun _ _ _ _ _ => (HP.callO_K (pv 4) (f_callo_Table T) (ok_Table_call T) (hr.mono (by decide)) passL (pa_cons (pv 6) pa_nil)))) (pe_lc (own := [("k", 6)]) (tt := tYes) rfl sc__law_turned_right.nd (pi_range1 (by rfl) (f_free_range T) (pa_cons pe_int pa_nil)) (blkOk_by (N := N__law_turned_right) (sc := defScope s__law_turned_right) (by decide +kernel)) (fun _ _ _ _ _ => (pg_name (i := 6) sc__law_turned_right.nd rfl (.inl rfl))) (fun _ _ _ _ _ => pts_nil) (fun _ _ _ _ _ => (pe_op op_sub (HP.callO_K (pv 2) (f_callo_Table T) (ok_Table_call T) (hr.mono (by decide)) passL (pa_cons (pe_op op_add (pv 3) (pv 6)) pa_nil)) (HP.callO_K (pv 2) (f_callo_Table T) (ok_Table_call T) (hr.mono (by decide)) passL (pa_cons (pv 3) pa_nil))))) (nomark _))))))))), ?_⟩
  refine ⟨_, rfl, a, fs, rfl, ha, of.ok, fun x H1 e1 tx => ?_⟩
  have ha1 := e1 _ _ ha
  have hp1 := hp.ex e1
  have cp : CPow 10 30 := ⟨by decide, by decide, by decide⟩
  have db : ((10 : Int) ^ (30 : Int).toNat - 9).natAbs < 2 ^ 200 := by decide +kernel
  refine ⟨_, rfl, _, rfl, a, _, rfl, HP.lenL (sq_of ha1), _, rfl, a, _, rfl, HP.lenL (sq_of ha1), _, _, rfl, rfl, _, rfl, _, _, rfl, rfl, cp, _, _, rfl, rfl, p, c, _, k, rfl, by decide +kernel, db, hp1, by omega, fun d H2 d0 d1 e2 hp2 => ⟨_, _, rfl, rfl, cp, ?_⟩⟩
  refine ⟨by show 6 ≤ sizeLine; decide, fun l hl => ⟨p, c, l, [0, 1, (fs.length : Int), (fs.length : Int) - 1, d, 10 ^ (30 : Int).toNat], k + 1, rfl, upd_same, by simp, by simp, hp2.ex (Ex.new hl), by omega, fun sh H30 hsh e30 hp30 => ?_⟩⟩
  rw [big30] at hsh d1
  have hs : 0 ≤ sh ∧ (sh = 1000000000000000000000000000000 ∨ sh ≤ 1000000000000000000000000000000 - 10) := by
    simp only [List.mem_cons, List.not_mem_nil, or_false] at hsh
    omega
  refine ⟨by show 2 ≤ sizeLine; decide, fun tt htt => ⟨tt, _, rfl, st_of upd_same, rfl, _, _, rfl, _, _, rfl, rfl, ?_⟩⟩
  have hp3 := hp30.ex (Ex.new (o := .tup [.ref x, .int sh]) htt)
  have e3 := e30.trans (.of (Ex.new (o := .tup [.ref x, .int sh]) htt))
  revert hp3 e3
  generalize upd H30 tt (.tup [.ref x, .int sh]) = H3
  intro hp3 e3
  have bl := HP.ExB.of (p := p) (Ex.new (o := .lst [V.int 0, V.int 1, V.int (fs.length : Int), V.int ((fs.length : Int) - 1), V.int d, V.int (10 ^ (30 : Int).toNat)]) hl)
  have b13 : HP.ExB p H1 H3 := (e2.trans bl).trans e3
  have tx3 : TabAt K H3 x fs := tx.exb hp1 b13
  have ha3 := exb_ints hp1 b13 ha1
  have hn0 : (0 : Int) < (fs.length : Int) := by omega
  have m0 := Int.emod_nonneg sh (show (fs.length : Int) ≠ 0 by omega)
  obtain ⟨dx, pp, t', g1, g2, g3⟩ := tab_feeds tx3
  refine ⟨_, rfl, x, dx, _, rfl, g1, rfl, _, rfl, x, fs, sh, rfl, tx3, hs.1, by omega, fun y H4 e4 ty => ?_⟩
  refine ⟨_, rfl, .inl ⟨_, rfl, _, rfl, a, _, rfl, HP.lenL (sq_of (e4 _ _ ha3)), _, _, rfl, rfl, hn0, ?_⟩⟩
  refine ⟨by show 2 ≤ sizeLine; decide, fun t2 ht2 => ⟨t2, _, rfl, st_of upd_same, rfl, _, _, rfl, _, _, rfl, rfl, ?_⟩⟩
  have e5 := Ex.new (o := .tup [.ref y, .int (sh % (fs.length : Int))]) ht2
  revert e5
  generalize upd H4 t2 (.tup [.ref y, .int (sh % (fs.length : Int))]) = H5
  intro e5
  have tx5 := tx3.ex (e4.trans e5)
  have ty5 := ty.ex e5
  have ha5 := e5 _ _ (e4 _ _ ha3)
  have eat : V.int (sh % (fs.length : Int)) = V.int (((sh % (fs.length : Int)).toNat : Nat) : Int) := by rw [Int.toNat_of_nonneg m0]
  dsimp only
  refine q_when (b := _) (et_or (et_test (ev_tuNe (tu_feeds T (tab_var rfl ty5)) (tu_ofL (ls_cat (ls_from (ls_var rfl ha5) (ev_is (ev_var rfl) eat)) (ls_to (ls_var rfl ha5) (ev_is (ev_var rfl) eat)) (by rw [List.length_drop, List.length_take]; omega))))) fun _ =>
    et_or (et_test (ev_tabNe (tab_turnedK (tab_var rfl tx5) (ev_var rfl) hs.1 (by omega)) (tab_var rfl ty5))) fun _ => et_test (ev_tuNe (tu_feeds T (tab_var rfl tx5)) (tu_ofL (ls_var rfl ha5)))) (fun h => absurd h (by simp [rotI])) fun _ H6 e6 => ?_
  have tx6 := tx5.ex e6
  have ty6 := ty5.ex e6
  refine s_ret (v := _) (ev_orV (ev_op (ev_var rfl) (ev_op ev_c ev_c (rv_I cp)) (rv_eq rfl)) fun hne => ev_lsEq (ls_lc (m := 5) (f := fun i => callI (rotI fs (sh % (fs.length : Int)).toNat) (i : Int)) (ea_cons ev_c ea_nil) (by decide) (fun _ => rfl) fun i hi => ev_callT (tab_var rfl ty6) (ev_var rfl) (by omega) (by omega))
    (ls_lc (m := 5) (f := fun i => callI fs (sh + (i : Int)) - callI fs sh) (ea_cons ev_c ea_nil) (by decide) (fun _ => rfl) fun i hi => ?_)) fun H7 e7 => ?_
  · have hne' : sh ≠ 1000000000000000000000000000000 := fun h => by
      rw [big30, h] at hne
      simp at hne
    exact ev_op (ev_callT (tab_var rfl tx6) (ev_op (ev_var rfl) (ev_var rfl) rv_I0) (by omega) (by omega)) (ev_callT (tab_var rfl tx6) (ev_var rfl) hs.1 (by omega)) rv_I0
  · have ef : (fun i : Nat => callI (rotI fs (sh % (fs.length : Int)).toNat) (i : Int)) = fun i : Nat => callI fs (sh + (i : Int)) - callI fs sh := by
      funext i
      obtain ⟨s, rfl⟩ : ∃ s : Nat, sh = (s : Int) := ⟨sh.toNat, (Int.toNat_of_nonneg hs.1).symm⟩
      rw [← Int.natCast_emod, Int.toNat_natCast, ← Int.natCast_add, callI_nat, callI_nat, callI_nat, call_rot f1]
    rw [ef]
    have z := q H7 ((HP.ExB.of e1).trans (b13.trans (.of ((e4.trans e5).trans (e6.trans e7))))) (hp3.ex ((e4.trans e5).trans (e6.trans e7)))
    simpa using z
end
end HL
namespace HL
open PySem PySem.Spec PyProof.Rows L2 Evl SX
section
variable {K : PySem.W.Frag} {σ : L2.St} {H : Hp} {ta tb te tn tf : TE} {i j : Nat} {fs gs ns : List Int} {E : XK} {y z : List Nat} {k : Nat}
theorem gN' {i : Nat} {v : V} {σ : L2.St} {H : Hp} {Q : L2.St → Hp → Prop} : gName i v σ H Q = Q (σ.set i (some v)) H := rfl
theorem lc_ixcat {wi : TI} {g : TG} {tt : TT} {vs : List Nat} {r : R2} {rest : TS} {D : Ends} {tc : TE} (h : wi σ H fun J H1 => HP.LcK J g tt te vs σ H1 fun x H2 => tb σ H2 fun y H3 => HP.rCatL x y H3 fun z H4 => tc σ H4 fun i H5 => r z i H5 fun v H6 => rest D (σ.set j (some v)) H6) :
    tSeq (tAsg (tOp r (tOp HP.rCatL (tLc wi g tt te vs) tb) tc) (gName j)) rest D σ H := h
theorem tab_ringK (h : Ev te σ H (.str (S z))) (hm : marked z = true) (l : okF (gapsI z)) :
    EvTab K (HP.tStatK (HP.gA "Table" K) (fun vs zs H Q E => vs.length = 0 ∧ sp_Table_of_ring K (vs ++ zs) H Q E) E (tC (.ref (HP.gA "Table" K))) (tCons te tNil) 1) σ H (gapsI z) := fun H1 e Q q =>
  ⟨rfl, h H1 e _ fun H2 e2 => ⟨rfl, rfl, z, rfl, hm, l, fun x H3 e3 t => q x H3 (e2.trans e3) t⟩⟩
theorem ev_sto (h : Ev te σ H (.str (S z))) (hn : Ev tn σ H (.int (k : Int))) (l : z.length ≤ 100000) : Ev (tSl rSlS te tNoPart (tPart tn)) σ H (.str (S (z.take k))) := fun H1 e Q q => h H1 e _ fun H2 e2 => hn H2 (e.trans e2) _ fun H3 e3 =>
  ⟨_, rfl, S z, rfl, sz_of (by rw [S_len]; exact l), by rw [HP.cut_S_to]; exact q H3 (e2.trans e3)⟩
theorem ev_sfrom (h : Ev te σ H (.str (S z))) (hn : Ev tn σ H (.int (k : Int))) (l : z.length ≤ 100000) : Ev (tSl rSlS te (tPart tn) tNoPart) σ H (.str (S (z.drop k))) := fun H1 e Q q => h H1 e _ fun H2 e2 => hn H2 (e.trans e2) _ fun H3 e3 =>
  ⟨_, rfl, S z, rfl, sz_of (by rw [S_len]; exact l), by rw [HP.cut_S_from]; exact q H3 (e2.trans e3)⟩
theorem ev_sadd (h : Ev ta σ H (.str (S y))) (h' : Ev tb σ H (.str (S z))) (l : y.length + z.length ≤ 100000) : Ev (tOp (fun x y H Q => ∃ i j, x = .str i ∧ y = .str j ∧ i.length + j.length ≤ sizeLine ∧ Q (.str (i ++ j)) H) ta tb) σ H (.str (S (y ++ z))) := fun H1 e Q q =>
  h H1 e _ fun H2 e2 => h' H2 (e.trans e2) _ fun H3 e3 => ⟨S y, S z, rfl, rfl, sz_of (by rw [S_len, S_len]; exact l), by rw [S_cat]; exact q H3 (e2.trans e3)⟩
end
theorem sing_flat : ∀ zs : List Nat, (zs.map fun c => [c]).flatten = zs
  | [] => rfl
  | c :: zs => by rw [List.map_cons, List.flatten_cons, sing_flat zs]; rfl
theorem at_law {fs : List Int} (b : Int) : atI ((List.range fs.length).filterMap (fun k => if b ≤ (fs.take k).sum then some (V.int ((k : Nat) : Int)) else none) ++ [V.int 0]) 0 = some (V.int ((atI' fs b : Nat) : Int)) := by
  refine atI_nat (j := 0) ?_
  rw [← List.head?_eq_getElem?, List.head?_append, List.head?_filterMap]
  unfold atI'
  cases e : (List.range fs.length).find? (fun k => decide (b ≤ (fs.take k).sum)) with
  | none =>
    have : (List.range fs.length).findSome? (fun k => if b ≤ (fs.take k).sum then some (V.int ((k : Nat) : Int)) else none) = none := by
      rw [List.findSome?_eq_none_iff]
      intro x hx
      rw [List.find?_eq_none] at e
      rw [if_neg (by simpa using e x hx)]
    rw [this]
    rfl
  | some j =>
    have : (List.range fs.length).findSome? (fun k => if b ≤ (fs.take k).sum then some (V.int ((k : Nat) : Int)) else none) = some (V.int ((j : Nat) : Int)) := by
      rw [List.findSome?_eq_some_iff]
      rw [List.find?_eq_some_iff_append] at e
      obtain ⟨g1, l1, l2, e1, g2⟩ := e
      refine ⟨l1, j, l2, e1, by rw [if_pos (of_decide_eq_true g1)], fun x hx => ?_⟩
      have := g2 x hx
      rw [if_neg (by simpa using this)]
    rw [this]
    rfl
theorem marked_drawn {zs : List Nat} (h : ∀ c ∈ zs, c ∈ [48, 49]) (hl : zs.length ≤ 30) {d : Nat} (hd : d ≤ 30) : marked ((zs.take d ++ [49] ++ zs).take 50) = true ∧ ((zs.take d ++ [49] ++ zs).take 50).length ≤ 50 := by
  have lt : (zs.take d).length ≤ 30 := by rw [List.length_take]; omega
  have hl2 : (zs.take d ++ [49] ++ zs).length ≤ 61 := by
    rw [List.length_append, List.length_append, List.length_singleton]
    omega
  have l50 : ((zs.take d ++ [49] ++ zs).take 50).length ≤ 50 := by rw [List.length_take]; omega
  refine ⟨?_, l50⟩
  have h49 : 49 ∈ (zs.take d ++ [49] ++ zs).take 50 := by
    rw [List.append_assoc, List.take_append]
    refine List.mem_append_right _ ?_
    rw [List.take_append]
    refine List.mem_append_left _ ?_
    rw [show 50 - (zs.take d).length = (49 - (zs.take d).length) + 1 by omega, List.take_succ_cons]
    exact List.mem_cons_self ..
  unfold marked
  simp only [Bool.and_eq_true, decide_eq_true_eq, List.all_eq_true]
  refine ⟨⟨List.length_pos_iff.mpr fun e => ?_, by omega⟩, h49, fun c hc => ?_⟩
  · rw [e] at h49
    simp at h49
  · have hc' := List.mem_of_mem_take hc
    rw [List.mem_append, List.mem_append] at hc'
    rcases hc' with (hc' | hc') | hc'
    · exact h c (List.mem_of_mem_take hc')
    · rw [List.mem_singleton.mp hc']
      simp
    · exact h c hc'
section
variable {P : Program} {w : World} {K : PySem.W.Frag} {mg : Str → Option Value} {base : Heap}
def sp_rings (K : PySem.W.Frag) : Sp := fun vs H Q _ => ∃ (p c a : Addr) (fs : List Int) (k : Nat), vs = [.ref p, .ref a] ∧ PenAt H p c k ∧ k ≤ 900000 ∧ H a = some (.lst (fs.map V.int)) ∧ okD fs ∧ ∀ H', HP.ExB p H H' → PenAt H' p c (k + 40) → Q (.bl true) H'
theorem ok__law_rings_right (T : Tx K mg) : FnR P w K mg base (L2.CX P w) 7 (HP.gA "_law_rings_right" K) (sp_rings K) := mk__law_rings_right (k := 6) T
  (fun vs H Q E h => by obtain ⟨p, c, a, fs, k, rfl, _⟩ := h; rfl) fun cdv A outer s H vs Q E hr h => by
  obtain ⟨p, c, a, fs, k, rfl, hp, hk, ha, of, q⟩ := h
  have f1 := of.1
  have f2 := of.2.1
  have fne : fs ≠ [] := fun e => by
    rw [e] at f1
    simp at f1
  have fpos : ∀ g ∈ fs, 1 ≤ g := fun g hg => (of.2.2 g hg).1
  have sp := sum_pos f1 of.2.2
  have rl := ring_len fpos
  have hm := marked_ring f1 fpos (by omega)
  have hgap := ring_gaps fne fpos
  refine ⟨_, (pss_cons (ps_asg (pe_tup (pa_cons (HP.pe_callR (ok__law_table T) (hr.mono (by decide)) (kp__law_table T) (by rfl) (f_glo__law_table T) passL (pa_cons (pv 1) pa_nil)) (pa_cons (HP.pe_callR (ok__law_places T) (hr.mono (by decide)) (kp__law_places T) (by rfl) (f_glo__law_places T) passL (pa_cons (pv 1) pa_nil)) pa_nil))) (HP.tgt_K K (n := 2) rfl (pgs_cons (pg_name (i := 2) sc__law_rings_right.nd rfl (.inl rfl)) (pgs_cons (pg_name (i := 3) sc__law_rings_right.nd rfl (.inr rfl)) pgs_nil))))
      (pss_cons (ps_set (i := 4) sc__law_rings_right.nd rfl (.inl rfl) (HP.join_K K pe_str (pe_lc (own := [("feed", 9)]) (tt := tYes) rfl sc__law_rings_right.nd (HP.iterL_K K (pv 1)) (blkOk_by (N := N__law_rings_right) (sc := defScope s__law_rings_right) (by decide +kernel)) (fun _ _ _ _ _ => (pg_name (i := 9) sc__law_rings_right.nd rfl (.inl rfl))) (fun _ _ _ _ _ => pts_nil) (fun _ _ _ _ _ => (pe_op op_add_str pe_str (pe_op HP.op_mulS pe_str (pe_op op_sub (pv 9) pe_int)))))))
      (pss_cons (ps_if (pw_or (pt_cmpR op_ne (HP.pe_methR0 (pv 2) (f_cls_Table T) (f_meth_Table_as_ring T) (ok_Table_as_ring T) (hr.mono (by decide)) passL) (pv 4) (nomark _)) (pw_or (pt_cmpR (HP.op_meNe (f_meth_Table___eq__ T) (f_ne_Table T) (f_rgt_Table T) (ok_Table_eq T) (hr.mono (by decide)) passL) (HP.pe_stat (pe_glob (v := V.ref (HP.gA "Table" K)) (by rfl) (f_glo_Table T) rfl) (f_smet_Table_of_ring T) (ok_Table_of_ring T) (hr.mono (by decide)) passL (pa_cons (pv 4) pa_nil)) (pv 2) (nomark _)) (pw_or1 (pt_cmpR op_ne (HP.pe_methR0 (HP.pe_statK (ks := ["ring"]) (pe_glob (v := V.ref (HP.gA "Table" K)) (by rfl) (f_glo_Table T) rfl) (f_smet_Table_of_ring T) (okK_Table_of_ring_ring T) (hr.mono (by decide)) passL (pk_cons (pv 4) pk_nil)) (f_cls_Table T) (f_meth_Table_as_ring T) (ok_Table_as_ring T) (hr.mono (by decide)) passL) (pv 4) (nomark _))))).pt (pss_one (ps_ret pe_bl)) pss_nil)
      (pss_cons (ps_set (i := 5) sc__law_rings_right.nd rfl (.inr rfl) (HP.pe_callR (ok__law_draw T) (hr.mono (by decide)) (kp__law_draw T) (by rfl) (f_glo__law_draw T) passL (pa_cons (pv 0) (pa_cons (pe_callB call_len_str (by rfl) (f_free_len T) PySem.boot_len (pa_cons (pv 4) pa_nil)) pa_nil))))
      (pss_cons (ps_set (i := 6) sc__law_rings_right.nd rfl (.inl rfl) (pe_ix (HP.ixL_K K) (pe_op HP.catL_ (pe_lc (own := [("k", 10)])  rfl sc__law_rings_right.nd (pi_range1 (by rfl) (f_free_range T) (pa_cons (pe_callB (HP.len_K K) (by rfl) (f_free_len T) PySem.boot_len (pa_cons (pv 1) pa_nil)) pa_nil)) (blkOk_by (N := N__law_rings_right) (sc := defScope s__law_rings_right) (by decide +kernel)) (fun _ _ _ _ _ => (pg_name (i := 10) sc__law_rings_right.nd rfl (.inl rfl))) (fun _ _ _ _ _ => pts_one (pt_cmpR op_ge (pe_ix (HP.ixL_K K) (pv 3) (pv 10) (fun _ _ => rfl)) (pv 5) (nomark _))) (fun _ _ _ _ _ => (pv 10))) (pe_lst (pa_cons pe_int pa_nil))) pe_int (fun _ _ => rfl)))
      (pss_cons (ps_if (pt_cmpR (HP.op_meNe (f_meth_Table___eq__ T) (f_ne_Table T) (f_rgt_Table T) (ok_Table_eq T) (hr.mono (by decide)) passL) (HP.pe_stat (pe_glob (v := V.ref (HP.gA "Table" K)) (by rfl) (f_glo_Table T) rfl) (f_smet_Table_of_ring T) (ok_Table_of_ring T) (hr.mono (by decide)) passL (pa_cons (pe_op op_add_str (pe_slice sl_str (pv 4) (po_some (pv 5)) po_none) (pe_slice sl_str (pv 4) po_none (po_some (pv 5)))) pa_nil)) (pe_methR (pv 2) (f_cls_Table T) (f_meth_Table_turned T) (ok_Table_turned T) (hr.mono (by decide)) passL (pa_cons (pv 6) pa_nil)) (nomark _)) (pss_one (ps_ret pe_bl)) pss_nil)
      (pss_cons (ps_set (i := 7) sc__law_rings_right.nd rfl (.inr rfl) (HP.pe_callR (ok__law_pick T) (hr.mono (by decide)) (kp__law_pick T) (by rfl) (f_glo__law_pick T) passL (pa_cons (pv 0) (pa_cons (pe_lst (pa_cons pe_int (pa_cons pe_int (pa_cons pe_int pa_nil)))) pa_nil))))
      (pss_cons (ps_set (i := 8) sc__law_rings_right.nd rfl (.inl rfl) (HP.join_K K pe_str (pe_lc (own := [("k", 10)]) (tt := tYes) rfl sc__law_rings_right.nd (pi_range1 (by rfl) (f_free_range T) (pa_cons (HP.pe_callR (ok__law_draw T) (hr.mono (by decide)) (kp__law_draw T) (by rfl) (f_glo__law_draw T) passL (pa_cons (pv 0) (pa_cons pe_int pa_nil))) pa_nil)) (blkOk_by (N := N__law_rings_right) (sc := defScope s__law_rings_right) (by decide +kernel)) (fun _ _ _ _ _ => (pg_name (i := 10) sc__law_rings_right.nd rfl (.inl rfl))) (fun _ _ _ _ _ => pts_nil) (fun _ _ _ _ _ => (pe_ifExp (pt_cmpR op_eq (HP.pe_callR (ok__law_draw T) (hr.mono (by decide)) (kp__law_draw T) (by rfl) (f_glo__law_draw T) passL (pa_cons (pv 0) (pa_cons (pv 7) pa_nil))) pe_int (nomark _)) pe_str pe_str)))))
      (pss_cons (ps_set (i := 8) sc__law_rings_right.nd rfl (.inl rfl) (pe_op op_add_str (pe_op op_add_str (pe_slice sl_str (pv 8) po_none (po_some (HP.pe_callR (ok__law_draw T) (hr.mono (by decide)) (kp__law_draw T) (by rfl) (f_glo__law_draw T) passL (pa_cons (pv 0) (pa_cons pe_int pa_nil))))) pe_str) (pv 8)))
      (pss_cons (ps_set (i := 8) sc__law_rings_right.nd rfl (.inl rfl) (pe_slice sl_str (pv 8) po_none (po_some pe_int)))
      (pss_one (ps_ret (pe_cmpR (HP.eqI_K K hr.units) (HP.fld_K K (HP.pe_stat (pe_glob (v := V.ref (HP.gA "Table" K)) (by rfl) (f_glo_Table T) rfl) (f_smet_Table_of_ring T) (ok_Table_of_ring T) (hr.mono (by decide)) passL (pa_cons (pv 8) pa_nil))) (pe_callTy (HP.tupOf_K K) (by rfl) (f_free_tuple T) (by decide +kernel) (pa_cons (HP.pe_callR (ok__law_gaps T) (hr.mono (by decide)) (kp__law_gaps T) (by rfl) (f_glo__law_gaps T) passL (pa_cons (pv 8) pa_nil)) pa_nil)) (nomark _)))))))))))))), ?_⟩
  refine ⟨_, rfl, a, fs, rfl, ha, of.ok, fun x H1 e1 tx => ?_⟩
  refine ⟨_, rfl, a, fs, rfl, e1 _ _ ha, f1, by omega, fun pl H2 e2 hpl => ⟨by show 2 ≤ sizeLine; decide, fun tt htt => ⟨tt, _, rfl, st_of upd_same, rfl, _, _, rfl, _, _, rfl, rfl, ?_⟩⟩⟩
  have e3 := Ex.new (o := .tup [.ref x, .ref pl]) htt
  revert e3
  generalize upd H2 tt (.tup [.ref x, .ref pl]) = H3
  intro e3
  have e13 := e1.trans (e2.trans e3)
  have ha3 := e13 _ _ ha
  have hpl3 := e3 _ _ hpl
  have tx3 := tx.ex (e2.trans e3)
  refine ⟨⟨_, rfl⟩, HP.lc_of ⟨_, rfl, a, rfl, ⟨_, sq_of ha3⟩, HP.lcPY walk_list (fun i => V.str (S (49 :: List.replicate (fs.getD i 0 - 1).toNat 48))) (by rw [List.length_map]; omega) (fun H1 e => ex_l e (sq_of ha3)) (fun i x H1 H2 ky hi e y k1 => ?_) fun D H4 hD e4 h4 => ?_⟩⟩
  · obtain ⟨rfl, hx⟩ := y
    obtain ⟨f, hf, rfl, _⟩ := HP.get_map_int hx
    have bf := of.2.2 f (List.mem_of_getElem? hf)
    rw [List.getD_eq_getElem?_getD, hf] at k1
    refine ⟨rfl, _, rfl, _, _, rfl, rfl, S [48], f - 1, rfl, rfl, by omega, by omega, by decide, _, _, rfl, rfl, ?_, ?_⟩
    · rw [lit1, HP.rep_S, S_len, S_len, List.length_flatten]
      simp
      exact sz_of (by omega)
    · rw [lit1, HP.rep_S, S_cat]
      have er : (List.replicate (f - 1).toNat [48]).flatten = List.replicate (f - 1).toNat 48 := by simp
      rw [er]
      exact k1 _ (Ex.refl _)
  rw [List.length_map, HP.rg_map fs (fun f => V.str (S (49 :: List.replicate (f - 1).toNat 48))) _ fun i x hx => by rw [List.getD_eq_getElem?_getD, hx]; rfl] at h4
  refine ⟨_, D, (fs.map fun f => 49 :: List.replicate (f - 1).toNat 48).map S, rfl, rfl, .inl (sq_of (by rw [List.map_map, List.map_map]; exact h4)), ?_, ?_⟩
  · rw [lit, S_len, HP.sum_lens]
    show (ringI fs).length + _ ≤ _
    simp only [List.length_nil, Nat.mul_zero, Nat.add_zero]
    omega
  rw [lit, HP.join_nil]
  rw [show (List.map (fun f => 49 :: List.replicate (f - 1).toNat 48) fs).flatten = ringI fs from rfl]
  dsimp only [gN']
  have e14 := e13.trans e4
  have ha4 := e4 _ _ ha3
  have hpl4 := e4 _ _ hpl3
  have tx4 := tx3.ex e4
  refine q_when (b := _) (et_or (et_test (ev_op (ev_ring (tab_var rfl tx4)) (ev_var rfl) (rv_ne rfl))) fun _ => et_or (et_test (ev_tabNe (tab_ring (ev_var rfl) hm (by rw [hgap]; exact of.ok)) (tab_var rfl tx4))) fun _ =>
    et_test (ev_op (ev_ring (tab_ringK (ev_var rfl) hm (by rw [hgap]; exact of.ok))) (ev_var rfl) (rv_ne rfl))) (fun h => absurd h (by simp [hgap])) fun _ H5 e5 => ?_
  have hp5 := hp.ex (e14.trans e5)
  have slen : ((S (ringI fs)).length : Int) = fs.sum := by rw [S_len]; exact rl
  have lb : ((S (ringI fs)).length : Int).natAbs < 2 ^ 200 := Nat.lt_of_le_of_lt (show ((S (ringI fs)).length : Int).natAbs ≤ 2000 by omega) (by decide +kernel)
  refine ⟨_, rfl, _, rfl, S (ringI fs), rfl, sz_of (by rw [S_len]; omega), p, c, _, k, rfl, by omega, lb, hp5, by omega, fun d H6 d0 d1 e6 hp6 => ?_⟩
  obtain ⟨b, rfl⟩ : ∃ b : Nat, d = (b : Int) := ⟨d.toNat, (Int.toNat_of_nonneg d0).symm⟩
  rw [slen] at d1
  have tx6 := (tx4.ex e5).exb hp5 e6
  have ha6 := exb_ints hp5 e6 (e5 _ _ ha4)
  have hpl6 := exb_ints hp5 e6 (e5 _ _ hpl4)
  dsimp only [gN']
  refine lc_ixcat ?_
  refine ⟨_, rfl, a, _, rfl, HP.lenL (sq_of ha6), _, rfl, by omega, by omega, ?_⟩
  rw [Int.toNat_natCast]
  refine HP.lcP walk_range (fun i => if (b : Int) ≤ (fs.take i).sum then some (V.int ((i : Nat) : Int)) else none) (by omega) (fun _ _ => trivial) (fun i x H7 H8 ky k0 hi e7 y k1 k2 => ?_) fun D7 H7 hD7 e7 h7 => ?_
  · obtain ⟨rfl, hx⟩ := y
    rw [show x = V.int ((i : Nat) : Int) from hx.trans (congrArg V.int (by omega))]
    refine ⟨rfl, _, rfl, _, rfl, pl, _, _, _, rfl, rfl, sq_of (e7 _ _ hpl6), HP.at_int (placesI_get hi), _, rfl, _, _, rfl, rfl, _, rfl, ?_⟩
    by_cases cb : (b : Int) ≤ (fs.take i).sum
    · rw [if_pos cb] at k1
      exact HP.ifT (decide_eq_true cb) ⟨_, rfl, k1 _ _ rfl (Ex.refl _)⟩
    · rw [if_neg cb] at k2
      exact HP.ifF (decide_eq_false cb) (k2 _ rfl (Ex.refl _))
  refine ⟨by show 1 ≤ sizeLine; decide, fun l hl => ⟨D7, l, _, _, rfl, rfl, Ex.new hl _ _ h7, upd_same, ?_, fun r H9 hr9 e9 h9 => ⟨r, _, 0, _, rfl, rfl, sq_of h9, at_law _, ?_⟩⟩⟩
  · have := List.length_filterMap_le (fun i => if (b : Int) ≤ (fs.take i).sum then some (V.int ((i : Nat) : Int)) else none) (List.range fs.length)
    rw [List.length_range] at this
    simp only [List.length_singleton]
    omega
  have e69 := e7.trans ((Ex.new (o := .lst [V.int 0]) hl).trans e9)
  have tx9 := tx6.ex e69
  obtain ⟨ra, rb⟩ := rot_at f1 fpos d1
  have lr2 : (ringI fs).length ≤ 2000 := by omega
  have emod : (((atI' fs (b : Int) : Nat) : Int) % (fs.length : Int)).toNat = atI' fs (b : Int) := by rw [← Int.natCast_emod, Int.toNat_natCast, Nat.mod_eq_of_lt rb]
  dsimp only [gN']
  refine q_when (b := _) (et_test (ev_tabNe (tab_ring (ev_sadd (ev_sfrom (ev_var rfl) (ev_var rfl) (by omega)) (ev_sto (ev_var rfl) (ev_var rfl) (by omega)) (by rw [List.length_drop, List.length_take]; omega)) (marked_rot hm b) (by rw [ra]; exact ok_rot of.ok _))
    (tab_turned (tab_var rfl tx9) (ev_var rfl) (by omega) (by omega)))) (fun h => absurd h (by simp [ra, emod])) fun _ H10 e10 => ?_
  have e610 := e69.trans e10
  have hp10 := hp6.ex e610
  refine ⟨_, rfl, by show 3 ≤ sizeLine; decide, fun l2 hl2 => ⟨p, c, l2, [1, 2, 6], k + 1, rfl, upd_same, by decide, by decide, hp10.ex (Ex.new hl2), by omega, fun odds H11 ho e11 hp11 => ?_⟩⟩
  have o1 : 1 ≤ odds ∧ odds ≤ 6 := by
    simp only [List.mem_cons, List.not_mem_nil, or_false] at ho
    omega
  have ob : odds.natAbs < 2 ^ 200 := Nat.lt_of_le_of_lt (show odds.natAbs ≤ 6 by omega) (by decide +kernel)
  have b11 : HP.ExB p H H11 := (((HP.ExB.of (e14.trans e5)).trans e6).trans (.of (e610.trans (Ex.new hl2)))).trans e11
  dsimp only
  refine ⟨⟨_, rfl⟩, ?_⟩
  dsimp only
  refine HP.lc_of ⟨_, rfl, p, c, 30, k + 2, rfl, by decide, by decide, hp11, by omega, fun m H12 m0 m1 e12 hp12 => ⟨m, rfl, by omega, by omega, ?_⟩⟩
  refine HP.lcIY walk_range (fun i acc H' => HP.ExB p H12 H' ∧ PenAt H' p c (k + 3 + i) ∧ ∃ zs : List Nat, acc = zs.map (fun c => V.str (S [c])) ∧ zs.length = i ∧ ∀ c ∈ zs, c ∈ [48, 49]) (by omega)
    (fun D v hD => ⟨exb_fresh (.refl _ _) hD, hp12.fresh hp12 hD, [], rfl, rfl, by simp⟩) (fun _ _ _ _ => trivial) (fun i acc H' D v hD z => ⟨exb_fresh z.1 hD, z.2.1.fresh hp12 hD, z.2.2⟩) (fun i acc x H13 H14 ky hi z y k1 => ?_) fun D12 H13 acc hD12 z h13 _ => ?_
  · obtain ⟨b13, hp13, zs, rfl, hl, hb⟩ := z
    obtain ⟨rfl, rfl⟩ := y
    obtain ⟨o, ho⟩ := hp12.some
    refine ⟨rfl, _, rfl, _, rfl, p, c, odds, _, rfl, by omega, ob, hp13, by omega, fun d H15 d0 d1 e15 hp15 => ⟨rfl, _, rfl, ?_⟩⟩
    have fin : ∀ cc : Nat, cc ∈ [48, 49] → ky (V.str (S [cc])) H15 := fun cc hcc => k1 _ H15 (HP.Kn.ofB ho e15) ⟨b13.trans e15, hp15, zs ++ [cc], by rw [List.map_append]; rfl, by rw [List.length_append, hl]; rfl, fun f hf => by
      rcases List.mem_append.mp hf with hf | hf
      · exact hb f hf
      · rw [List.mem_singleton.mp hf]
        exact hcc⟩
    by_cases cd : d = 0
    · exact HP.ifT (HP.deq_int cd) (fin 49 (by simp))
    · exact HP.ifF (HP.dne_int cd) (fin 48 (by simp))
  obtain ⟨b13, hp13, zs, rfl, hzl, hzb⟩ := z
  have hz30 : zs.length ≤ 30 := by omega
  have hfl := sing_flat zs
  refine ⟨_, D12, (zs.map fun c => [c]).map S, rfl, rfl, .inl (sq_of (by rw [List.map_map, List.map_map]; exact h13)), ?_, ?_⟩
  · rw [S_len, HP.sum_lens, hfl]
    simp only [List.length_nil, Nat.mul_zero, Nat.add_zero]
    omega
  rw [HP.join_nil, hfl]
  refine ⟨_, rfl, _, rfl, p, c, 30, _, rfl, by decide, by decide, hp13, by omega, fun d2 H14 d20 d21 e14' hp14 => ?_⟩
  obtain ⟨d2, rfl⟩ : ∃ b : Nat, d2 = (b : Int) := ⟨d2.toNat, (Int.toNat_of_nonneg d20).symm⟩
  refine ⟨_, rfl, S zs, rfl, sz_of (by rw [S_len]; omega), S (zs.take d2), S [49], ?_, rfl, by rw [S_len, S_len, List.length_take, List.length_singleton]; exact sz_of (by omega), _, rfl, _, S zs, rfl, rfl, by rw [S_cat, S_len, S_len, List.length_append, List.length_take, List.length_singleton]; exact sz_of (by omega), ?_⟩
  · rw [HP.cut_S_to]
  rw [S_cat, S_cat]
  obtain ⟨mk, ml⟩ := marked_drawn hzb hz30 (d := d2) (by omega)
  have lz : (zs.take d2 ++ [49] ++ zs).length ≤ 100 := by
    rw [List.length_append, List.length_append, List.length_take, List.length_singleton]
    omega
  refine ⟨_, rfl, 50, rfl, S (zs.take d2 ++ [49] ++ zs), rfl, sz_of (by rw [S_len]; omega), ?_⟩
  have e50 : cutS (S (zs.take d2 ++ [49] ++ zs)) none (some 50) = S ((zs.take d2 ++ [49] ++ zs).take 50) := HP.cut_S_to _ 50
  rw [e50]
  refine s_ret (v := _) (ev_tuEq (tu_feeds T (tab_ring (ev_var rfl) mk (gaps_ok mk ml))) (tu_ofL (ls_gaps (ev_var rfl) mk))) fun H15 e15 => ?_
  have z := q H15 (((b11.trans (e12.trans b13)).trans e14').trans (.of e15)) ((hp14.ex e15).mono (by omega))
  simpa using z
end
end HL
namespace HL
open PySem PySem.Spec PyProof.Rows L2 Evl SX
theorem le_a : leastI (List.replicate (2 : Int).toNat [1, 4]).flatten = [1, 4] := by decide
theorem le_b : leastI [1, 4, 1] = [1, 4, 1] := by decide
theorem ro_a : rotI [1, 4] ((1 : Int) % (([1, 4] : List Int).length : Int)).toNat = [4, 1] := by decide
theorem wo_a : wordsI [4, 1] = ("4 1" : Str) := by decide +kernel
theorem ga_a : gapsI [48, 49, 49, 48, 48] = [1, 4] := by decide
theorem ga_b : gapsI [48, 48, 48, 49] = [4] := by decide
theorem ma_a : marked [48, 49, 49, 48, 48] = true := by decide
theorem ma_b : marked [48, 48, 48, 49] = true := by decide
theorem ri_a : ringI [1, 4] = [49, 49, 48, 48, 48] := by decide
theorem st_a : ("01100" : Str) = S [48, 49, 49, 48, 48] := rfl
theorem st_b : ("0001" : Str) = S [48, 48, 48, 49] := rfl
theorem st_c : ("11000" : Str) = S [49, 49, 48, 48, 48] := rfl
theorem okF_lit {fs : List Int} (h : (decide (1 ≤ fs.length ∧ fs.length ≤ 50) && fs.all fun f => decide (1 ≤ f ∧ f ≤ 100)) = true) : okF fs := by
  simp only [Bool.and_eq_true, decide_eq_true_eq, List.all_eq_true] at h
  exact ⟨h.1.1, h.1.2, h.2⟩
section
variable {P : Program} {w : World} {K : PySem.W.Frag} {mg : Str → Option Value} {base : Heap}
def sp_law (K : PySem.W.Frag) : Sp := fun vs H Q _ => ∃ (a : Addr) (ns : List Int), vs = [.ref a] ∧ SqL K H a (ns.map V.int) ∧ ∀ H', Q (.bl true) H'
theorem ok_law (T : Tx K mg) {fd : FuncData} (D : FunD K "law" "law" (defArgs s_law) (defBody s_law) (defScope s_law) [] [] (HP.gA "law" K) fd) : FnOk P w K mg base (L2.CX P w) 8 (HP.gA "law" K) fd ["script"] (sp_law K) := D.ok (k := 7) sc_law
  (fun vs H Q E h => by obtain ⟨a, ns, rfl, _⟩ := h; rfl) fun cdv A outer s H vs Q E hr h => by
  obtain ⟨a, ns, rfl, hS, q⟩ := h
  refine ⟨_, (pss_cons (ps_set (i := 1) sc_law.nd rfl (.inl rfl) (HP.pe_callR (ok__law_pen T) (hr.mono (by decide)) (kp__law_pen T) (by rfl) (f_glo__law_pen T) passL (pa_cons (pv 0) pa_nil)))
      (pss_cons (ps_for HP.pso rfl (pi_range1 (by rfl) (f_free_range T) (pa_cons pe_int pa_nil)) (pg_name (i := 2) sc_law.nd rfl (.inl rfl))
        (pss_cons (ps_par (i := 3) (j := 4) rfl sc_law.nd rfl rfl (by decide) rfl rfl (pa_cons (HP.pe_callR (ok__law_feeds T) (hr.mono (by decide)) (kp__law_feeds T) (by rfl) (f_glo__law_feeds T) passL (pa_cons (pv 1) pa_nil)) (pa_cons (HP.pe_callR (ok__law_feeds T) (hr.mono (by decide)) (kp__law_feeds T) (by rfl) (f_glo__law_feeds T) passL (pa_cons (pv 1) pa_nil)) pa_nil)) (by rfl))
      (pss_one (ps_if (pw_or (pt_not (pt_val (HP.pe_callR (ok__law_joined_right T) (hr.mono (by decide)) (kp__law_joined_right T) (by rfl) (f_glo__law_joined_right T) passL (pa_cons (pv 1) (pa_cons (pv 3) (pa_cons (pv 4) pa_nil)))))) (pw_or (pt_not (pt_val (HP.pe_callR (ok__law_turned_right T) (hr.mono (by decide)) (kp__law_turned_right T) (by rfl) (f_glo__law_turned_right T) passL (pa_cons (pv 1) (pa_cons (pv 4) pa_nil))))) (pw_or1 (pt_not (pt_val (HP.pe_callR (ok__law_rings_right T) (hr.mono (by decide)) (kp__law_rings_right T) (by rfl) (f_glo__law_rings_right T) passL (pa_cons (pv 1) (pa_cons (pv 3) pa_nil)))))))).pt (pss_one (ps_ret pe_bl)) pss_nil))))
      (pss_cons (ps_set (i := 5) sc_law.nd rfl (.inl rfl) (StX.pe_makeR (f_mkr_Table T) (ok_Table_init T) (hr.mono (by decide)) (by rfl) (f_glo_Table T) passL (pa_cons pe_int (pa_cons pe_int pa_nil))))
      (pss_cons (ps_if (pw_or (pt_cmpR (HP.op_meNe (f_meth_Table___eq__ T) (f_ne_Table T) (f_rgt_Table T) (ok_Table_eq T) (hr.mono (by decide)) passL) (HP.pe_methR0 (pe_op (HP.op_meN (f_meth_Table___mul__ T) (f_sff_Table T) (f_num_Table_Mult T) (ok_Table_mul T) (hr.mono (by decide)) passL) (pv 5) pe_int) (f_cls_Table T) (f_meth_Table_lean T) (ok_Table_lean T) (hr.mono (by decide)) passL) (pv 5) (nomark _)) (pw_or (pt_cmpR (HP.op_meNe (f_meth_Table___eq__ T) (f_ne_Table T) (f_rgt_Table T) (ok_Table_eq T) (hr.mono (by decide)) passL) (HP.pe_methR0 (StX.pe_makeR (f_mkr_Table T) (ok_Table_init T) (hr.mono (by decide)) (by rfl) (f_glo_Table T) passL (pa_cons pe_int (pa_cons pe_int (pa_cons pe_int pa_nil)))) (f_cls_Table T) (f_meth_Table_lean T) (ok_Table_lean T) (hr.mono (by decide)) passL) (StX.pe_makeR (f_mkr_Table T) (ok_Table_init T) (hr.mono (by decide)) (by rfl) (f_glo_Table T) passL (pa_cons pe_int (pa_cons pe_int (pa_cons pe_int pa_nil)))) (nomark _)) (pw_or1 (pt_cmpR op_ne (pe_callTy (HP.call_meStr (f_meth_Table___str__ T) (ok_Table_str T) (hr.mono (by decide)) passL) (by rfl) (f_free_str T) (by decide +kernel) (pa_cons (pe_methR (pv 5) (f_cls_Table T) (f_meth_Table_turned T) (ok_Table_turned T) (hr.mono (by decide)) passL (pa_cons pe_int pa_nil)) pa_nil)) pe_str (nomark _))))).pt (pss_one (ps_ret pe_bl)) pss_nil)
      (pss_one (ps_ret (pe_and (pe_cmpR (HP.op_meEq (f_meth_Table___eq__ T) (f_rgt_Table T) (ok_Table_eq T) (hr.mono (by decide)) passL) (HP.pe_stat (pe_glob (v := V.ref (HP.gA "Table" K)) (by rfl) (f_glo_Table T) rfl) (f_smet_Table_of_ring T) (ok_Table_of_ring T) (hr.mono (by decide)) passL (pa_cons pe_str pa_nil)) (pv 5) (nomark _)) (pe_and (pe_cmpR op_eq (HP.pe_methR0 (pv 5) (f_cls_Table T) (f_meth_Table_as_ring T) (ok_Table_as_ring T) (hr.mono (by decide)) passL) pe_str (nomark _)) (pe_one (pe_cmpR (HP.eqI_K K hr.units) (HP.fld_K K (HP.pe_stat (pe_glob (v := V.ref (HP.gA "Table" K)) (by rfl) (f_glo_Table T) rfl) (f_smet_Table_of_ring T) (ok_Table_of_ring T) (hr.mono (by decide)) passL (pa_cons pe_str pa_nil))) (pe_tup (pa_cons pe_int pa_nil)) (nomark _))))))))))), ?_⟩
  refine ⟨_, rfl, a, ns, rfl, hS, fun p c H1 hp1 e1 hp => ?_⟩
  refine ⟨4, rfl, by decide, by decide, for_it walk_range (fun i σ H' => PenAt H' p c (63 * i) ∧ ∃ v1 v2 v3, σ = [some (.ref a), some (.ref p), v1, v2, v3, none]) ⟨hp, _, _, _, rfl⟩ (fun _ _ _ _ _ => trivial) ?_ ?_⟩
  · rintro i x σ H2 H2' hi ⟨hp2, v1, v2, v3, rfl⟩ ⟨rfl, rfl⟩
    have hi' : i < 4 := hi
    refine ⟨_, rfl, p, c, _, rfl, hp2, by omega, fun a1 H3 fs b3 hp3 h3 f1 f2 f3 => ?_⟩
    refine ⟨_, rfl, p, c, _, rfl, hp3, by omega, fun a2 H4 gs b4 hp4 h4 g1 g2 g3 => ⟨_, _, rfl, ?_⟩⟩
    have h34 := exb_ints hp3 b4 h3
    refine ⟨_, rfl, _, rfl, _, rfl, p, c, a1, a2, fs, gs, _, rfl, hp4, by omega, h34, h4, ⟨f1, f2, f3⟩, ⟨g1, g2, g3⟩, fun H5 b5 hp5 => ⟨_, rfl, HP.ifF rfl ?_⟩⟩
    have h35 := exb_ints hp4 b5 h34
    have h45 := exb_ints hp4 b5 h4
    refine ⟨_, rfl, _, rfl, p, c, a2, gs, _, rfl, hp5, by omega, h45, ⟨g1, g2, g3⟩, fun H6 b6 hp6 => ⟨_, rfl, HP.ifF rfl ?_⟩⟩
    have h36 := exb_ints hp5 b6 h35
    refine ⟨_, rfl, _, rfl, p, c, a1, fs, _, rfl, hp6, by omega, h36, ⟨f1, f2, f3⟩, fun H7 b7 hp7 => ⟨_, rfl, HP.ifF rfl ?_⟩⟩
    exact ⟨hp7.mono (by omega), _, _, _, rfl⟩
  · rintro σ H2 ⟨hp2, v1, v2, v3, rfl⟩
    have lit14 : ∀ {σ : L2.St} {H : Hp}, EvTab K (StX.tMakeR (HP.gA "Table" K) (sp_Table_init K) E0 (tCons (tC (.int 1)) (tCons (tC (.int 4)) tNil))) σ H [1, 4] := tab_of (fun H1 _ Q k => k H1 (Ex.refl _)) (okF_lit (by decide))
    have lit141 : ∀ {σ : L2.St} {H : Hp}, EvTab K (StX.tMakeR (HP.gA "Table" K) (sp_Table_init K) E0 (tCons (tC (.int 1)) (tCons (tC (.int 4)) (tCons (tC (.int 1)) tNil)))) σ H [1, 4, 1] := tab_of (fun H1 _ Q k => k H1 (Ex.refl _)) (okF_lit (by decide))
    refine q_tab (K := K) lit14 fun x H3 e3 tx => ?_
    have t42 := tab_turned (E := E0) (tab_var (i := 5) (σ := [some (.ref a), some (.ref p), v1, v2, v3, some (.ref x)]) rfl tx) (ev_c (v := V.int 1)) (by decide) (by decide)
    rw [ro_a] at t42
    have m2 := tab_mul (E := E0) (tab_var (i := 5) (σ := [some (.ref a), some (.ref p), v1, v2, v3, some (.ref x)]) rfl tx) (ev_c (v := V.int 2)) (by decide) (by decide) (okF_lit (by decide))
    refine q_when (b := _) (et_or (et_test (ev_tabNe (tab_lean m2) (tab_var rfl tx))) fun _ => et_or (et_test (ev_tabNe (tab_lean lit141) lit141)) fun _ => et_test (ev_op (ev_strOf t42 (by rw [wo_a]; decide)) ev_c (rv_ne rfl))) (fun h => absurd h (by rw [le_a, le_b, wo_a]; simp)) fun _ H4 e4 => ?_
    have ga := tab_ring (E := E0) (K := K) (σ := [some (.ref a), some (.ref p), v1, v2, v3, some (.ref x)]) (H := H4) (ev_c (v := V.str (S [48, 49, 49, 48, 48]))) ma_a (okF_lit (by decide))
    have gb := tab_ring (E := E0) (K := K) (σ := [some (.ref a), some (.ref p), v1, v2, v3, some (.ref x)]) (H := H4) (ev_c (v := V.str (S [48, 48, 48, 49]))) ma_b (okF_lit (by decide))
    have tx4 := tx.ex e4
    refine s_ret (v := _) (ev_andV (ev_tabEq ga (tab_var rfl tx4)) fun _ => ev_andV (ev_op (ev_ring (tab_var rfl tx4)) ev_c (rv_eq rfl)) fun _ => ev_tuEq (tu_feeds T gb) (tu_lit (ns := [4]) (fun H1 _ Q k => k H1 (Ex.refl _)) (by decide))) fun H5 e5 => ?_
    have z := q H5
    rw [ga_a, ga_b, ri_a, st_c]
    simpa using z
end
end HL
open PySem PySem.W PySem.Calls PyProof.Rows
theorem PySem.Challenge.cw_headpasses_k67_tables_joined_and_turned_holds : PySem.Challenge.rw_headpasses_k67_tables_joined_and_turned.Holds := by
  w_on; o_law
  refine HandSHeadRun.head_any (r := HL.R) (q := view HL.R.prog [40]) (H := HL.hk) (ob := HL.ob) (M := 4000) (loose := HL.nmL) (d := HandSHeadRun.topDef HL.R.prog 40) (kwd := []) HL.ob_eq
    (by kernel_rfl) (fun s => by kernel_rfl) HL.run (by kernel_rfl) (by kernel_rfl) (by kernel_rfl) (by rfl) (by first | assumption | decide +kernel) (by decide +kernel) ⟨rfl, rfl, rfl, rfl, rfl, by decide +kernel⟩ ?hw ?hc
  case hw => w_witness2
  case hc =>
    refine HP.walk_end (l := PySem.Challenge.rw_headpasses_k67_tables_joined_and_turned) (n := 63) (k := 8) (x := "script") (CX := fun w => L2.CX (PySem.Challenge.rw_headpasses_k67_tables_joined_and_turned).prog w) rfl (by decide) (by kernel_rfl) ⟨rfl, by decide, by decide⟩ ?F ?hx
    case hx =>
      intro w H s e s' z
      obtain ⟨_, _, _, _, _, _, _, _, _, _, _, _, z⟩ := z
      exact z
    intro w mg fa h Y G hmg0
    obtain ⟨K, KX, c⟩ := Y
    have T : HL.Tx K mg := HL.tx_of KX G c
    have hmg : mg ("law" : PySem.Str) = some (.ref fa) := by
      have e : (HandSHeadRun.topDef HL.R.prog 40).name = ("law" : PySem.Str) := by kernel_rfl
      rw [← e]
      exact hmg0
    obtain ⟨fd, D⟩ := HL.d_law T
    have e := hmg.symm.trans (HL.f_glo_law T)
    cases e
    have b := L2.FunD.bindsA (ps := ["script"]) D fun _ _ _ _ _ _ us hl => match us, hl with | [_], _ => rfl
    exact ⟨K, fd, HL.sp_law K, KX, fun s v => b s [v] rfl, fun H a ns hl hb _ hS => ⟨a, ns, rfl, hS, fun _ => rfl⟩, fun base _ _ => HL.ok_law T D⟩
