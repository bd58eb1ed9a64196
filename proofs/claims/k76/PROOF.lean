import PyProof.Rows.All
import Wide.All
import OpenK.AllK
import Wide.FinOn
import PyProof.EqAt
import PyProof.EqKinds
import PyProof.TupleCall
import HandS.ForMost
import HandS.ForExc
import HandS.Defaults
import HandS.HeadHook2
import HandS.Head2
import HandS.HeadEnd
import HandS.ExcInit
import HandS.ExcField
import HandS.IsInst
import HandS.TupAny
import HandS.TryMany
import HandS.ClsMeth
import HandS.Style
import HandS.Deep
import HandS.RaiseMore
import HandS.Small
import HandS.Lambda
import PySem.Challenge.RW_iceopened_k76_turned_more_and_less
set_option Elab.async false
set_option linter.all false
set_option maxRecDepth 100000
set_option maxHeartbeats 0
/-! the top's facts by names, promises, calls -/
namespace SX
open PySem PySem.Spec PyProof.Rows L2

/-! ### facts of the top -/
def oexB (K : PySem.W.Frag) (C : Addr) : Bool := match K.lookup C with
  | some ⟨.type "type", _, .cls cd, sl⟩ => (match cd.mro, sl.toList with
    | .ref C' :: bm, [_, _, _, _, some (.builtin n), _] => C' == C && (n == "ValueError.__new__" && (!cd.hasDel && (cd.hasDict && PySem.HandSPX.refsVE bm)))
    | _, _ => false)
  | _ => false
theorem oexB_ok {K : PySem.W.Frag} {C : Addr} (q : oexB K C = true) : ∃ nm q N bs bm sn sub ab col dd k0 k1 k2 k3 k5, K.lookup C = some (excClassObj nm q C N bs bm true sn sub ab col dd k0 k1 k2 k3 k5 "ValueError.__new__") ∧ PySem.HandSPX.refsVE bm = true := by
  unfold oexB at q
  split at q
  · rename_i dd cd sl ho
    split at q
    · rename_i C' bm k0 k1 k2 k3 n k5 hm hs
      simp only [Bool.and_eq_true, beq_iff_eq, Bool.not_eq_true'] at q
      obtain ⟨rfl, rfl, hdel, hd2, ht⟩ := q
      obtain ⟨nm, bs, mro, ns, qn, hd, sn, sub, ab, col, del⟩ := cd
      dsimp only at hm hdel hd2
      subst hm hdel hd2
      have hsl : sl = #[k0, k1, k2, k3, some (.builtin "ValueError.__new__"), k5] := by
        obtain ⟨l⟩ := sl
        simp only at hs
        rw [hs]
      subst hsl
      exact ⟨nm, qn, ns, bs, bm, sn, sub, ab, col, dd, k0, k1, k2, k3, k5, ho, ht⟩
    · cases q
  · cases q
/-- further facts: the same def by two roads; an own exception class with its field; a class's attribute that is a def, a built-in; a class whose instances isinstance looks at; isinstance's answer; == by identity -/
inductive Fy where
  | iq (p q : Str × Option Str)
  | oex (x f : Str)
  | crd (x : Str)
  | cm (x m : Str)
  | cb (x m : Str) (b : String)
  | kin (x : Str)
  | kit (x y : Str) (b : Bool)
  | kitT (x : Str) (t : String) (b : Bool)
  | oeq (x : Str)
def valIs (r : Option PySem.W.CFound) (v : Value) : Bool := match r with
  | some (.val u) => decide (u = v)
  | _ => false
theorem valIs_ok {r : Option PySem.W.CFound} {v : Value} (h : valIs r v = true) : r = some (.val v) := by
  unfold valIs at h
  split at h
  · rw [of_decide_eq_true h]
  · cases h
open He (eqO eqO_ok ga ma fAd ba)
def Fy.ok (K : PySem.W.Frag) : Fy → Bool
  | .iq p q => decide (fAd K p = fAd K q)
  | .oex x f => oexB K (ga K x) && (eqO (PySem.W.findIn K (.ref (ga K x)) "__setattr__") (some (some (.builtin "object.__setattr__"))) && (decide (PySem.W.subIn K (.ref (ga K x)) (.type "BaseException") = some true) &&
      (decide (PySem.W.typeIn K (.ref (ga K x)) = some (.type "type")) && (PySem.W.keepIn K (.ref (ga K x)) && (eqO (PySem.W.findIn K (.ref (ga K x)) "__init__") (some (some (.ref (ma K (ga K x) "__init__")))) &&
      (decide (PySem.W.typeIn K (.ref (ma K (ga K x) "__init__")) = some (.type "function")) && (eqO (PySem.W.findIn K (.ref (ga K x)) f) (some none) && xfB K (ga K x))))))))
  | .crd x => PySem.W.readsIn K (ga K x) (.type "type") && eqO (PySem.W.specialIn K (.ref (ga K x)) "__getattribute__") (some (some (.builtin "type.__getattribute__")))
  | .cm x m => valIs (PySem.W.findCls K (.ref (ga K x)) (.type "type") m) (.ref (ma K (ga K x) m))
  | .cb x m b => valIs (PySem.W.findCls K (.ref (ga K x)) (.type "type") m) (.builtin b)
  | .kin x => eqO (PySem.W.findIn K (.ref (ga K x)) "__class__") (some (some (.builtin "object.__class__"))) && (eqO (PySem.W.specialIn K (.builtin "object.__class__") "__get__") (some (some (.builtin "getset_descriptor.__get__"))) &&
      (decide (PySem.W.takesIn K (.builtin "object.__class__") = some true) && decide (PySem.W.mroIn K (ga K x) (.type "object") = some true)))
  | .kit x y b => decide (PySem.W.kitOne K (.ref (ga K x)) (.ref (ga K y)) = some b)
  | .kitT x t b => decide (PySem.W.kitOne K (.type t) (.ref (ga K x)) = some b)
  | .oeq x => eqO (PySem.W.findIn K (.ref (ga K x)) "__eq__") (some (some (.builtin "object.__eq__"))) && (eqO (PySem.W.findIn K (.ref (ga K x)) "__ne__") (some (some (.builtin "object.__ne__"))) && decide (PySem.W.mroIn K (ga K x) (.type "object") = some true))
section
variable {K : PySem.W.Frag}
theorem iq_ok {p q : Str × Option Str} (c : (Fy.iq p q).ok K = true) : fAd K p = fAd K q := of_decide_eq_true c
structure OexA (K : PySem.W.Frag) (x f : Str) : Prop where
  C : OexC K (ga K x)
  iC : PySem.W.findIn K (.ref (ga K x)) "__init__" = some (some (.ref (ma K (ga K x) "__init__")))
  tI : PySem.W.typeIn K (.ref (ma K (ga K x) "__init__")) = some (.type "function")
  no : PySem.W.findIn K (.ref (ga K x)) f = some none
  xf : XfC K (ga K x)
theorem oex_ok {x f : Str} (c : (Fy.oex x f).ok K = true) : OexA K x f := by
  obtain ⟨c1, c⟩ := ba c
  obtain ⟨c2, c⟩ := ba c
  obtain ⟨c3, c⟩ := ba c
  obtain ⟨c4, c⟩ := ba c
  obtain ⟨c5, c⟩ := ba c
  obtain ⟨c6, c⟩ := ba c
  obtain ⟨c7, c⟩ := ba c
  obtain ⟨c8, c9⟩ := ba c
  exact ⟨⟨oexB_ok c1, eqO_ok c2, of_decide_eq_true c3, of_decide_eq_true c4, c5⟩, eqO_ok c6, of_decide_eq_true c7, eqO_ok c8, xfB_ok c9⟩
theorem crd_ok {x : Str} (c : (Fy.crd x).ok K = true) : ClX.CRead K (ga K x) (.type "type") := by
  obtain ⟨c1, c2⟩ := ba c
  exact ⟨c1, eqO_ok c2⟩
theorem cm_ok {x m : Str} (c : (Fy.cm x m).ok K = true) : ClX.CVal K (ga K x) (.type "type") m (.ref (ma K (ga K x) m)) (.ref (ma K (ga K x) m)) := ⟨valIs_ok c, rfl⟩
theorem cb_ok {x m : Str} {b : String} (c : (Fy.cb x m b).ok K = true) : PySem.W.findCls K (.ref (ga K x)) (.type "type") m = some (.val (.builtin b)) := valIs_ok c
structure KinA (K : PySem.W.Frag) (C : Addr) : Prop where
  ha : PySem.W.findIn K (.ref C) "__class__" = some (some (.builtin "object.__class__"))
  hn : PySem.W.specialIn K (.builtin "object.__class__") "__get__" = some (some (.builtin "getset_descriptor.__get__"))
  htk : PySem.W.takesIn K (.builtin "object.__class__") = some true
  hm : PySem.W.mroIn K C (.type "object") = some true
theorem kin_ok {x : Str} (c : (Fy.kin x).ok K = true) : KinA K (ga K x) := by
  obtain ⟨c1, c⟩ := ba c
  obtain ⟨c2, c⟩ := ba c
  obtain ⟨c3, c4⟩ := ba c
  exact ⟨eqO_ok c1, eqO_ok c2, of_decide_eq_true c3, of_decide_eq_true c4⟩
theorem KinA.ty {C a dx : Addr} {H : Hp} {fs : List (Str × V)} (k : KinA K C) (cl : Cls K C) (e : H a = some (.ins C dx fs)) : TyX K H (.ref a) (.ref C) := .base (.ins e cl k.ha k.hn k.htk k.hm)
theorem kit_ok {x y : Str} {b : Bool} (c : (Fy.kit x y b).ok K = true) : PySem.W.kitOne K (.ref (ga K x)) (.ref (ga K y)) = some b := of_decide_eq_true c
theorem kitT_ok {x : Str} {t : String} {b : Bool} (c : (Fy.kitT x t b).ok K = true) : PySem.W.kitOne K (.type t) (.ref (ga K x)) = some b := of_decide_eq_true c
structure OeqA (K : PySem.W.Frag) (C : Addr) : Prop where
  eq : PySem.W.findIn K (.ref C) "__eq__" = some (some (.builtin "object.__eq__"))
  ne : PySem.W.findIn K (.ref C) "__ne__" = some (some (.builtin "object.__ne__"))
  hm : PySem.W.mroIn K C (.type "object") = some true
theorem oeq_ok {x : Str} (c : (Fy.oeq x).ok K = true) : OeqA K (ga K x) := by
  obtain ⟨c1, c⟩ := ba c
  obtain ⟨c2, c3⟩ := ba c
  exact ⟨eqO_ok c1, eqO_ok c2, of_decide_eq_true c3⟩
end
/-! ### the hook -/
abbrev AlX : Type := Bool × List He.FnW
def obsX (fa : List He.Fa) (fy : List Fy) (fn : List He.DefD) (K : PySem.W.Frag) : AlX := ((fa.all fun f => f.ok K) && ((fy.all fun f => f.ok K) && fn.all fun d => d.ok K), fn.map fun d => He.fnW K d.at_)
def valX (fn : List He.DefD) : AlX := (true, fn.map He.DefD.val)
def SaysX (fa : List He.Fa) (fy : List Fy) (fn : List He.DefD) (K : PySem.W.Frag) : Prop := obsX fa fy fn K = valX fn
def asX (g : Addr → Option Obj) (n : Nat) : List Addr := He.asD g n ++ [cStatics]
def obsXG (n : Nat) (fa : List He.Fa) (fy : List Fy) (fn : List He.DefD) (g : Addr → Option Obj) : AlX := obsX fa fy fn (He.frG g (asX g n))
def hookX (n : Nat) (fa : List He.Fa) (fy : List Fy) (fn : List He.DefD) : PySem.W.Hook where
  α := AlX
  obs := fun s => obsXG n fa fy fn s.heap.get?
  val := fun _ => valX fn
  says := fun _ h => ∃ K : PySem.W.Frag, K.In h ∧ SaysX fa fy fn K
  of := fun _ _ e => ⟨_, He.frG_in, e⟩
  keeps := fun _ _ _ ⟨K, hK, c⟩ k => ⟨K, PySem.W.Frag.In.keeps hK k, c⟩
theorem obsXG_eq {n : Nat} {fa : List He.Fa} {fy : List Fy} {fn : List He.DefD} {g : Addr → Option Obj} {s : Shared} (h : ∀ a, g a = s.heap.get? a) : obsXG n fa fy fn g = (hookX n fa fy fn).obs s := by
  have e : g = s.heap.get? := funext h
  rw [e] <;> rfl
section
variable {fa : List He.Fa} {fy : List Fy} {fn : List He.DefD} {K : PySem.W.Frag}
theorem SaysX.fact (c : SaysX fa fy fn K) (i : Nat) {f : He.Fa} (h : fa[i]? = some f := by rfl) : f.ok K = true := by
  have c1 := (ba (show ((fa.all fun f => f.ok K) && ((fy.all fun f => f.ok K) && fn.all fun d => d.ok K)) = true from congrArg (fun z : AlX => z.1) c)).1
  exact List.all_eq_true.mp c1 f (List.mem_of_getElem? h)
theorem SaysX.more (c : SaysX fa fy fn K) (i : Nat) {f : Fy} (h : fy[i]? = some f := by rfl) : f.ok K = true := by
  have c1 := (ba (ba (show ((fa.all fun f => f.ok K) && ((fy.all fun f => f.ok K) && fn.all fun d => d.ok K)) = true from congrArg (fun z : AlX => z.1) c)).2).1
  exact List.all_eq_true.mp c1 f (List.mem_of_getElem? h)
theorem SaysX.def_ (c : SaysX fa fy fn K) (i : Nat) {d : He.DefD} (h : fn[i]? = some d := by rfl) : ∃ fd, FunD K d.name d.qual d.params d.body d.scope (d.dvs K) (d.kws K) (fAd K d.at_) fd := by
  have c2 := (ba (ba (show ((fa.all fun f => f.ok K) && ((fy.all fun f => f.ok K) && fn.all fun d => d.ok K)) = true from congrArg (fun z : AlX => z.1) c)).2).2
  have e : fn.map (fun d => He.fnW K d.at_) = fn.map He.DefD.val := congrArg (fun z : AlX => z.2) c
  have e2 : (fn.map fun d => He.fnW K d.at_)[i]? = (fn.map He.DefD.val)[i]? := by rw [e]
  rw [List.getElem?_map, List.getElem?_map, h] at e2
  exact He.DefD.funD (Option.some.inj e2) (List.all_eq_true.mp c2 d (List.mem_of_getElem? h))
end

/-! ### promises, calls -/
/-- room for k calls, and no text of a thing is being made around -/
structure RoomG (k : Nat) (A : Around) : Prop where
  r : Room k A
  gd : A.guards = some []
theorem RoomG.mono {j k : Nat} {A : Around} (r : RoomG k A) (h : j ≤ k) : RoomG j A := ⟨r.r.mono h, r.gd⟩
theorem RoomG.deeper {k : Nat} {A : Around} (r : RoomG (k + 1) A) (env : Env) : RoomG k (A.deeper env) := ⟨r.r.deeper env, r.gd⟩
theorem RoomG.make {k : Nat} {A : Around} (r : RoomG (k + 1) A) (C : Addr) (us : List Value) (kw : List (Str × Value)) : RoomG k (A.under (.builtin "type.__call__" ⟨.ref C :: us, kw⟩)) := by
  refine ⟨r.r.make C us kw, ?_⟩
  have e : (Code.builtin "type.__call__" ⟨.ref C :: us, kw⟩).isGuard = false := by
    show guardIds.contains "type.__call__" = false
    decide +kernel
  simp [Around.under, Code.guards, e, pushGuards, r.gd]
/-- a def at f keeps the promise sp (what it lets out: E), called by position -/
structure FnX (P : Program) (w : World) (K : PySem.W.Frag) (mg : Str → Option Value) (base : Heap) (k : Nat) (f : Addr) (sp : Sp) : Prop where
  kp : PySem.W.keepIn K (.ref f) = true
  run : ∀ (A : Around) (outer : List Env) (s : Shared) (H : Hp) (us : List Value) (vs : List V) (Q : VK) (E : XK), RoomG k A → Env0 P w K mg base A outer s H → Vals vs us → sp vs H Q E →
    codeAny (model P w) A (.call (.ref f) ⟨us, []⟩) (CR (L2.CX P w) outer P w H s Q E) s
section
variable {P : Program} {w : World} {K : PySem.W.Frag} {mg : Str → Option Value} {base : Heap} {k j : Nat} {f : Addr} {sp sp' : Sp}
theorem FnX.mono (F : FnX P w K mg base j f sp) (h : j ≤ k) : FnX P w K mg base k f sp := ⟨F.kp, fun A outer s H us vs Q E hr => F.run A outer s H us vs Q E (hr.mono h)⟩
theorem FnX.imp (F : FnX P w K mg base k f sp) (h : ∀ vs H Q E, sp' vs H Q E → sp vs H Q E) : FnX P w K mg base k f sp' := ⟨F.kp, fun A outer s H us vs Q E hr e r q => F.run A outer s H us vs Q E hr e r (h _ _ _ _ q)⟩
/-- THE RULE: a def's body as a term of rules, and its reading -/
theorem fnx {x qual : Str} {params : Arguments} {body : List Stmt} {scope : Scope} {fd : FuncData} {N ps : List Str} (F : FunD K x qual params body scope [] [] f fd) (S : FnScope N ps scope)
    (hb : ∀ (kV doc pm : Value) (an : Option Addr) (cdv ct : Value) (us : List Value), us.length = ps.length → bindArgs (PySem.W.fnOf x qual params body scope .none kV doc pm an cdv ct) ⟨us, []⟩ = pure (ps.zip us))
    (len : ∀ vs H Q E, sp vs H Q E → vs.length = ps.length)
    (hbody : ∀ (cdv : Value) (A : Around) (outer : List Env) (s : Shared) (H : Hp) (vs : List V) (Q : VK) (E : XK), RoomG k (A.deeper (envOfC qual scope s.heap.objs.size f cdv)) → sp vs H Q E →
      ∃ t, PSs (cxOf (L2.CX P w) P w K mg base N qual scope f cdv A outer s H E) body t ∧ t { nx := fun _ H' => Q .non H', rt := Q } (start N vs) H) : FnX P w K mg base (k + 1) f sp := by
  have hbinds : Binds K fd ps [] := F.bindsN hb
  obtain ⟨oc, od, dV, kV, doc, pm, an, cdv, ct, osl, e, lk, hcd, _, _⟩ := F.ex
  subst e
  refine ⟨F.kp, fun A outer s H us vs Q E hr e0 r hsp => ?_⟩
  have hl : us.length = ps.length := by rw [← r.length]; exact len _ _ _ _ hsp
  have KX : K.In s.heap := e0.mod.kin.keeps fun b o q => (e0.bs b o q).1
  have bt : BindsTo s (PySem.W.fnOf x qual params body scope dV kV doc pm an cdv ct) ⟨us, []⟩ (ps.zip us) := by simpa using hbinds s us KX (by simpa using hl)
  obtain ⟨t, ht, hq⟩ := hbody cdv A outer s H vs Q E (hr.deeper _) hsp
  refine codeAny_call_function hr.r.depth (KX _ _ lk) rfl S.co S.gen rfl (PySem.W.codeRec_of KX hcd) (bt _ _ _ _ (wpAny_newFunctionEnv_cells S.kind (fun y hy => ?_) fun env he s1 x => ?_))
  · obtain ⟨n, v⟩ := y
    exact (S.par n (List.of_mem_zip hy).1).imp id fun q => ⟨q, PySem.W.cellsFrom_some _ _ _ (.inl q)⟩
  · subst he
    have I : Inv (cxOf (L2.CX P w) P w K mg base N qual scope f cdv A outer s H E) [] (start N vs) H s1 := inv_start S hr.r.hd e0 (len _ _ _ _ hsp) r x
    refine ⟨(e0.mod.nolimit.keeps fun b o q => (e0.bs b o q).1).keeps x.toInCall.keep, codeAny_func (wpAny_mono (ht.run [] s1 (start N vs) H _ I hq) (fun fl s' hs => ?_) fun _ _ hs => hs)⟩
    cases fl with
    | ret u =>
      obtain ⟨v, _, H', J, rv, q⟩ := hs
      exact ⟨v, H', J.os, J.bare, J.base, J.hok, rv, q⟩
    | next =>
      obtain ⟨_, H', J, q⟩ := hs
      exact ⟨.non, H', J.os, J.bare, J.base, J.hok, rfl, q⟩
    | brk => exact hs.elim fun _ z => z.elim fun _ z => z.2.elim
    | cont => exact hs.elim fun _ z => z.elim fun _ z => z.2.elim
end
/-- what is raised, wished for at the slots -/
abbrev WD (E : XK) : WX := fun c d _ H => E c d H
abbrev W0 : WX := fun _ _ _ _ => False
section
variable {X : Cx} {k j : Nat} {f : Addr} {sp : Sp} {W : WX} {x m : Str} {p pos apos p1 p2 pos2 : Pos} {e o : Expr} {es : List Expr} {ta : TE} {t : TA} {C : Addr}
theorem run_x {pins : List (Addr × Obj)} {σ : L2.St} {H : Hp} {s : Shared} {Q : VK} {us : List Value} {vs : List V} (F : FnX X.prog X.w X.K X.mg X.base k f sp) (hr : RoomG k X.A) (tk : Takes X W)
    (I : Inv X pins σ H s) (r : Vals vs us) (h : sp vs H Q fun c d H' => W c d σ H') : wpAny (model X.prog X.w) X.A (call (.ref f) us) (EP X pins σ Q) X.xe s := by
  refine wpAny_call (codeAny_mono (F.run X.A X.stack s H us vs Q _ hr I.env0 r h) fun r s' hq => ?_)
  cases r with
  | error e => exact tk e s' (XE.of_call I (fun _ _ _ h => h) hq)
  | ok fl =>
    cases fl with
    | ret u => exact I.after hq
    | next => exact False.elim hq
    | brk => exact False.elim hq
    | cont => exact False.elim hq
/-- f(e, ..) -/
def xCall (sp : Sp) (W : WX) (t : TA) : TE := fun σ H Q => t σ H fun vs H1 => sp vs H1 Q fun c d H' => W c d σ H'
theorem px_call (F : FnX X.prog X.w X.K X.mg X.base k f sp) (hm : X.mg x = some (.ref f)) (hr : RoomG j X.A) (hk : k ≤ j) (tk : Takes X W) (hg : Gl X x) (ha : PA X (e :: es) t)
    (hdb : (x == ("__debug__" : Str)) = false := by decide) (he : starEach (e :: es) X.env = (false, eval e X.env) :: starEach es X.env := by rfl) (hpl : (backTo pos (starEach es X.env)).any (·.1) = false := by rfl) :
    PE X (.Call (.Name x p) (e :: es) [] pos) (xCall sp W t) := by
  refine ⟨fun pins s σ H Q I h => ?_⟩
  have kp := F.kp
  refine wpAny_Call_Name_kw (ld_glob I hg hm ?_ hdb)
  refine PySem.W.callWith_K (h₀ := X.base) I.ok.mod.kin kp (thn (ha.run pos pins s σ H _ I h) fun us s1 ⟨vs, H1, I1, r, q⟩ => ⟨I1.kIn, ?_⟩) he hpl
  exact run_x F (hr.mono hk) tk I1 r q
/-- f() -/
theorem px_call0 (F : FnX X.prog X.w X.K X.mg X.base k f sp) (hm : X.mg x = some (.ref f)) (hr : RoomG j X.A) (hk : k ≤ j) (tk : Takes X W) (hg : Gl X x)
    (hdb : (x == ("__debug__" : Str)) = false := by decide) : PE X (.Call (.Name x p) [] [] pos) (xCall sp W tNil) := by
  refine ⟨fun pins s σ H Q I h => ?_⟩
  have kp := F.kp
  refine wpAny_Call_Name_kw (ld_glob I hg hm ?_ hdb)
  exact PySem.W.callWith_K0 I.kIn kp (run_x (us := []) F (hr.mono hk) tk I .nil h)
/-- o.m(e, ..), o an instance of one of the classes of Ok -/
def xMeth (Ok : Addr → Sp → Prop) (m : Str) (W : WX) (to : TE) (t : TA) : TE := fun σ H Q => to σ H fun x H1 => ∃ (a C dx : Addr) (fs : List (Str × V)) (sp : Sp), x = .ref a ∧ H1 a = some (.ins C dx fs) ∧ fs.lookup m = none ∧ Ok C sp ∧
  t σ H1 fun vs H2 => sp (x :: vs) H2 Q fun c d H' => W c d σ H'
structure MetX (P : Program) (w : World) (K : PySem.W.Frag) (mg : Str → Option Value) (base : Heap) (k : Nat) (m : Str) (C : Addr) (sp : Sp) : Prop where
  cl : Cls K C
  ex : ∃ f, Meth K C m f ∧ FnX P w K mg base k f sp
theorem px_meth {pl : Sem Bool} {Ok : Addr → Sp → Prop} (ho : PE X o ta) (F : ∀ C sp, Ok C sp → MetX X.prog X.w X.K X.mg X.base k m C sp) (hr : RoomG j X.A) (hk : k ≤ j) (tk : Takes X W) (ha : PA X (e :: es) t)
    (he : starEach (e :: es) X.env = (false, eval e X.env) :: starEach es X.env := by rfl) (hpl : (backTo pos (starEach es X.env)).any (·.1) = false := by rfl)
    (hc : eval (.Call (.Attribute o m apos) (e :: es) [] pos) X.env = (do
      let ov ← eval o X.env
      standAt apos.atName
      let (f, first) ← holding [ov] (getMethod ov m pl)
      callWith pos f first (backTo pos (starEach (e :: es) X.env)) (backToKw pos (keywordEach [] X.env))) := by rfl) : PE X (.Call (.Attribute o m apos) (e :: es) [] pos) (xMeth Ok m W ta t) := by
  refine ⟨fun pins s σ H Q I h => ?_⟩
  refine PySem.W.methodCall_KW (pl := pl) (thn (ho.run pins s σ H _ I h) fun u s1 ⟨x, H1, I1, rx, a, C, dx, fs, sp, ex, ea, l, ok, q⟩ => ?_) hc
  subst ex
  obtain rfl : u = Value.ref a := rx
  obtain ⟨f, hm, FF⟩ := (F C sp ok).ex
  refine getmeth_ok I1 ea (F C sp ok).cl hm l ?_
  refine PySem.W.callWith_K (first := [.ref a]) (h₀ := X.base) I.ok.mod.kin hm.kp (thn (ha.run pos pins s1 σ H1 _ I1 q) fun us s2 ⟨vs, H2, I2, r, q2⟩ => ⟨I2.kIn, ?_⟩) he hpl
  exact run_x (us := .ref a :: us) (vs := .ref a :: vs) FF (hr.mono hk) tk I2 (.cons rfl r) q2
theorem px_meth0 {pl : Sem Bool} {Ok : Addr → Sp → Prop} (ho : PE X o ta) (F : ∀ C sp, Ok C sp → MetX X.prog X.w X.K X.mg X.base k m C sp) (hr : RoomG j X.A) (hk : k ≤ j) (tk : Takes X W)
    (hc : eval (.Call (.Attribute o m apos) [] [] pos) X.env = (do
      let ov ← eval o X.env
      standAt apos.atName
      let (f, first) ← holding [ov] (getMethod ov m pl)
      callWith pos f first (backTo pos (starEach [] X.env)) (backToKw pos (keywordEach [] X.env))) := by rfl) : PE X (.Call (.Attribute o m apos) [] [] pos) (xMeth Ok m W ta tNil) := by
  refine ⟨fun pins s σ H Q I h => ?_⟩
  refine PySem.W.methodCall_KW (pl := pl) (thn (ho.run pins s σ H _ I h) fun u s1 ⟨x, H1, I1, rx, a, C, dx, fs, sp, ex, ea, l, ok, q⟩ => ?_) hc
  subst ex
  obtain rfl : u = Value.ref a := rx
  obtain ⟨f, hm, FF⟩ := (F C sp ok).ex
  refine getmeth_ok I1 ea (F C sp ok).cl hm l ?_
  exact PySem.W.callWith_K0 (first := [.ref a]) I1.kIn hm.kp (run_x (us := [.ref a]) (vs := [.ref a]) FF (hr.mono hk) tk I1 (.cons rfl .nil) q)
/-- C(e, ..), C's __init__ keeping sp -/
def xMake (C : Addr) (sp : Sp) (W : WX) (t : TA) : TE := fun σ H Q => t σ H fun vs H1 => ∀ x dx, H1 x = none → H1 dx = none → dx ≠ x →
  sp (.ref x :: vs) (upd (upd H1 dx (.own x)) x (.ins C dx [])) (fun v H2 => v = .non ∧ Q (.ref x) H2) fun c d H' => W c d σ H'
theorem run_mk {pins : List (Addr × Obj)} {σ : L2.St} {H : Hp} {s : Shared} {Q : VK} {us : List Value} {vs : List V} (M : Mk X.K C f) (F : FnX X.prog X.w X.K X.mg X.base k f sp) (hr : RoomG (k + 1) X.A) (tk : Takes X W) (I : Inv X pins σ H s) (r : Vals vs us)
    (h : ∀ x dx, H x = none → H dx = none → dx ≠ x → sp (.ref x :: vs) (upd (upd H dx (.own x)) x (.ins C dx [])) (fun v H2 => v = .non ∧ Q (.ref x) H2) fun c d H' => W c d σ H') :
    wpAny (model X.prog X.w) X.A (call (.ref C) us) (EP X pins σ Q) X.xe s := by
  have hq := h (s.heap.objs.size + 1) s.heap.objs.size (I.hok.fresh (Nat.le_succ _)) (I.hok.fresh (Nat.le_refl _)) (Nat.ne_of_lt (Nat.lt_succ_self _))
  have I2 := Inv.made (C := C) I
  have r2 : Vals (V.ref (s.heap.objs.size + 1) :: vs) (Value.ref (s.heap.objs.size + 1) :: us) := .cons rfl r
  refine wpAny_call (make_map (f := f) I.kIn M.makes M.init (beq_iff_eq.mp M.fn) (codeAny_mono (F.run _ X.stack _ _ (Value.ref (s.heap.objs.size + 1) :: us) _ _ _ (hr.make C us []) (I2.env0.make C us []) r2 hq) fun r s' hq' => ?_))
  cases r with
  | error e => exact tk e s' (XE.of_call I2 (fun _ _ _ h => h) hq')
  | ok fl =>
    cases fl with
    | ret u =>
      obtain ⟨v, H', I3, rv, ev, q3⟩ := I2.after hq'
      subst ev
      exact ⟨rv, ⟨V.ref (s.heap.objs.size + 1), H', I3, rfl, q3⟩⟩
    | next => exact False.elim hq'
    | brk => exact False.elim hq'
    | cont => exact False.elim hq'
theorem px_make (M : Mk X.K C f) (F : FnX X.prog X.w X.K X.mg X.base k f sp) (hm : X.mg x = some (.ref C)) (hr : RoomG j X.A) (hk : k + 1 ≤ j) (tk : Takes X W) (hg : Gl X x) (ha : PA X (e :: es) t)
    (hdb : (x == ("__debug__" : Str)) = false := by decide) (he : starEach (e :: es) X.env = (false, eval e X.env) :: starEach es X.env := by rfl) (hpl : (backTo pos (starEach es X.env)).any (·.1) = false := by rfl) :
    PE X (.Call (.Name x p) (e :: es) [] pos) (xMake C sp W t) := by
  refine ⟨fun pins s σ H Q I h => ?_⟩
  refine wpAny_Call_Name_kw (ld_glob I hg hm ?_ hdb)
  refine PySem.W.callWith_K (h₀ := X.base) I.ok.mod.kin M.kp (thn (ha.run pos pins s σ H _ I h) fun us s1 ⟨vs, H1, I1, r, q⟩ => ⟨I1.kIn, ?_⟩) he hpl
  exact run_mk M F (hr.mono hk) tk I1 r q
theorem px_make0 (M : Mk X.K C f) (F : FnX X.prog X.w X.K X.mg X.base k f sp) (hm : X.mg x = some (.ref C)) (hr : RoomG j X.A) (hk : k + 1 ≤ j) (tk : Takes X W) (hg : Gl X x)
    (hdb : (x == ("__debug__" : Str)) = false := by decide) : PE X (.Call (.Name x p) [] [] pos) (xMake C sp W tNil) := by
  refine ⟨fun pins s σ H Q I h => ?_⟩
  refine wpAny_Call_Name_kw (ld_glob I hg hm ?_ hdb)
  exact PySem.W.callWith_K0 I.kIn M.kp (run_mk (us := []) M F (hr.mono hk) tk I .nil h)
/-- C.m(e, ..), C an own class by its name, m a def of it -/
theorem px_cm {pl : Sem Bool} (F : FnX X.prog X.w X.K X.mg X.base k f sp) (rd : ClX.CRead X.K C (.type "type")) (cv : ClX.CVal X.K C (.type "type") m (.ref f) (.ref f)) (hm : X.mg x = some (.ref C)) (hr : RoomG j X.A) (hk : k ≤ j) (tk : Takes X W) (hg : Gl X x) (ha : PA X (e :: es) t)
    (hdb : (x == ("__debug__" : Str)) = false := by decide)
    (he : starEach (e :: es) X.env = (false, eval e X.env) :: starEach es X.env := by rfl) (hpl : (backTo pos (starEach es X.env)).any (·.1) = false := by rfl)
    (hc : eval (.Call (.Attribute (.Name x p1) m p2) (e :: es) [] pos) X.env = (do
      let ov ← eval (.Name x p1) X.env
      standAt p2.atName
      let (f, first) ← holding [ov] (getMethod ov m pl)
      callWith pos f first (backTo pos (starEach (e :: es) X.env)) (backToKw pos (keywordEach [] X.env))) := by rfl) : PE X (.Call (.Attribute (.Name x p1) m p2) (e :: es) [] pos) (xCall sp W t) := by
  refine ⟨fun pins s σ H Q I h => ?_⟩
  have kp := F.kp
  refine PySem.W.methodCall_KW (pl := pl) (ld_glob I hg hm ?_ hdb) hc
  refine PySem.W.method_cls I.kIn rd.ga (ClX.getcval_ok I rd cv fun s1 I0 => ?_)
  refine PySem.W.callWith_K (h₀ := X.base) I.ok.mod.kin kp (thn (ha.run pos pins s1 σ H _ I0 h) fun us s2 ⟨vs, H2, I2, r, q2⟩ => ⟨I2.kIn, ?_⟩) he hpl
  exact run_x F (hr.mono hk) tk I2 r q2
/-- B.__init__(self, ..), B an own class over ValueError without an own __init__ -/
theorem px_binit {pl : Sem Bool} (rd : ClX.CRead X.K C (.type "type")) (cb : PySem.W.findCls X.K (.ref C) (.type "type") "__init__" = some (.val (.builtin "ValueError.__init__"))) (hm : X.mg x = some (.ref C)) (hg : Gl X x) (ha : PA X (e :: es) t)
    (hdb : (x == ("__debug__" : Str)) = false := by decide)
    (he : starEach (e :: es) X.env = (false, eval e X.env) :: starEach es X.env := by rfl) (hpl : (backTo pos (starEach es X.env)).any (·.1) = false := by rfl)
    (hc : eval (.Call (.Attribute (.Name x p1) "__init__" p2) (e :: es) [] pos) X.env = (do
      let ov ← eval (.Name x p1) X.env
      standAt p2.atName
      let (f, first) ← holding [ov] (getMethod ov "__init__" pl)
      callWith pos f first (backTo pos (starEach (e :: es) X.env)) (backToKw pos (keywordEach [] X.env))) := by rfl) : PE X (.Call (.Attribute (.Name x p1) "__init__" p2) (e :: es) [] pos) (tVeI X.K t) := by
  refine ⟨fun pins s σ H Q I h => ?_⟩
  refine PySem.W.methodCall_KW (pl := pl) (ld_glob I hg hm ?_ hdb) hc
  refine PySem.W.method_cls I.kIn rd.ga (PySem.W.cls_value I.kIn rd.rd cb (by decide +kernel) ?_)
  show wpAny _ _ (callWith pos (Value.builtin "ValueError.__init__") [] (backTo pos (starEach (e :: es) X.env)) []) _ _ _
  refine PyProof.Rows.callWith_method1 (thn (ha.run pos pins _ σ H _ (I.tok _) h) fun us s1 ⟨vs, H1, I1, r1, a, C', ws, ev, hl, T, ea, q⟩ => ?_) he hpl
  subst ev
  cases r1 with
  | @cons _ u0 _ ur ra rw' =>
    obtain rfl : u0 = Value.ref a := ra
    have hlen : ur.length ≤ sizeLine := by
      rw [← Paired.length rw', sizeLine_eq]
      omega
    exact oinit_ok T I1 ea hlen fun s' J => ⟨.non, H1, J, rfl, q⟩
end
/-! ### own exceptions with one field -/
/-- such a class's __init__ -/
structure FnE (P : Program) (w : World) (K : PySem.W.Frag) (mg : Str → Option Value) (base : Heap) (k : Nat) (f : Addr) (sp : Sp) : Prop where
  ex : ∃ (fd : FuncData) (ps : List Str), FnOk P w K mg base (L2.CX P w) k f fd ps sp ∧ Binds K fd ps []
/-- x raised with v in its field f: its own dict d, new -/
def Rz (K : PySem.W.Frag) (E : XK) (H : Hp) (x f : Str) (v : V) : Prop := ∀ d : Addr, H d = none → E (.ref (ga K x)) (some d) (upd H d (.xd [(f, v)]))
/-- the promise of such a class's __init__ -/
def spExc (K : PySem.W.Frag) (x f : Str) : Sp := fun vs H Q _ => ∃ (a : Addr) (v : V), vs = [.ref a, v] ∧ H a = some (exo a (ga K x) none) ∧
  ∀ dx, H dx = none → dx ≠ a → Q .non (upd (upd H dx (exd dx [(f, v)])) a (exo a (ga K x) (some dx)))
theorem del_raised {H : Hp} {a d C : Addr} {fs : List (Str × V)} (ha : H a = none) (hda : d ≠ a) :
    upd (del (upd (upd (upd H a (exo a C none)) d (exd d fs)) a (exo a C (some d))) a) d (.xd fs) = upd H d (.xd fs) := by
  funext b
  by_cases hb : b = d
  · subst hb
    rw [upd_same, upd_same]
  · rw [upd_ne hb, upd_ne hb]
    by_cases hc : b = a
    · subst hc
      rw [del_same, ha]
    · rw [del_ne hc, upd_ne hc, upd_ne hb, upd_ne hc]
section
variable {X : Cx} {k j : Nat} {W : WX} {x f : Str} {p pos pos2 : Pos} {e : Expr} {ta : TE}
/-- the same with a weaker wish -/
def tMo (t : TE) : TE := fun σ H Q => ∃ Q0 : VK, t σ H Q0 ∧ ∀ x H1, Q0 x H1 → Q x H1
theorem pe_mo (h : PE X e ta) : PE X e (tMo ta) := ⟨fun pins s σ H Q I hw => by
  obtain ⟨Q0, h0, hq⟩ := hw
  exact thn (h.run pins s σ H Q0 I h0) fun u s1 ⟨v, H1, I1, r, q⟩ => ⟨v, H1, I1, r, hq v H1 q⟩⟩
/-- raise x(e) -/
def xRaise (K : PySem.W.Frag) (x f : Str) (W : WX) (ta : TE) : TS := fun _ σ H => ta σ H fun v H1 => Rz K (fun c d H' => W c d σ H') H1 x f v
theorem px_raise (A : OexA X.K x f) (F : FnE X.prog X.w X.K X.mg X.base k (ma X.K (ga X.K x) "__init__") (spExc X.K x f)) (hm : X.mg x = some (.ref (ga X.K x))) (hc : X.calm = true) (hr : RoomG j X.A) (hk : k + 1 ≤ j) (tk : Takes X W) (hg : Gl X x) (ha : PE X e ta)
    (hdb : (x == ("__debug__" : Str)) = false := by decide) (he : starEach (e :: []) X.env = (false, eval e X.env) :: starEach [] X.env := by rfl) (hpl : (backTo pos (starEach [] X.env)).any (·.1) = false := by rfl) :
    PS X (.Raise (some (.Call (.Name x p) [e] [] pos)) none pos2) (xRaise X.K x f W ta) := by
  obtain ⟨fd, ps, FF, hb⟩ := F.ex
  have Z := ps_raise (pos := pos2) hc tk (pmk_oex (p := p) (pos := pos) A.C A.iC A.tI FF (hr.r.mono hk) hb .nil passL hg hm (pa_cons (pe_mo ha) pa_nil he) hdb he hpl)
  refine ⟨fun pins s σ H D I h => Z.run pins s σ H D I ?_⟩
  have h1 : ta σ H fun v H1 => Rz X.K (fun c d H' => W c d σ H') H1 x f v := h
  refine ⟨_, h1, fun v H1 hz => ?_⟩
  refine ⟨by show 1 ≤ 1000; decide, fun a ha => ?_⟩
  refine ⟨a, v, rfl, upd_same, fun dx hdx hne => ⟨rfl, dx, [(f, v)], upd_same, ?_, ?_, ?_⟩⟩
  · rw [upd_ne hne, upd_same]
  · rw [upd_ne hne] at hdx
    exact hdx
  · have hd : H1 dx = none := by
      rw [upd_ne hne] at hdx
      exact hdx
    have e : upd (del (upd (upd (upd H1 a (exo a (ga X.K x) none)) dx (exd dx [(f, v)])) a (exo a (ga X.K x) (some dx))) a) dx (.xd [(f, v)]) = upd H1 dx (.xd [(f, v)]) := del_raised ha hne
    rw [e]
    exact hz dx hd
end
end SX
/-! try with several except clauses, each with or without a name -/
namespace SX
open PySem PySem.Spec PyProof.Rows L2
/-- the ends behind a clause's suite: its name's slot is emptied -/
def dropEnds (D : Ends) : Option Nat → Ends
  | none => D
  | some i => { nx := fun σ' H' => D.nx (σ'.set i none) H', rt := D.rt, bk := fun σ' H' => D.bk (σ'.set i none) H', ct := fun σ' H' => D.ct (σ'.set i none) H' }
def inSlot (σ : L2.St) (a : Addr) : Option Nat → L2.St
  | none => σ
  | some i => σ.set i (some (.ref a))
/-- one clause: its class, its name's slot, its suite's reading -/
structure Cl where
  c : Value
  i : Option Nat
  ts : Addr → Value → Option Addr → TS
def wCls (K : PySem.W.Frag) (Wout : WX) (D : Ends) : List Cl → WX
  | [] => Wout
  | q :: r => fun cls d σ H => ∃ b, PySem.W.exmOne K cls q.c = some b ∧ (b = true → ∀ a, H a = none → q.ts a cls d (dropEnds D q.i) (inSlot σ a q.i) H) ∧ (b = false → wCls K Wout D r cls d σ H)
/-- a clause's suite does what its reading says, whatever was caught -/
def Reads1 (X : Cx) (ss : List Stmt) (ts : Addr → Value → Option Addr → TS) : Prop := ∀ (a : Addr) (oe : Obj) (cls : Value) (d : Option Addr) (pn : List (Addr × Obj)), Zc cls d oe → (∃ vs, oe.data = .fields vs) → PSs (X.suite a ((a, oe) :: pn)) ss (ts a cls d)
inductive ClsOk (X : Cx) : List ExceptHandler → List Cl → Prop
  | nil : ClsOk X [] []
  | bare {x : Str} {c : Value} {ts : Addr → Value → Option Addr → TS} {b₀ : Stmt} {suite : List Stmt} {np pos' : Pos} {hds : List ExceptHandler} {l : List Cl} (hc : Names X x c) (hsu : Reads1 X (b₀ :: suite) ts) (r : ClsOk X hds l) :
      ClsOk X (.ExceptHandler (some (.Name x np)) none (b₀ :: suite) pos' :: hds) (⟨c, none, ts⟩ :: l)
  | named {x n : Str} {c : Value} {i : Nat} {ts : Addr → Value → Option Addr → TS} {b₀ : Stmt} {suite : List Stmt} {np pos' : Pos} {hds : List ExceptHandler} {l : List Cl} (hN : X.N.Nodup) (hi : X.N[i]? = some n) (hln : X.env.kindOf n = some .local) (hc : Names X x c) (hsu : Reads1 X (b₀ :: suite) ts) (r : ClsOk X hds l) :
      ClsOk X (.ExceptHandler (some (.Name x np)) (some n) (b₀ :: suite) pos' :: hds) (⟨c, some i, ts⟩ :: l)
/-! ### before the clauses: what was raised lies at a, and nothing else was touched -/
structure Door (X : Cx) (B : Heap) (pins : List (Addr × Obj)) (σ : L2.St) (H : Hp) (a : Addr) (cls : Value) (d : Option Addr) (s : Shared) : Prop where
  from_ : ∃ sI : Shared, Inv X pins σ H sI ∧ (∀ b o, sI.heap.get? b = some o → b ∉ frs X.stack → B.get? b = some o) ∧ sI.heap.UpToSlots s.heap ∧ s.os = sI.os ∧ AllBare s.gens
  fly : HandSPX.FlyingZ B (X.env :: X.outer) a (Zc cls d) s.heap
  new : H a = none
section
variable {X : Cx} {B : Heap} {pins : List (Addr × Obj)} {σ : L2.St} {H : Hp} {a : Addr} {cls : Value} {d : Option Addr} {s : Shared} {Q : Flow → Shared → Prop} {D : Ends}
theorem Door.inv (o : Door X B pins σ H a cls d s) : Inv X pins σ H s := by
  obtain ⟨sI, I, nb, up, os, ag⟩ := o.from_
  exact I.landed nb o.fly.1 up os ag
theorem Door.on (o : Door X B pins σ H a cls d s) {h' : Heap} (f : HandSPX.FlyingZ B (X.env :: X.outer) a (Zc cls d) h') (u : s.heap.UpToSlots h') : Door X B pins σ H a cls d { s with heap := h' } := by
  obtain ⟨sI, I, nb, up, os, ag⟩ := o.from_
  exact ⟨⟨sI, I, nb, up.trans u, os, ag⟩, f, o.new⟩
/-- the state as the suite's context has it -/
theorem Door.suite (o : Door X B pins σ H a cls d s) (hf : X.env.frame = some X.env.locals) : ∃ oe, s.heap.get? a = some oe ∧ Zc cls d oe ∧ (∃ vs, oe.data = .fields vs) ∧ Inv (X.suite a ((a, oe) :: (X.pn ++ pins))) [] σ H s := by
  obtain ⟨oe, vs, he, hz, hd⟩ := o.fly.there
  have out : a ∉ frs (X.env :: X.outer) := fun z => by
    obtain ⟨_, o2, e2, nf⟩ := o.fly.2.2.1.mem z
    cases he.symm.trans e2
    exact nf _ hd
  have sub : ∀ {env : Env} {L : Addr}, env ∈ X.env :: X.outer → env.frame = some L → a ≠ L := fun {env L} m e z => out (List.mem_filterMap.mpr ⟨env, m, by rw [e, z]⟩)
  refine ⟨oe, he, hz, ⟨vs, hd⟩, o.inv.suite he hd o.new (sub (List.mem_cons_self ..) hf) fun z => ?_⟩
  obtain ⟨env, m, e⟩ := List.mem_filterMap.mp z
  exact sub (List.mem_cons_of_mem _ m) e rfl
/-- is it of the class that the clause names -/
theorem Door.asks (o : Door X B pins σ H a cls d s) (hf : X.env.frame = some X.env.locals) {x : Str} {c : Value} {np : Pos} {b : Bool} (hc : Names X x c) (hb : PySem.W.exmOne X.K cls c = some b) {R : Result → Shared → Prop} {pos : Pos}
    (h : R (.ok (if b = true then .brk else .next)) s) : codeAny (model X.prog X.w) (X.A.mark (some (.ref a))) (.handlers (.ref a) [.ExceptHandler (some (.Name x np)) none [] pos] X.env) R s := by
  obtain ⟨oe, he, hz, hd, S⟩ := o.suite hf
  have what : PySem.W.Looks (model X.prog X.w) s.heap (typeOf (.ref a)) cls := fun A Q E s k q => wpAny_typeOf_ref (k _ _ he) (hz.1 ▸ q)
  have tell := PySem.W.exm_one S.kIn what hb
  refine codeAny_handlers_test ?_
  have h' : R (.ok (if b then .brk else .next)) s := h
  obtain ⟨hg, hn, hm | ⟨hm, hv, hx⟩⟩ := hc
  · exact ld_glob (X := X.suite a ((a, oe) :: (X.pn ++ pins))) S hg hm (tell.here h') hn
  · exact ld_blt (X := X.suite a ((a, oe) :: (X.pn ++ pins))) S hg hm hv (tell.here h') hx hn
/-- no clause has it: it goes on -/
theorem Door.out (o : Door X B pins σ H a cls d s) (hs : X.stack = X.env :: X.outer) (hf : X.env.frame = some X.env.locals) {W : WX} (tk : Takes X W) (w : W cls d σ H) : wpAny (model X.prog X.w) X.A (handleBy (.ref a) X.env []) Q X.xe s := by
  refine wpAny_handleBy_nil ?_
  have go : wpAny (model X.prog X.w) X.A (setFlight (.ref a) X.env.frame) (fun _ s4 => wpAny (model X.prog X.w) X.A (throw (.ref a) : Sem Flow) Q X.xe s4) X.xe s := by
    rw [hf]
    refine HandSPX.setFlight_upZ o.fly fun h4 held up4 => wpAny_throw (tk _ _ ?_)
    obtain ⟨sI, I, nb, up, os, ag⟩ := o.from_
    exact ⟨a, B, sI, pins, σ, H, cls, d, rfl, I, nb, up.trans up4, .inr (.inr (hs ▸ held)), o.new, os, ag, w⟩
  obtain ⟨_, _, _, oe, vs, T, oT, ts, he, hz, hd, h1, rest⟩ := id o.fly
  unfold PySem.passOn
  refine wpAny_bind (wpAny_field he hd h1 ?_)
  rw [if_neg (show ¬ ((Value.ref T == Value.none) = true) by simp)]
  first
    | exact wpAny_bind (wpAny_pure (wpAny_bind go))
    | exact wpAny_bind go
/-- the suite's own ends, seen from the def -/
theorem ends_of {oe : Obj} {f : Flow} {s6 : Shared} (ok : X.Ok) (h : SP (X.suite a ((a, oe) :: (X.pn ++ pins))) [] D f s6) : SP X pins D f s6 := by
  cases f with
  | ret u =>
    obtain ⟨v, σ6, H6, S, r, q⟩ := h
    exact ⟨v, σ6, H6, S.unsuite ok, r, q⟩
  | _ =>
    obtain ⟨σ6, H6, S, q⟩ := h
    exact ⟨σ6, H6, S.unsuite ok, q⟩
/-- a clause without a name, the clauses behind it by (later) -/
theorem Door.bare (o : Door X B pins σ H a cls d s) (hf : X.env.frame = some X.env.locals) {x : Str} {c : Value} {ts : Addr → Value → Option Addr → TS} {b₀ : Stmt} {ss : List Stmt} {np p : Pos} {hds : List ExceptHandler} {b : Bool} (hc : Names X x c) (hsu : Reads1 X (b₀ :: ss) ts)
    (hb : PySem.W.exmOne X.K cls c = some b) (yes : b = true → ts a cls d D σ H) (later : b = false → wpAny (model X.prog X.w) X.A (handleBy (.ref a) X.env hds) (SP X pins D) X.xe s) :
    wpAny (model X.prog X.w) X.A (handleBy (.ref a) X.env (.ExceptHandler (some (.Name x np)) none (b₀ :: ss) p :: hds)) (SP X pins D) X.xe s := by
  refine wpAny_handleBy_cons (o.asks hf hc hb ?_) (by intro z; cases z)
  cases b with
  | false => exact later rfl
  | true =>
    refine codeAny_handlers_suite (HandSPX.lands_againZ o.fly fun h4 f4 u4 => ?_)
    obtain ⟨oe, he, hz, hd, S⟩ := (o.on f4 u4).suite hf
    exact wpAny_mono ((hsu a oe cls d (X.pn ++ pins) hz hd).run [] _ _ H _ S (yes rfl)) (fun f s6 z => ends_of o.inv.ok z) fun _ _ z => False.elim z
/-- a clause with a name -/
theorem Door.named (o : Door X B pins σ H a cls d s) (hf : X.env.frame = some X.env.locals) {x n : Str} {i : Nat} {c : Value} {ts : Addr → Value → Option Addr → TS} {b₀ : Stmt} {ss : List Stmt} {np p : Pos} {hds : List ExceptHandler} {b : Bool} (hN : X.N.Nodup) (hi : X.N[i]? = some n) (hln : X.env.kindOf n = some .local) (hc : Names X x c) (hsu : Reads1 X (b₀ :: ss) ts)
    (hb : PySem.W.exmOne X.K cls c = some b) (yes : b = true → ts a cls d (dropEnds D (some i)) (σ.set i (some (.ref a))) H) (later : b = false → wpAny (model X.prog X.w) X.A (handleBy (.ref a) X.env hds) (SP X pins D) X.xe s) :
    wpAny (model X.prog X.w) X.A (handleBy (.ref a) X.env (.ExceptHandler (some (.Name x np)) (some n) (b₀ :: ss) p :: hds)) (SP X pins D) X.xe s := by
  refine wpAny_handleBy_cons (o.asks hf hc hb ?_) (by intro z; cases z)
  cases b with
  | false => exact later rfl
  | true =>
    refine codeAny_handlers_suite_as (HandSPX.lands_againZ o.fly fun h4 f4 u4 => ?_)
    obtain ⟨oe, he, hz, hd, S⟩ := (o.on f4 u4).suite hf
    refine store_ok (X := X.suite a ((a, oe) :: (X.pn ++ pins))) (v := .ref a) S hN hi (.inl hln) rfl (fun s5 S5 => ?_) (.inr hln)
    refine wpAny_mono ((hsu a oe cls d (X.pn ++ pins) hz hd).run [] s5 _ H _ S5 (yes rfl)) (fun f s6 z => ?_) fun _ _ z => False.elim z
    have z := ends_of o.inv.ok z
    cases f with
    | ret u =>
      obtain ⟨v, σ6, H6, I6, r, q⟩ := z
      exact gone_ok I6 hN hi hln fun s7 J => ⟨v, _, H6, J, r, q⟩
    | _ =>
      obtain ⟨σ6, H6, I6, q⟩ := z
      exact gone_ok I6 hN hi hln fun s7 J => ⟨_, H6, J, q⟩
/-- all clauses -/
theorem Door.all (o : Door X B pins σ H a cls d s) (hs : X.stack = X.env :: X.outer) (hf : X.env.frame = some X.env.locals) {W : WX} (tk : Takes X W) {hds : List ExceptHandler} {l : List Cl} (hh : ClsOk X hds l) (w : wCls X.K W D l cls d σ H) : wpAny (model X.prog X.w) X.A (handleBy (.ref a) X.env hds) (SP X pins D) X.xe s := by
  induction hh with
  | nil => exact o.out hs hf tk w
  | bare hc hsu r ih =>
    obtain ⟨b, hb, yes, no⟩ := w
    exact o.bare hf hc hsu hb (fun e => yes e a o.new) fun e => ih (no e)
  | named hN hi hln hc hsu r ih =>
    obtain ⟨b, hb, yes, no⟩ := w
    exact o.named hf hN hi hln hc hsu hb (fun e => yes e a o.new) fun e => ih (no e)
end
section
variable {X : Cx} {body : List Stmt} {h₀ : ExceptHandler} {hds : List ExceptHandler} {l : List Cl} {pos : Pos} {tb : WX → TS} {Wout : WX}
theorem px_try (hs : X.stack = X.env :: X.outer) (hf : X.env.frame = some X.env.locals) (tk : Takes X Wout) (hb : ∀ (W : WX) (pn : List (Addr × Obj)) (xe : Value → Shared → Prop), Takes (X.tr pn xe) W → PassesOwn (model X.prog X.w) X.A X.env xe → PSs (X.tr pn xe) body (tb W))
    (hh : ClsOk X (h₀ :: hds) l) : PS X (.Try body (h₀ :: hds) [] [] pos) (fun D σ H => tb (wCls X.K Wout D l) D σ H) := by
  constructor
  intro pins s σ H D I h
  have ok := I.ok
  refine wpAny_Try_except (wpAny_mono ((hb _ (X.pn ++ pins) _ ?_ PassesOwn.looking).run [] s σ H D (I.toTry _) h) (fun f s1 z => ?_) fun _ _ z => z)
  · -- an exception leaves the body
    rintro u s' ⟨a, B, sI, pins', σ', H', cls, d, rfl, J, nb, up, sky, na, os, ag, w⟩
    refine Sky.land Zc.steady (by rw [ok.frames, hs]) hf (show Sky B (X.env :: X.outer) a (Zc cls d) X.env.locals s'.heap from hs ▸ sky) fun h3 f3 u3 => ?_
    have o : Door X B pins σ' H' a cls d { s' with heap := h3 } := ⟨⟨sI, J.ofTry ok, nb, up.trans u3, os, ag⟩, f3, na⟩
    exact o.all hs hf tk hh w
  · cases f with
    | next =>
      obtain ⟨σ', H', J, q⟩ := z
      exact wpAny_execs_nil ⟨σ', H', J.ofTry ok, q⟩
    | ret u =>
      obtain ⟨v, σ', H', J, r, q⟩ := z
      exact ⟨v, σ', H', J.ofTry ok, r, q⟩
    | _ =>
      obtain ⟨σ', H', J, q⟩ := z
      exact ⟨σ', H', J.ofTry ok, q⟩
end
end SX
/-! values: readings that reckon by themselves -/
namespace SX
open PySem PySem.Spec PyProof.Rows L2
open He (ga ma fAd)

/-! ### heaps that grow -/
theorem Same.new {H : Hp} {p : Addr} {o : HO} (h : H p = none) : Same H (upd H p o) := fun b u e => by rw [upd_ne (ne_of_none e h)]; exact e
/-- a list or a tuple -/
def Sq (K : PySem.W.Frag) (H : Hp) (a : Addr) (xs : List V) : Prop := SqL K H a xs ∨ SqT K H a xs
theorem sameL {K : PySem.W.Frag} {H H' : Hp} {a : Addr} {xs : List V} (e : Same H H') (h : SqL K H a xs) : SqL K H' a xs := e.seq h
theorem sameT {K : PySem.W.Frag} {H H' : Hp} {a : Addr} {xs : List V} (e : Same H H') (h : SqT K H a xs) : SqT K H' a xs := by
  rcases h with (h | ⟨o, h⟩) | h
  · exact .inl (.inl (e _ _ h))
  · exact .inl (.inr ⟨o, e _ _ h⟩)
  · exact .inr h
theorem sameS {K : PySem.W.Frag} {H H' : Hp} {a : Addr} {xs : List V} (e : Same H H') (h : Sq K H a xs) : Sq K H' a xs := h.elim (fun h => .inl (sameL e h)) fun h => .inr (sameT e h)
theorem len_ok {n : Nat} (h : n ≤ 100000) : n ≤ sizeLine := Nat.le_trans h (by decide)
theorem len_lt {n : Nat} (h : n < 100000) : n < sizeLine := Nat.lt_of_lt_of_le h (by decide)

section
variable {X : Cx} {e a b c : Expr} {ta tb tc : TE} {pos : Pos} {r r' : R2}
theorem pe_imp {t t' : TE} (h : PE X e t) (i : ∀ σ H Q, t' σ H Q → t σ H Q) : PE X e t' := ⟨fun pins s σ H Q I hw => h.run pins s σ H Q I (i σ H Q hw)⟩
theorem pt_imp {t t' : TT} (h : PT X e t) (i : ∀ σ H Q, t' σ H Q → t σ H Q) : PT X e t' := ⟨fun pins s σ H Q I hw => h.run pins s σ H Q I (i σ H Q hw)⟩
theorem op_imp {f : Value → Value → Sem Value} (h : OpR X f r) (i : ∀ x y H Q, r' x y H Q → r x y H Q) : OpR X f r' := fun pins s σ H x y v u Q I rx ry q => h pins s σ H x y v u Q I rx ry (i x y H Q q)
/-! ### names -/
def mV (i : Nat) : TE := fun σ H Q => match σ[i]? with
  | some (some v) => Q v H
  | _ => False
theorem mv (i : Nat) {x : Str} (hN : X.N[i]? = some x := by rfl) (hv : Vis X.env.scope x := by first | exact Or.inl rfl | exact Or.inr (Or.inl rfl) | exact Or.inr (Or.inr rfl)) (hd : (x == ("__debug__" : Str)) = false := by decide)
    (hcd : (x == ("__classdict__" : Str)) = false := by decide) : PE X (.Name x pos) (mV i) := pe_imp (pe_var hN hv hd hcd) fun σ H Q h => by
  unfold mV at h
  split at h
  · rename_i v e
    exact ⟨v, e, h⟩
  · exact h.elim
/-! ### ints -/
def mI (g : Int → Int → Int) : R2 := fun x y H Q => match x, y with
  | .int i, .int j => Q (.int (g i j)) H
  | _, _ => False
def mC (C : Int → Int → Prop) (g : Int → Int → Int) : R2 := fun x y H Q => match x, y with
  | .int i, .int j => C i j ∧ Q (.int (g i j)) H
  | _, _ => False
def mB (g : Int → Int → Bool) : R2 := fun x y H Q => match x, y with
  | .int i, .int j => Q (.bl (g i j)) H
  | _, _ => False
theorem op_mI {f : Value → Value → Sem Value} {g : Int → Int → Int} (h : OpR X f (rI0 fun i j => .int (g i j))) : OpR X f (mI g) := op_imp h fun x y H Q q => by
  cases x <;> cases y <;> first | exact q.elim | exact ⟨_, _, rfl, rfl, q⟩
theorem op_mC {f : Value → Value → Sem Value} {C : Int → Int → Prop} {g : Int → Int → Int} (h : OpR X f (rI C fun i j => .int (g i j))) : OpR X f (mC C g) := op_imp h fun x y H Q q => by
  cases x <;> cases y <;> first | exact q.elim | exact ⟨_, _, rfl, rfl, q⟩
theorem op_mB {f : Value → Value → Sem Value} {g : Int → Int → Bool} (h : OpR X f (rI0 fun i j => .bl (g i j))) : OpR X f (mB g) := op_imp h fun x y H Q q => by
  cases x <;> cases y <;> first | exact q.elim | exact ⟨_, _, rfl, rfl, q⟩
def mSub : R2 := mI fun i j => i - j
def mMul : R2 := mC CMul fun i j => i * j
def mDiv : R2 := mC CDiv fun i j => i / j
def mMod : R2 := mC (fun _ j => 0 < j) fun i j => i % j
def mPow : R2 := mC CPow fun i j => i ^ j.toNat
def mLt : R2 := mB fun i j => decide (i < j)
def mLe : R2 := mB fun i j => decide (i ≤ j)
def mGt : R2 := mB fun i j => decide (j < i)
def mGe : R2 := mB fun i j => decide (j ≤ i)
theorem om_sub : OpR X (binaryOp .Sub) mSub := op_mI op_sub
theorem om_mul : OpR X (binaryOp .Mult) mMul := op_mC op_mul
theorem om_div : OpR X (binaryOp .FloorDiv) mDiv := op_mC op_fdiv
theorem om_mod : OpR X (binaryOp .Mod) mMod := op_mC op_mod
theorem om_pow : OpR X (binaryOp .Pow) mPow := op_mC op_pow
theorem om_lt : OpR X (compareOp .Lt) mLt := op_mB op_lt
theorem om_le : OpR X (compareOp .LtE) mLe := op_mB op_le
theorem om_gt : OpR X (compareOp .Gt) mGt := op_mB op_gt
theorem om_ge : OpR X (compareOp .GtE) mGe := op_mB op_ge
/-! ### + of ints, texts, tuples, lists -/
def mAdd (K : PySem.W.Frag) : R2 := fun x y H Q => match x, y with
  | .int i, .int j => Q (.int (i + j)) H
  | .str i, .str j => i.length + j.length ≤ sizeLine ∧ Q (.str (i ++ j)) H
  | .ref a, .ref b => (∃ xs ys, SqT K H a xs ∧ SqT K H b ys ∧ xs.length + ys.length ≤ sizeLine ∧ ∀ p H', Same H H' → SqT K H' p (xs ++ ys) → Q (.ref p) H') ∨
      ∃ xs zs, H a = some (.lst xs) ∧ H b = some (.lst zs) ∧ xs.length + zs.length ≤ sizeLine ∧ ∀ p, H p = none → Q (.ref p) (upd H p (.lst (xs ++ zs)))
  | _, _ => False
theorem om_add : OpR X (binaryOp .Add) (mAdd X.K) := by
  refine op_imp (OpR.or (OpR.or op_add op_add_str) (OpR.or op_catA op_cat)) fun x y H Q q => ?_
  cases x <;> cases y <;> try exact q.elim
  · exact .inl (.inl ⟨_, _, rfl, rfl, q⟩)
  · exact .inl (.inr ⟨_, _, rfl, rfl, q.1, q.2⟩)
  · rename_i a b
    rcases q with ⟨xs, ys, h1, h2, hl, k⟩ | ⟨xs, zs, h1, h2, hl, k⟩
    · refine .inr (.inl ⟨a, b, xs, ys, rfl, rfl, h1, h2, hl, fun e => ?_, fun e1 e2 => ?_, fun e1 e2 p hp => ?_⟩)
      · subst e
        exact k b H (Same.refl H) h2
      · subst e2
        exact k a H (Same.refl H) (by rw [List.append_nil]; exact h1)
      · exact k p _ (Same.new hp) (.inl (.inl upd_same))
    · exact .inr (.inr ⟨a, b, xs, zs, rfl, rfl, h1, h2, hl, k⟩)
/-! ### subscripts of lists, tuples, texts; slices -/
def mIx (K : PySem.W.Frag) : R2 := fun x y H Q => match x, y with
  | .ref p, .int i => ∃ xs v, Sq K H p xs ∧ atI xs i = some v ∧ Q v H
  | .str z, .int i => z.length ≤ sizeLine ∧ ∃ c, atI z.cps.toList i = some c ∧ Q (.str ⟨#[c]⟩) H
  | _, _ => False
theorem im_ix : IxR X (mIx X.K) := fun value slice pins s σ H x y v u Q I rx ry q hs => ix_seq value slice pins s σ H x y v u Q I rx ry (by
  cases x <;> cases y <;> try exact q.elim
  · rename_i z i
    obtain ⟨hl, c, hc, q⟩ := q
    exact .inr (.inr ⟨z, i, c, rfl, rfl, hl, hc, q⟩)
  · rename_i p i
    obtain ⟨xs, v, h | h, hv, q⟩ := q
    · exact .inl ⟨p, xs, i, v, rfl, rfl, h, hv, q⟩
    · exact .inr (.inl ⟨p, xs, i, v, rfl, rfl, h, hv, q⟩)) hs
def mSl (K : PySem.W.Frag) : V → Option Int → Option Int → Hp → VK → Prop := fun x lo hi H Q => match x with
  | .ref a => (∃ xs, SqL K H a xs ∧ ∀ p, H p = none → Q (.ref p) (upd H p (.lst (cutV xs lo hi)))) ∨ ∃ xs, SqT K H a xs ∧ ∀ p H', Same H H' → SqT K H' p (cutV xs lo hi) → Q (.ref p) H'
  | .str z => z.length ≤ sizeLine ∧ Q (.str (cutS z lo hi)) H
  | _ => False
theorem cut_all {xs : List V} {lo hi : Option Int} (h : HT.sIx xs.length 0 lo = 0 ∧ HT.sIx xs.length xs.length hi = xs.length) : cutV xs lo hi = xs := by
  unfold cutV
  rw [h.1, h.2, List.drop_zero, Nat.sub_zero, List.take_length]
theorem sl_imp {r r' : V → Option Int → Option Int → Hp → VK → Prop} (h : SlR X r) (i : ∀ x lo hi H Q, r' x lo hi H Q → r x lo hi H Q) : SlR X r' := fun pins s σ H x v vl vu lo hi sl Q I rx hs pl pu q => h pins s σ H x v vl vu lo hi sl Q I rx hs pl pu (i _ _ _ _ _ q)
theorem sm_sl : SlR X (mSl X.K) := by
  refine sl_imp (SlR.or sl_list (SlR.or sl_tupA sl_str)) fun x lo hi H Q q => ?_
  cases x <;> try exact q.elim
  · rename_i z
    exact .inr (.inr ⟨z, rfl, q.1, q.2⟩)
  · rename_i a
    rcases q with ⟨xs, h, k⟩ | ⟨xs, h, k⟩
    · exact .inl ⟨a, xs, rfl, h, k⟩
    · refine .inr (.inl ⟨a, xs, rfl, h, fun e => ?_, fun e p hp => ?_⟩)
      · have z := k a H (Same.refl H)
        rw [cut_all e] at z
        exact z h
      · exact k p _ (Same.new hp) (.inl (.inl upd_same))
/-! ### attributes -/
/-- x.f is v -/
def Fld (K : PySem.W.Frag) (H : Hp) (x : V) (f : Str) (v : V) : Prop := ∃ (a C dx : Addr) (fs : List (Str × V)), x = .ref a ∧ H a = some (.ins C dx fs) ∧ Cls K C ∧ NoAttr K C f ∧ fs.lookup f = some v
def mFld (K : PySem.W.Frag) (ta : TE) (f : Str) : TE := fun σ H Q => ta σ H fun x H1 => ∃ v, Fld K H1 x f v ∧ Q v H1
theorem pe_mo2 {t : TE} (h : PE X e t) {r : V → Hp → VK → Prop} {t' : TE} (g : PE X e (fun σ H Q => t σ H fun x H1 => r x H1 Q)) : PE X e (fun σ H Q => t σ H fun x H1 => r x H1 Q) := g
theorem px_fld {f : Str} (he : PE X e ta) (hb : attributeBase e f X.env (eval e X.env) = eval e X.env := by rfl) : PE X (.Attribute e f pos) (mFld X.K ta f) := by
  refine ⟨fun pins s σ H Q I h => ?_⟩
  refine attr_of hb (thn (he.run pins s σ H _ I h) fun u s1 ⟨x, H1, I1, rx, v, ⟨a, C, dx, fs, ex, ea, c, n, l⟩, q⟩ => ?_)
  subst ex
  obtain rfl : u = Value.ref a := rx
  exact getattr_ok I1 ea c n l fun u' s' I' ru => ⟨v, H1, I', ru, q⟩
end
end SX
/-! what is walked, loops, comprehensions -/
namespace SX
open PySem PySem.Spec PyProof.Rows L2
open He (ga ma fAd)
/-- J walks the items xs, as long as S stands -/
structure Wk (J : It) (S : Hp → Prop) (xs : List V) : Prop where
  go : ∀ (i : Nat) x H, xs[i]? = some x → S H → J.go i H
  yld : ∀ (i : Nat) x H y H', xs[i]? = some x → S H → J.yld i H y H' → H' = H ∧ y = x
  stop : ∀ H, S H → J.stop xs.length H
theorem wk_list {K : PySem.W.Frag} {a : Addr} {xs : List V} : Wk (Itl K a) (fun H => SqL K H a xs) xs :=
  ⟨fun _ x _ h s => ⟨xs, x, s, h⟩, fun _ _ _ _ _ h s y => ⟨y.1, Option.some.inj ((y.2 xs s).symm.trans h)⟩, fun _ s => ⟨xs, s, Nat.le_refl _⟩⟩
theorem wk_tup {K : PySem.W.Frag} {a : Addr} {xs : List V} : Wk (Itt K a) (fun H => SqT K H a xs) xs :=
  ⟨fun _ x _ h s => ⟨xs, x, s, h⟩, fun _ _ _ _ _ h s y => ⟨y.1, Option.some.inj ((y.2 xs s).symm.trans h)⟩, fun _ s => ⟨xs, s, Nat.le_refl _⟩⟩
def rangeV (lo : Int) (n : Nat) : List V := (List.range n).map fun (i : Nat) => V.int (lo + (i : Int))
theorem rangeV_len (lo : Int) (n : Nat) : (rangeV lo n).length = n := by unfold rangeV; rw [List.length_map, List.length_range]
theorem rangeV_get {lo : Int} {n i : Nat} {x : V} (h : (rangeV lo n)[i]? = some x) : i < n ∧ x = .int (lo + (i : Int)) := by
  unfold rangeV at h
  rw [List.getElem?_map] at h
  by_cases hi : i < n
  · rw [List.getElem?_range hi] at h
    exact ⟨hi, (Option.some.inj h).symm⟩
  · rw [List.getElem?_eq_none (by rw [List.length_range]; omega)] at h
    cases h
theorem wk_range {lo : Int} {n : Nat} : Wk (Itr lo n) (fun _ => True) (rangeV lo n) :=
  ⟨fun _ _ _ h _ => (rangeV_get h).1, fun _ _ _ _ _ h _ y => ⟨y.1, y.2.trans (rangeV_get h).2.symm⟩, fun _ _ => Nat.le_of_eq (rangeV_len lo n).symm⟩
def signsV (z : Str) : List V := z.cps.toList.map fun c => V.str ⟨#[c]⟩
theorem wk_str {z : Str} : Wk (Its z) (fun _ => True) (signsV z) := by
  have key : ∀ {i : Nat} {x : V}, (signsV z)[i]? = some x → ∃ c, z.cps[i]? = some c ∧ x = .str ⟨#[c]⟩ := by
    intro i x h
    unfold signsV at h
    rw [List.getElem?_map] at h
    cases e : z.cps.toList[i]? with
    | none =>
      rw [e] at h
      cases h
    | some c =>
      rw [e] at h
      exact ⟨c, by simpa using e, (Option.some.inj h).symm⟩
  refine ⟨fun i x _ h _ => ?_, fun i x H y H' h _ q => ?_, fun _ _ => ?_⟩
  · obtain ⟨c, e, _⟩ := key h
    exact (Array.getElem?_eq_some_iff.mp e).1
  · obtain ⟨c, e, ex⟩ := key h
    obtain ⟨e1, c', e2, ey⟩ := q
    rw [e] at e2
    cases e2
    exact ⟨e1, ey.trans ex.symm⟩
  · show z.cps.size ≤ (signsV z).length
    unfold signsV
    rw [List.length_map, Array.length_toList]
    exact Nat.le_refl _
/-- what a value is walked as -/
inductive Src (K : PySem.W.Frag) : V → It → (Hp → Prop) → List V → Prop where
  | lst {a : Addr} {xs : List V} : Src K (.ref a) (Itl K a) (fun H => SqL K H a xs) xs
  | tup {a : Addr} {xs : List V} : Src K (.ref a) (Itt K a) (fun H => SqT K H a xs) xs
  | str {z : Str} : Src K (.str z) (Its z) (fun _ => True) (signsV z)
theorem Src.wk {K : PySem.W.Frag} {x : V} {J : It} {S : Hp → Prop} {xs : List V} (s : Src K x J S xs) : Wk J S xs := by
  cases s with
  | lst => exact wk_list
  | tup => exact wk_tup
  | str => exact wk_str
def mSeq (K : PySem.W.Frag) (tl : TE) : TI := fun σ H R => tl σ H fun x H1 => ∃ J S xs, Src K x J S xs ∧ S H1 ∧ R J H1
section
variable {X : Cx} {tg l : Expr} {tl : TE}
theorem pi_seq (hl : PE X l tl) : PI X tg l (mSeq X.K tl) := by
  refine ⟨fun pins s σ H R I h => ?_⟩
  refine thn (hl.run pins s σ H _ I h) fun v s1 ⟨x, H1, I1, r1, J, S, xs, src, st, q⟩ => ?_
  have push := fun (o : Obj) => (fun b ob (e : s1.heap.get? b = some ob) => Heap.get?_push_of_some o e : ∀ b ob, s1.heap.get? b = some ob → (s1.heap.push o).get? b = some ob)
  cases src with
  | lst =>
    cases r1
    obtain ⟨its, rv, p, hz⟩ := I1.list st
    refine wpAny_pyIter_list p.isList ⟨s1.heap.objs.size, [s1.heap.objs.size], _, _, H1, rfl, I1.kept (t' := s1.toks) (push _), turn_list _ _, ⟨_, Heap.get?_push_size _ rfl, rfl, rfl⟩, fun b hb => ?_, q⟩
    cases List.mem_singleton.mp hb
    exact I1.fpOk (Nat.le_refl _) (I1.hok.fresh (Nat.le_refl _))
  | tup =>
    cases r1
    obtain ⟨its, rv, p, hz⟩ := I1.tuple st
    refine wpAny_pyIter_tuple (show s1.heap.IsTuple _ its.toArray from p) ⟨s1.heap.objs.size, [s1.heap.objs.size], _, _, H1, rfl, I1.kept (t' := s1.toks) (push _), turn_tuple _ _, ⟨_, Heap.get?_push_size _ rfl, rfl, rfl⟩, fun b hb => ?_, q⟩
    cases List.mem_singleton.mp hb
    exact I1.fpOk (Nat.le_refl _) (I1.hok.fresh (Nat.le_refl _))
  | @str z =>
    obtain ⟨t, rfl⟩ := r1
    cases ha : z.cps.all (· < 128)
    · exact wpAny_pyIter_wide ha (pi_one (tk := s1.toks) I1 _ (turn_str _ z t "str_iterator" (.inr rfl)) ⟨_, Heap.get?_push_size _ rfl, rfl, rfl⟩ q)
    · exact wpAny_pyIter_ascii ha (pi_one (tk := s1.toks) I1 _ (turn_str _ z t "str_ascii_iterator" (.inl rfl)) ⟨_, Heap.get?_push_size _ rfl, rfl, rfl⟩ q)
end
/-! ### for -/
theorem for_wk {J : It} {S : Hp → Prop} {xs : List V} {g : TG} {tb : TS} {D : Ends} {σ : L2.St} {H : Hp} (w : Wk J S xs) (Pv : Nat → L2.St → Hp → Prop) (h0 : Pv 0 σ H) (hl : ∀ i σ H, i ≤ xs.length → Pv i σ H → S H)
    (hs : ∀ i x σ H, xs[i]? = some x → Pv i σ H → g x σ H fun σ2 H2 => tb { D with nx := Pv (i + 1), ct := Pv (i + 1), bk := D.nx } σ2 H2) (hd : ∀ σ H, Pv xs.length σ H → D.nx σ H) :
    ∃ W : Nat → Nat → L2.St → Hp → Prop, (∃ m, W 0 m σ H) ∧ ∀ i m σ H, W i m σ H →
      (J.stop i H ∧ D.nx σ H) ∨ (J.go i H ∧ ∃ N : L2.St → Hp → Prop, (∀ σ' H', N σ' H' → ∃ m', m' < m ∧ W (i + 1) m' σ' H') ∧ ∀ x H', J.yld i H x H' → g x σ H' fun σ2 H2 => tb { D with nx := N, ct := N, bk := D.nx } σ2 H2) := by
  refine ⟨fun i m σ H => m = xs.length - i ∧ i ≤ xs.length ∧ Pv i σ H, ⟨xs.length, rfl, Nat.zero_le _, h0⟩, fun i m σ H ⟨em, hi, p⟩ => ?_⟩
  have st := hl i σ H hi p
  rcases Nat.lt_or_eq_of_le hi with lt | eq
  · have hx := List.getElem?_eq_getElem lt
    refine .inr ⟨w.go i _ H hx st, Pv (i + 1), fun σ' H' p' => ⟨xs.length - (i + 1), by omega, rfl, lt, p'⟩, fun y H' hy => ?_⟩
    obtain ⟨rfl, rfl⟩ := w.yld i _ H y H' hx st hy
    exact hs i _ σ _ hx p
  · subst eq
    exact .inl ⟨w.stop H st, hd σ H p⟩
/-- a loop in which nothing that stood changes, and of which nothing is told but that it came through -/
theorem for_each {J : It} {S : Hp → Prop} {xs : List V} {g : TG} {tb : TS} {D : Ends} {σ : L2.St} {H : Hp} (w : Wk J S xs) (Sv : L2.St → Prop) (s0 : Sv σ) (st : ∀ H', Same H H' → S H')
    (hs : ∀ (i : Nat) x σ' H', xs[i]? = some x → Sv σ' → Same H H' → g x σ' H' fun σ2 H2 => tb { D with nx := fun σ3 H3 => Sv σ3 ∧ Same H H3, ct := fun σ3 H3 => Sv σ3 ∧ Same H H3, bk := D.nx } σ2 H2) (hd : ∀ σ' H', Sv σ' → Same H H' → D.nx σ' H') :
    ∃ W : Nat → Nat → L2.St → Hp → Prop, (∃ m, W 0 m σ H) ∧ ∀ i m σ H, W i m σ H →
      (J.stop i H ∧ D.nx σ H) ∨ (J.go i H ∧ ∃ N : L2.St → Hp → Prop, (∀ σ' H', N σ' H' → ∃ m', m' < m ∧ W (i + 1) m' σ' H') ∧ ∀ x H', J.yld i H x H' → g x σ H' fun σ2 H2 => tb { D with nx := N, ct := N, bk := D.nx } σ2 H2) :=
  for_wk w (fun _ σ' H' => Sv σ' ∧ Same H H') ⟨s0, Same.refl H⟩ (fun _ _ H' _ p => st H' p.2) (fun (i : Nat) x σ' H' hx p => hs i x σ' H' hx p.1 p.2) fun σ' H' p => hd σ' H' p.1 p.2
/-! ### comprehensions -/
theorem lc_wk {J : It} {S : Hp → Prop} {xs : List V} {g : TG} {tt : TT} {te : TE} {vs : List Nat} {σ : L2.St} {H1 : Hp} {D : Addr} {Qd : Hp → Prop} (w : Wk J S xs) (Pv : Nat → Hp → Prop) (h0 : Pv 0 (upd H1 D (.lst [])))
    (hl : ∀ i H, i ≤ xs.length → Pv i H → S H)
    (hs : ∀ (i : Nat) x H, xs[i]? = some x → Pv i H → g x (wipe σ vs) H fun σ2 H2 => wipe σ2 vs = wipe σ vs ∧ tt σ2 H2 fun b H3 =>
      if b = true then te σ2 H3 fun y H4 => ∃ acc, H4 D = some (.lst acc) ∧ acc.length < sizeLine ∧ Pv (i + 1) (upd H4 D (.lst (acc ++ [y]))) else Pv (i + 1) H3) (hd : ∀ H, Pv xs.length H → Qd H) :
    ∃ W : Nat → Nat → Hp → Prop, (∃ m, W 0 m (upd H1 D (.lst []))) ∧ ∀ i m H, W i m H →
      (J.stop i H ∧ Qd H) ∨ (J.go i H ∧ ∃ Nx : Hp → Prop, (∀ H', Nx H' → ∃ m', m' < m ∧ W (i + 1) m' H') ∧ ∀ x H', J.yld i H x H' → g x (wipe σ vs) H' fun σ2 H2 => wipe σ2 vs = wipe σ vs ∧ tt σ2 H2 fun b H3 =>
        if b = true then te σ2 H3 fun y H4 => ∃ acc, H4 D = some (.lst acc) ∧ acc.length < sizeLine ∧ Nx (upd H4 D (.lst (acc ++ [y]))) else Nx H3) := by
  refine ⟨fun i m H => m = xs.length - i ∧ i ≤ xs.length ∧ Pv i H, ⟨xs.length, rfl, Nat.zero_le _, h0⟩, fun i m H ⟨em, hi, p⟩ => ?_⟩
  have st := hl i H hi p
  rcases Nat.lt_or_eq_of_le hi with lt | eq
  · have hx := List.getElem?_eq_getElem lt
    refine .inr ⟨w.go i _ H hx st, Pv (i + 1), fun H' p' => ⟨xs.length - (i + 1), by omega, rfl, lt, p'⟩, fun y H' hy => ?_⟩
    obtain ⟨rfl, rfl⟩ := w.yld i _ H y H' hx st hy
    exact hs i _ _ hx p
  · subst eq
    exact .inl ⟨w.stop H st, hd H p⟩
/-- which turns give (p), and what (f) -/
def given (n : Nat) (p : Nat → Bool) (f : Nat → V) : List V := ((List.range n).filter p).map f
theorem given_len (n : Nat) (p : Nat → Bool) (f : Nat → V) : (given n p f).length ≤ n := by
  unfold given
  rw [List.length_map]
  exact Nat.le_trans (List.length_filter_le _ _) (Nat.le_of_eq List.length_range)
theorem given_more {n : Nat} {p : Nat → Bool} {f : Nat → V} : given (n + 1) p f = given n p f ++ if p n = true then [f n] else [] := by
  unfold given
  rw [List.range_succ, List.filter_append, List.map_append]
  congr 1
  cases e : p n <;> simp [e]
/-- all that stood but the list at D -/
theorem same_but {H H' : Hp} {D : Addr} {o : HO} (hn : H D = none) (e : Same H H') : Same H (upd H' D o) := fun b u h => by
  rw [upd_ne (ne_of_none h hn)]
  exact e b u h
theorem lc_pure {J : It} {S : Hp → Prop} {xs : List V} {g : TG} {tt : TT} {te : TE} {vs : List Nat} {σ : L2.St} {H : Hp} {Qd : Addr → Hp → Prop} (w : Wk J S xs) (p : Nat → Bool) (f : Nat → V) (sz : xs.length ≤ 100000) (st : ∀ H', Same H H' → S H')
    (hs : ∀ (i : Nat) x H' (Q' : VK) (R' : Hp → Prop), xs[i]? = some x → Same H H' → (p i = true → ∀ H'', Same H' H'' → Q' (f i) H'') → (p i = false → ∀ H'', Same H' H'' → R' H'') →
      g x (wipe σ vs) H' fun σ2 H2 => wipe σ2 vs = wipe σ vs ∧ tt σ2 H2 fun b H3 => if b = true then te σ2 H3 Q' else R' H3)
    (hd : ∀ D H', H D = none → Same H H' → H' D = some (.lst (given xs.length p f)) → Qd D H') :
    ∀ D, H D = none → ∃ W : Nat → Nat → Hp → Prop, (∃ m, W 0 m (upd H D (.lst []))) ∧ ∀ i m H, W i m H →
      (J.stop i H ∧ Qd D H) ∨ (J.go i H ∧ ∃ Nx : Hp → Prop, (∀ H', Nx H' → ∃ m', m' < m ∧ W (i + 1) m' H') ∧ ∀ x H', J.yld i H x H' → g x (wipe σ vs) H' fun σ2 H2 => wipe σ2 vs = wipe σ vs ∧ tt σ2 H2 fun b H3 =>
        if b = true then te σ2 H3 fun y H4 => ∃ acc, H4 D = some (.lst acc) ∧ acc.length < sizeLine ∧ Nx (upd H4 D (.lst (acc ++ [y]))) else Nx H3) := fun D hD =>
  lc_wk w (fun i H' => Same H H' ∧ H' D = some (.lst (given i p f))) ⟨Same.new hD, upd_same⟩ (fun i H' _ q => st H' q.1) (fun i x H' hx q => by
    have hi : i < xs.length := (List.getElem?_eq_some_iff.mp hx).1
    refine hs i x H' _ _ hx q.1 (fun hp H'' e => ⟨given i p f, e D _ q.2, len_lt (by have := given_len i p f; omega), same_but hD (q.1.trans e), ?_⟩) fun hp H'' e => ⟨q.1.trans e, ?_⟩
    · rw [upd_same, given_more, if_pos hp]
    · rw [given_more, hp, e D _ q.2]
      simp) fun H' q => hd D H' hD q.1 q.2
theorem wipe_set {σ : L2.St} {i : Nat} {v : Option V} : wipe ((wipe σ [i]).set i v) [i] = wipe σ [i] := by
  show (((σ.set i none).set i v).set i none) = σ.set i none
  rw [List.set_set, List.set_set]
end SX
/-! instances without an __eq__ of their own: == by identity, in, not in -/
namespace SX
open PySem PySem.Spec PyProof.Rows L2 PySem.SeqAt
open He (ga ma fAd)
section
variable {M : Model} {prog : Program} {w : World} {A : Around} {E : Value → Shared → Prop} {s : Shared} {K : PySem.W.Frag} {x y C D : Addr} {ox oy : Obj} {od od' : Option Obj}
theorem inst_cls (I : PySem.W.InstAt s.heap x ox C od) : ox.cls ≠ .type "tuple" := fun e => by
  have h := I.cls
  rw [h] at e
  cases e
theorem oeq_other (X : K.In s.heap) (I : PySem.W.InstAt s.heap x ox C od) (J : PySem.W.InstAt s.heap y oy D od') (O : OeqA K C) (hxy : x ≠ y) {Q : Value → Shared → Prop} (hq : Q .notImplemented s) :
    wpAny (model prog w) A (call (.builtin "object.__eq__") [.ref x, .ref y]) Q E s := by
  refine wpAny_call (codeAny_call_builtin F.cmp_object.eq.plain F.cmpEntry_eq ?_)
  refine @PySem.W.check_slot (model prog w) _ _ s "object.__eq__" "object" "__eq__" (.ref x) [.ref y] [] _ F.cmpKind_eq F.cmpSplit_eq (I.type.andThen (PySem.W.looks_mroIn X O.hm)) (F.cmpArgs_eq _ _) ?_
  exact objEq_entry_other hxy I.at_ J.at_ (inst_cls I) hq
theorem try_other (X : K.In s.heap) (I : PySem.W.InstAt s.heap x ox C od) (J : PySem.W.InstAt s.heap y oy D od') (O : OeqA K C) (hxy : x ≠ y) : wpAny (model prog w) A (tryCompare (.ref x) "__eq__" (.ref y)) (fun r s' => r = none ∧ s' = s) E s := by
  unfold tryCompare
  exact wpAny_bind (HN.ifBound_objEq X I O.eq (oeq_other X I J O hxy (wpAny_pure ⟨rfl, rfl⟩)))
theorem sub_some (O : OeqA K C) (v : Value) : ∃ b, PySem.W.subIn K (.ref C) v = some b := by
  have h := O.hm
  unfold PySem.W.mroIn at h
  obtain ⟨cd, a, b⟩ := Option.bind_eq_some_iff.mp h
  split at b
  · cases b
  · rename_i q
    refine ⟨cd.mro.contains v, ?_⟩
    show PySem.W.mroIn K C v = _
    unfold PySem.W.mroIn
    rw [a, Option.bind_some, if_neg q]
/-- two unlike instances aren't equal -/
theorem rc_inst (hu : A.units < cLine) (X : K.In s.heap) (I : PySem.W.InstAt s.heap x ox C od) (J : PySem.W.InstAt s.heap y oy D od') (O : OeqA K C) (O' : OeqA K D) (hxy : x ≠ y) : RcAt A s (.ref x) (.ref y) false := fun prog w E Q h => by
  have one := try_other (prog := prog) (w := w) (A := A) (E := E) X I J O hxy
  have two := try_other (prog := prog) (w := w) (A := A) (E := E) X J I O' hxy.symm
  obtain ⟨b, hb⟩ := sub_some O' (.ref C)
  have last : wpAny (model prog w) A (isSame (.ref x) (.ref y)) (fun r s' => r = false ∧ s' = s) E s := wpAny_isSame_ref_other hxy I.at_ J.at_ (inst_cls I) ⟨rfl, rfl⟩
  have fin : wpAny (model prog w) A (isSame (.ref x) (.ref y)) (fun r s' => Q (.bool r) s') E s := wpAny_mono last (fun r s' ⟨e1, e2⟩ => by subst e1; subst e2; exact h) fun _ _ z => z
  simp only [richCompare, cmpInfo_Eq, oneThing_ref]
  refine wpAny_holding (wpAny_bind (wpAny_cRoomFor hu ?_))
  refine wpAny_bind (I.type.here (wpAny_bind (J.type.here ?_)))
  split
  · refine wpAny_bind ((PySem.W.looks_subIn X hb).here ?_)
    cases b with
    | true =>
      simp only [if_true, Bool.not_true, Bool.false_eq_true, if_false]
      refine wpAny_bind (m := tryCompare (.ref y) _ (.ref x)) (wpAny_mono two (fun r s1 ⟨e1, e2⟩ => ?_) fun _ _ e => e)
      subst e1
      subst e2
      refine wpAny_bind (m := tryCompare (.ref x) _ (.ref y)) (wpAny_mono one (fun r s1 ⟨e1, e2⟩ => ?_) fun _ _ e => e)
      subst e1
      subst e2
      exact wpAny_bind (wpAny_rule (wpAny_bind (wpAny_mono fin (fun r s' q => wpAny_pure q) fun _ _ z => z)))
    | false =>
      simp only [Bool.false_eq_true, if_false, Bool.not_false, if_true]
      refine wpAny_bind (m := tryCompare (.ref x) _ (.ref y)) (wpAny_mono one (fun r s1 ⟨e1, e2⟩ => ?_) fun _ _ e => e)
      subst e1
      subst e2
      refine wpAny_bind (m := tryCompare (.ref y) _ (.ref x)) (wpAny_mono two (fun r s1 ⟨e1, e2⟩ => ?_) fun _ _ e => e)
      subst e1
      subst e2
      exact wpAny_bind (wpAny_rule (wpAny_bind (wpAny_mono fin (fun r s' q => wpAny_pure q) fun _ _ z => z)))
  · refine wpAny_bind (wpAny_pure ?_)
    simp only [Bool.false_eq_true, if_false, Bool.not_false, if_true]
    refine wpAny_bind (m := tryCompare (.ref x) _ (.ref y)) (wpAny_mono one (fun r s1 ⟨e1, e2⟩ => ?_) fun _ _ e => e)
    subst e1
    subst e2
    refine wpAny_bind (m := tryCompare (.ref y) _ (.ref x)) (wpAny_mono two (fun r s1 ⟨e1, e2⟩ => ?_) fun _ _ e => e)
    subst e1
    subst e2
    exact wpAny_bind (wpAny_rule (wpAny_bind (wpAny_mono fin (fun r s' q => wpAny_pure q) fun _ _ z => z)))
theorem eqAt_inst (hu : A.units < cLine) (X : K.In s.heap) (I : PySem.W.InstAt s.heap x ox C od) (J : PySem.W.InstAt s.heap y oy D od') (O : OeqA K C) (O' : OeqA K D) : EqAt A s (.ref x) (.ref y) (decide (x = y)) := by
  by_cases e : x = y
  · subst e
    rw [decide_eq_true rfl]
    exact EqAt.same _
  · rw [decide_eq_false e]
    intro prog w E Q h
    unfold eqBool
    refine wpAny_holding ?_
    refine wpAny_ite_split (fun hab => absurd (Value.ref.inj (eq_of_beq hab)) e) (fun _ => ?_)
    exact wpAny_bind (rc_inst hu X I J O O' e prog w E _ (wpAny_truthy_bool h))
theorem oeq_same (X : K.In s.heap) (I : PySem.W.InstAt s.heap x ox C od) (O : OeqA K C) {Q : Value → Shared → Prop} (hq : Q (.bool true) s) : wpAny (model prog w) A (call (.builtin "object.__eq__") [.ref x, .ref x]) Q E s := by
  refine wpAny_call (codeAny_call_builtin F.cmp_object.eq.plain F.cmpEntry_eq ?_)
  refine @PySem.W.check_slot (model prog w) _ _ s "object.__eq__" "object" "__eq__" (.ref x) [.ref x] [] _ F.cmpKind_eq F.cmpSplit_eq (I.type.andThen (PySem.W.looks_mroIn X O.hm)) (F.cmpArgs_eq _ _) ?_
  exact objEq_entry_same hq
theorem one_ne (hu : A.units < cLine) (X : K.In s.heap) (I : PySem.W.InstAt s.heap x ox C od) (O : OeqA K C) {Q : Fin → Shared → Prop} (hq : Q (.done (.ret (.bool false))) s) : wpAny (model prog w) A (Builtin.«object.__ne__» ⟨[.ref x, .ref x], []⟩) Q E s := by
  unfold Builtin.«object.__ne__»
  have one : wpAny (model prog w) A (callSpecialIfBound? (.ref x) "__eq__" [.ref x]) (fun r s' => r = some (.bool true) ∧ s' = s) E s := HN.ifBound_objEq X I O.eq (oeq_same X I O ⟨rfl, rfl⟩)
  refine wpAny_bind (wpAny_of_eq (a := ((.ref x, [.ref x]) : Value × List Value)) (by first | rfl | kernel_rfl) ?_)
  refine wpAny_bind (wpAny_cRoomFor hu ?_)
  refine wpAny_bind (m := callSpecialIfBound? (.ref x) _ [.ref x]) (wpAny_mono one (fun r s1 ⟨e1, e2⟩ => ?_) fun _ _ e => e)
  subst e1
  subst e2
  exact wpAny_bind (wpAny_truthy_bool (wpAny_pure hq))
theorem ifBound_ne {args : List Value} {Q : Option Value → Shared → Prop} (X : K.In s.heap) (I : PySem.W.InstAt s.heap x ox C od) (O : OeqA K C)
    (h : wpAny M A (call (.builtin "object.__ne__") (.ref x :: args)) (fun v => Q (some v)) E s) : wpAny M A (callSpecialIfBound? (.ref x) "__ne__" args) Q E s := by
  simp only [callSpecialIfBound?, bindSpecialIfBound?]
  refine wpAny_holding (wpAny_bind (wpAny_bind (wpAny_bind (I.type.here ((PySem.W.looks_findIn X O.ne).here ?_)))))
  have fin : wpAny M A (call (.builtin "object.__ne__") ([.ref x] ++ args) >>= fun v => pure (some v)) Q E s := wpAny_bind (wpAny_mono h (fun v s' z => wpAny_pure z) fun _ _ z => z)
  refine wpAny_bind (wpAny_askSetting (wpAny_ite ?_))
  split
  · exact wpAny_bind (wpAny_of_eq (F.cmp_object.ne.bind _) (wpAny_pure fin))
  · exact wpAny_tryCatch (wpAny_bind (wpAny_of_eq (F.cmp_object.ne.bind _) (wpAny_pure fin)))
/-- one thing isn't unlike itself -/
theorem ne_self (hu : A.units + 1 < cLine) (X : K.In s.heap) (I : PySem.W.InstAt s.heap x ox C od) (O : OeqA K C) {Q : Value → Shared → Prop} (h : Q (.bool false) s) : wpAny (model prog w) A (richCompare .NotEq (.ref x) (.ref x)) Q E s := by
  have one : wpAny (model prog w) A (tryCompare (.ref x) "__ne__" (.ref x)) (fun r s' => r = some (.bool false) ∧ s' = s) E s := by
    unfold tryCompare
    refine wpAny_bind (ifBound_ne X I O (wpAny_call (codeAny_call_builtin F.cmp_object.ne.plain F.cmpEntry_ne ?_)))
    refine @PySem.W.check_slot (model prog w) _ _ s "object.__ne__" "object" "__ne__" (.ref x) [.ref x] [] _ F.cmpKind_ne F.cmpSplit_ne (I.type.andThen (PySem.W.looks_mroIn X O.hm)) (F.cmpArgs_ne _ _) ?_
    refine one_ne (A := A.in1) hu X I O ?_
    exact wpAny_pure ⟨rfl, rfl⟩
  simp only [richCompare, cmpInfo_NotEq, oneThing_ref]
  refine wpAny_holding (wpAny_bind (wpAny_cRoomFor (by omega) ?_))
  refine wpAny_bind (I.type.here (wpAny_bind (I.type.here ?_)))
  rw [if_neg (by simp)]
  refine wpAny_bind (wpAny_pure ?_)
  simp only [Bool.false_eq_true, if_false, Bool.not_false, if_true]
  refine wpAny_bind (m := tryCompare (.ref x) _ (.ref x)) (wpAny_mono one (fun r s1 ⟨e1, e2⟩ => ?_) fun _ _ e => e)
  subst e1
  subst e2
  exact wpAny_pure h
end
/-! ### readings -/
/-- an instance that is compared by identity -/
def Idy (K : PySem.W.Frag) (H : Hp) (a : Addr) : Prop := ∃ (C dx : Addr) (fs : List (Str × V)), H a = some (.ins C dx fs) ∧ OeqA K C
section
variable {X : Cx}
theorem idy_at {pins : List (Addr × Obj)} {σ : L2.St} {H : Hp} {s : Shared} {a : Addr} (I : Inv X pins σ H s) (h : Idy X.K H a) : ∃ C ox od, PySem.W.InstAt s.heap a ox C od ∧ OeqA X.K C := by
  obtain ⟨C, dx, fs, ha, O⟩ := h
  obtain ⟨mA, Om, _⟩ := ins_get I.hok ha
  obtain ⟨od, J, _⟩ := Om.look
  exact ⟨C, _, _, J, O⟩
def rNeSelf (K : PySem.W.Frag) : R2 := fun x y H Q => ∃ a, x = .ref a ∧ y = .ref a ∧ Idy K H a ∧ Q (.bl false) H
theorem op_neSelf (hu : X.A.units + 64 < cLine) : OpR X (compareOp .NotEq) (rNeSelf X.K) := by
  intro pins s σ H x y v u Q I rx ry h
  obtain ⟨a, rfl, rfl, hi, q⟩ := h
  cases rx
  cases ry
  obtain ⟨C, ox, od, J, O⟩ := idy_at I hi
  unfold compareOp
  exact ne_self (by omega) I.kIn J O ⟨.bl false, H, I, rfl, q⟩
/-- a in / not in a list of such -/
def rInI (K : PySem.W.Frag) (neg : Bool) : R2 := fun x y H Q => ∃ (a p : Addr) (as : List Addr), x = .ref a ∧ y = .ref p ∧ SqL K H p (as.map V.ref) ∧ Idy K H a ∧ (∀ b ∈ as, Idy K H b) ∧ Q (.bl (if neg then !decide (a ∈ as) else decide (a ∈ as))) H
def sameRef (a : Addr) : Value → Bool
  | .ref b => decide (b = a)
  | _ => false
theorem idy_mem {A : Around} {pins : List (Addr × Obj)} {σ : L2.St} {H : Hp} {s : Shared} {a : Addr} (I : Inv X pins σ H s) (hu : A.units < cLine) (ha : Idy X.K H a) : ∀ {as : List Addr} {us : List Value}, Vals (as.map V.ref) us → (∀ b ∈ as, Idy X.K H b) →
    (∀ u ∈ us, EqAt A s u (.ref a) (sameRef a u)) ∧ us.any (sameRef a) = decide (a ∈ as)
  | [], _, .nil, _ => ⟨fun u hu' => (nomatch hu'), (by simp)⟩
  | b :: as, u :: us, .cons r t, f => by
    obtain ⟨h1, h2⟩ := idy_mem I hu ha t fun z hz => f z (List.mem_cons_of_mem _ hz)
    obtain rfl : u = Value.ref b := r
    obtain ⟨C, ox, od, J, O⟩ := idy_at I ha
    obtain ⟨C', ox', od', J', O'⟩ := idy_at I (f b (List.mem_cons_self ..))
    refine ⟨fun u hm => ?_, ?_⟩
    · rcases List.mem_cons.mp hm with e | hm
      · subst e
        exact eqAt_inst hu I.kIn J' J O' O
      · exact h1 u hm
    · rw [List.any_cons, h2]
      show (decide (b = a) || decide (a ∈ as)) = decide (a ∈ b :: as)
      by_cases e : b = a
      · subst e
        simp
      · have e' : ¬ a = b := fun z => e z.symm
        simp [e, e']
theorem op_inI (hu : X.A.units + 64 < cLine) : OpR X (compareOp .In) (rInI X.K false) := by
  intro pins s σ H x y v u Q I rx ry h
  obtain ⟨a, p, as, rfl, rfl, hp, ha, hb, q⟩ := h
  cases rx
  cases ry
  obtain ⟨its, rv, hl, _⟩ := I.list hp
  have hu1 : X.A.in1.units < cLine := by show X.A.units + 1 < cLine; omega
  obtain ⟨h1, h2⟩ := idy_mem I hu1 ha rv hb
  refine in_listAt (sameRef a) hl.isList (fun z hz => h1 z (by simpa using hz)) ⟨.bl _, H, I, rfl, ?_⟩
  rw [show its.toArray.any (sameRef a) = its.any (sameRef a) by simp, h2]
  exact q
theorem op_notInI (hu : X.A.units + 64 < cLine) : OpR X (compareOp .NotIn) (rInI X.K true) := by
  intro pins s σ H x y v u Q I rx ry h
  obtain ⟨a, p, as, rfl, rfl, hp, ha, hb, q⟩ := h
  cases rx
  cases ry
  obtain ⟨its, rv, hl, _⟩ := I.list hp
  have hu1 : X.A.in1.units < cLine := by show X.A.units + 1 < cLine; omega
  obtain ⟨h1, h2⟩ := idy_mem I hu1 ha rv hb
  refine notIn_listAt (sameRef a) hl.isList (fun z hz => h1 z (by simpa using hz)) ⟨.bl _, H, I, rfl, ?_⟩
  rw [show its.toArray.any (sameRef a) = its.any (sameRef a) by simp, h2]
  exact q
end
end SX
/-! values and built-ins, further -/
namespace SX
open PySem PySem.Spec PyProof.Rows L2
open He (ga ma fAd)
theorem callR_imp {X : Cx} {f : Value} {r r' : List V → Hp → VK → Prop} (h : CallR X f r) (i : ∀ xs H Q, r' xs H Q → r xs H Q) : CallR X f r' := fun pins s σ H xs us Q I rs q => h pins s σ H xs us Q I rs (i xs H Q q)
section
variable {X : Cx} {e a b : Expr} {ta tb : TE} {pos p : Pos} {x : Str}
/-! ### a module's constants; a number below nought -/
theorem px_gi {i : Int} (hg : Gl X x) (hm : ∃ t, X.mg x = some (.int i t)) (hd : (x == ("__debug__" : Str)) = false := by decide) : PE X (.Name x pos) (tC (.int i)) := by
  obtain ⟨t, hm⟩ := hm
  exact pe_glob hg hm ⟨t, rfl⟩ hd
theorem px_gs {z : Str} (hg : Gl X x) (hm : ∃ t, X.mg x = some (.str z t)) (hd : (x == ("__debug__" : Str)) = false := by decide) : PE X (.Name x pos) (tC (.str z)) := by
  obtain ⟨t, hm⟩ := hm
  exact pe_glob hg hm ⟨t, rfl⟩ hd
theorem px_neg {i : Int} {k : Nat} {p1 : Pos} : PE X (.UnaryOp .USub (.Constant (.int i) k p1) pos) (tC (.int (-i))) := pe_imp (pe_un un_neg pe_int) fun σ H Q h => ⟨i, rfl, h⟩
/-! ### isinstance -/
theorem kit_b (t T : String) {b : Bool} (h : kitB t T = some b) {K : PySem.W.Frag} : PySem.W.kitOne K (.type t) (.type T) = some b := kit_ty h
/-- isinstance(e, int): every other thing by its type -/
def mIsInt (K : PySem.W.Frag) : List V → Hp → VK → Prop := fun xs H Q => match xs with
  | [.int _, _] => Q (.bl true) H
  | [.bl _, _] => Q (.bl true) H
  | [.str _, _] => Q (.bl false) H
  | [.non, _] => Q (.bl false) H
  | [x, _] => ∃ t b, TyX K H x t ∧ PySem.W.kitOne K t (.type "int") = some b ∧ Q (.bl b) H
  | _ => False
def mIsBool (K : PySem.W.Frag) : List V → Hp → VK → Prop := fun xs H Q => match xs with
  | [.int _, _] => Q (.bl false) H
  | [.bl _, _] => Q (.bl true) H
  | [.str _, _] => Q (.bl false) H
  | [.non, _] => Q (.bl false) H
  | [x, _] => ∃ t b, TyX K H x t ∧ PySem.W.kitOne K t (.type "bool") = some b ∧ Q (.bl b) H
  | _ => False
def mIsStr (K : PySem.W.Frag) : List V → Hp → VK → Prop := fun xs H Q => match xs with
  | [.int _, _] => Q (.bl false) H
  | [.bl _, _] => Q (.bl false) H
  | [.str _, _] => Q (.bl true) H
  | [.non, _] => Q (.bl false) H
  | [x, _] => ∃ t b, TyX K H x t ∧ PySem.W.kitOne K t (.type "str") = some b ∧ Q (.bl b) H
  | _ => False
def mIsC (K : PySem.W.Frag) (u : Value) : List V → Hp → VK → Prop := fun xs H Q => match xs with
  | [x, _] => ∃ t b, TyX K H x t ∧ PySem.W.kitOne K t u = some b ∧ Q (.bl b) H
  | _ => False
/-- isinstance(e, (list, tuple)), the tuple just laid at tp -/
def mIsSeq (K : PySem.W.Frag) : List V → Hp → VK → Prop := fun xs H Q => match xs with
  | [.int _, _] => Q (.bl false) H
  | [.bl _, _] => Q (.bl false) H
  | [.str _, _] => Q (.bl false) H
  | [.non, _] => Q (.bl false) H
  | [x, _] => ∃ t b, TyX K H x t ∧ PySem.W.kitAny K t [.type "list", .type "tuple"] = some b ∧ Q (.bl b) H
  | _ => False
theorem isi_ty {K : PySem.W.Frag} {T : String} {xs : List V} {H : Hp} {Q : VK} {x : V} {t : Value} {b : Bool} (ex : xs = [x, .ty T]) (ty : TyX K H x t) (k : PySem.W.kitOne K t (.type T) = some b) (q : Q (.bl b) H) : rIsi K xs H Q := ⟨x, .ty T, t, .type T, b, ex, .ty T, ty, k, q⟩
theorem isb_int {K : PySem.W.Frag} (x : V) (H : Hp) (Q : VK) (h : mIsInt K [x, .ty "int"] H Q) : rIsi K [x, .ty "int"] H Q := by
  cases x with
  | int i => exact isi_ty rfl (.base (.int i)) (kit_b "int" "int" (by decide +kernel)) h
  | bl i => exact isi_ty rfl (.base (.bl i)) (kit_b "bool" "int" (by decide +kernel)) h
  | str i => exact isi_ty rfl (.base (.str i)) (kit_b "str" "int" (by decide +kernel)) h
  | non => exact isi_ty rfl (.base .non) (kit_b "NoneType" "int" (by decide +kernel)) h
  | _ =>
    obtain ⟨t, b, ty, k, q⟩ := h
    exact isi_ty rfl ty k q
theorem isb_bool {K : PySem.W.Frag} (x : V) (H : Hp) (Q : VK) (h : mIsBool K [x, .ty "bool"] H Q) : rIsi K [x, .ty "bool"] H Q := by
  cases x with
  | int i => exact isi_ty rfl (.base (.int i)) (kit_b "int" "bool" (by decide +kernel)) h
  | bl i => exact isi_ty rfl (.base (.bl i)) (kit_b "bool" "bool" (by decide +kernel)) h
  | str i => exact isi_ty rfl (.base (.str i)) (kit_b "str" "bool" (by decide +kernel)) h
  | non => exact isi_ty rfl (.base .non) (kit_b "NoneType" "bool" (by decide +kernel)) h
  | _ =>
    obtain ⟨t, b, ty, k, q⟩ := h
    exact isi_ty rfl ty k q
theorem isb_str {K : PySem.W.Frag} (x : V) (H : Hp) (Q : VK) (h : mIsStr K [x, .ty "str"] H Q) : rIsi K [x, .ty "str"] H Q := by
  cases x with
  | int i => exact isi_ty rfl (.base (.int i)) (kit_b "int" "str" (by decide +kernel)) h
  | bl i => exact isi_ty rfl (.base (.bl i)) (kit_b "bool" "str" (by decide +kernel)) h
  | str i => exact isi_ty rfl (.base (.str i)) (kit_b "str" "str" (by decide +kernel)) h
  | non => exact isi_ty rfl (.base .non) (kit_b "NoneType" "str" (by decide +kernel)) h
  | _ =>
    obtain ⟨t, b, ty, k, q⟩ := h
    exact isi_ty rfl ty k q
theorem isb_T {K : PySem.W.Frag} {T : String} (x : V) (H : Hp) (Q : VK) (h : mIsC K (.type T) [x, .ty T] H Q) : rIsi K [x, .ty T] H Q := by
  obtain ⟨t, b, ty, k, q⟩ := h
  exact isi_ty rfl ty k q
/-- isinstance(e, T), T a built-in type by its name -/
theorem px_isT {T : Str} {Tn : String} {r : List V → Hp → VK → Prop} {p0 : Pos} (hr : ∀ x H Q, r [x, .ty Tn] H Q → rIsi X.K [x, .ty Tn] H Q) (hvT : bootBuiltins T = some (.type Tn)) (hg : Gl X "isinstance") (hm : X.mg "isinstance" = none) (hgT : Gl X T) (hmT : X.mg T = none) (he : PE X e ta)
    (hv : bootBuiltins "isinstance" = some (.builtin "isinstance") := by decide +kernel) (h1 : T ≠ "__name__" := by decide) (h2 : (T == ("__debug__" : Str)) = false := by decide)
    (hs : starEach [e, .Name T p] X.env = (false, eval e X.env) :: starEach [.Name T p] X.env := by rfl) (hs2 : starEach [.Name T p] X.env = (false, eval (.Name T p) X.env) :: starEach [] X.env := by rfl) (hpl : (backTo pos (starEach [.Name T p] X.env)).any (·.1) = false := by rfl) :
    PE X (.Call (.Name "isinstance" p0) [e, .Name T p] [] pos) (fun σ H Q => ta σ H fun x H1 => r [x, .ty Tn] H1 Q) :=
  pe_imp (pe_callB call_isi hg hm hv (pa_cons (pe_mo he) (pa_cons (pe_bltn (v := .ty Tn) hgT hmT hvT (show RelV (.ty Tn) (.type Tn) from rfl) h1 h2) pa_nil hs2) hs) (by decide) (by decide) hs hpl) fun σ H Q h => ⟨_, h, fun x H1 z => hr x H1 Q z⟩
/-- isinstance(e, C), C an own class -/
theorem px_isC {C : Str} {A : Addr} {p0 : Pos} (hg : Gl X "isinstance") (hm : X.mg "isinstance" = none) (hgT : Gl X C) (hmT : X.mg C = some (.ref A)) (he : PE X e ta)
    (hv : bootBuiltins "isinstance" = some (.builtin "isinstance") := by decide +kernel) (h2 : (C == ("__debug__" : Str)) = false := by decide)
    (hs : starEach [e, .Name C p] X.env = (false, eval e X.env) :: starEach [.Name C p] X.env := by rfl) (hs2 : starEach [.Name C p] X.env = (false, eval (.Name C p) X.env) :: starEach [] X.env := by rfl) (hpl : (backTo pos (starEach [.Name C p] X.env)).any (·.1) = false := by rfl) :
    PE X (.Call (.Name "isinstance" p0) [e, .Name C p] [] pos) (fun σ H Q => ta σ H fun x H1 => mIsC X.K (.ref A) [x, .ref A] H1 Q) :=
  pe_imp (pe_callB call_isi hg hm hv (pa_cons (pe_mo he) (pa_cons (pe_glob (v := .ref A) hgT hmT (show RelV (.ref A) (.ref A) from rfl) h2) pa_nil hs2) hs) (by decide) (by decide) hs hpl) fun σ H Q h => ⟨_, h, fun x H1 z => by
    obtain ⟨t, b, ty, k, q⟩ := z
    exact ⟨x, .ref A, t, .ref A, b, rfl, .own A, ty, k, q⟩⟩
theorem kits {K : PySem.W.Frag} (t : String) {b1 b2 r : Bool} (h1 : kitB t "list" = some b1) (h2 : kitB t "tuple" = some b2) (e : r = (b1 || b2)) : PySem.W.kitAny K (.type t) [.type "list", .type "tuple"] = some r := by
  subst e
  refine kitAny_cons (kit_ty h1) (fun e1 => kitAny_cons (kit_ty h2) (fun e2 => ?_) fun e2 => ?_) fun e1 => ?_
  · subst e1
    subst e2
    rfl
  · subst e1
    subst e2
    rfl
  · subst e1
    rfl
theorem mIsSeq_ok {x : V} {tp : Addr} {H : Hp} {Q : VK} (ht : H tp = some (.tup [.ty "list", .ty "tuple"])) (h : mIsSeq X.K [x, .ref tp] H Q) : rIsiT X.K [x, .ref tp] H Q := by
  have fin : ∀ {t : Value} {b : Bool}, TyX X.K H x t → PySem.W.kitAny X.K t [.type "list", .type "tuple"] = some b → Q (.bl b) H → rIsiT X.K [x, .ref tp] H Q := fun {t b} ty k q => ⟨x, tp, _, t, _, b, rfl, ht, .cons (.ty _) (.cons (.ty _) .nil), ty, k, q⟩
  cases x with
  | int i => exact fin (.base (.int i)) (kits "int" (b1 := false) (b2 := false) (by decide +kernel) (by decide +kernel) rfl) h
  | bl i => exact fin (.base (.bl i)) (kits "bool" (b1 := false) (b2 := false) (by decide +kernel) (by decide +kernel) rfl) h
  | str i => exact fin (.base (.str i)) (kits "str" (b1 := false) (b2 := false) (by decide +kernel) (by decide +kernel) rfl) h
  | non => exact fin (.base .non) (kits "NoneType" (b1 := false) (b2 := false) (by decide +kernel) (by decide +kernel) rfl) h
  | _ =>
    obtain ⟨t, b, ty, k, q⟩ := h
    exact fin ty k q
theorem seq_ty {K : PySem.W.Frag} {H : Hp} {a : Addr} {xs : List V} (h : Sq K H a xs) : ∃ t, TyX K H (.ref a) t ∧ PySem.W.kitAny K t [.type "list", .type "tuple"] = some true := by
  rcases h with ((h | ⟨o, h⟩) | ⟨o, its, n, h, c, _⟩) | ((h | ⟨o, h⟩) | ⟨o, its, n, h, c, _⟩)
  · exact ⟨_, .base (.lst h), kits "list" (b1 := true) (b2 := false) (by decide +kernel) (by decide +kernel) rfl⟩
  · exact ⟨_, .base (.frz h), kits "list" (b1 := true) (b2 := false) (by decide +kernel) (by decide +kernel) rfl⟩
  · exact ⟨_, .kList h c, kits "list" (b1 := true) (b2 := false) (by decide +kernel) (by decide +kernel) rfl⟩
  · exact ⟨_, .base (.tup h), kits "tuple" (b1 := false) (b2 := true) (by decide +kernel) (by decide +kernel) rfl⟩
  · exact ⟨_, .fTuple h, kits "tuple" (b1 := false) (b2 := true) (by decide +kernel) (by decide +kernel) rfl⟩
  · exact ⟨_, .kTuple h c, kits "tuple" (b1 := false) (b2 := true) (by decide +kernel) (by decide +kernel) rfl⟩
/-- isinstance(e, (list, tuple)) -/
def xIsSeq (K : PySem.W.Frag) (ta : TE) : TE := fun σ H Q => ta σ H fun x H1 => ∀ tp, H1 tp = none → mIsSeq K [x, .ref tp] (upd H1 tp (.tup [.ty "list", .ty "tuple"])) Q
theorem px_isSeq {p0 p1 p2 pt : Pos} {kt : Nat} (hg : Gl X "isinstance") (hm : X.mg "isinstance" = none) (hgL : Gl X "list") (hmL : X.mg "list" = none) (hgT : Gl X "tuple") (hmT : X.mg "tuple" = none) (he : PE X e ta)
    (hv : bootBuiltins "isinstance" = some (.builtin "isinstance") := by decide +kernel)
    (hs : starEach [e, .Tuple [.Name "list" p1, .Name "tuple" p2] kt pt] X.env = (false, eval e X.env) :: starEach [.Tuple [.Name "list" p1, .Name "tuple" p2] kt pt] X.env := by rfl)
    (hs2 : starEach [.Tuple [.Name "list" p1, .Name "tuple" p2] kt pt] X.env = (false, eval (.Tuple [.Name "list" p1, .Name "tuple" p2] kt pt) X.env) :: starEach [] X.env := by rfl)
    (hs3 : starEach [.Name "list" p1, .Name "tuple" p2] X.env = (false, eval (.Name "list" p1) X.env) :: starEach [.Name "tuple" p2] X.env := by rfl) (hs4 : starEach [.Name "tuple" p2] X.env = (false, eval (.Name "tuple" p2) X.env) :: starEach [] X.env := by rfl)
    (hpl : (backTo pos (starEach [.Tuple [.Name "list" p1, .Name "tuple" p2] kt pt] X.env)).any (·.1) = false := by rfl) :
    PE X (.Call (.Name "isinstance" p0) [e, .Tuple [.Name "list" p1, .Name "tuple" p2] kt pt] [] pos) (xIsSeq X.K ta) :=
  pe_imp (pe_callB call_isiT hg hm hv (pa_cons (pe_mo he) (pa_cons (pe_tup (pa_cons (pe_bltn (v := .ty "list") hgL hmL (u := .type "list") (by decide +kernel) (show RelV (.ty "list") (.type "list") from rfl)) (pa_cons (pe_bltn (v := .ty "tuple") hgT hmT (u := .type "tuple") (by decide +kernel) (show RelV (.ty "tuple") (.type "tuple") from rfl)) pa_nil hs4) hs3)) pa_nil hs2) hs) (by decide) (by decide) hs hpl) fun σ H Q h =>
    ⟨_, h, fun x H1 z => ⟨by show 2 ≤ sizeLine; decide, fun tp hn => mIsSeq_ok upd_same (z tp hn)⟩⟩
/-! ### repr of data -/
def xRepr (K : PySem.W.Frag) : List V → Hp → VK → Prop := fun xs H Q => match xs with
  | [.ref a] => ∃ d, Dp K H (.ref a) d ∧ d.showable = true ∧ d.hasDict = false ∧ d.depth ≤ 40 ∧ d.shown.length ≤ sizeLine ∧ Q (.str d.shown) H
  | [.int i] => i.natAbs.log2 < 1920 ∧ Q (.str (toString i)) H
  | _ => False
theorem call_repr (hu : X.A.units + 64 < cLine) (hg : X.A.guards = some []) : CallR X (.builtin "repr") (xRepr X.K) := by
  intro pins s σ H xs us Q I r h
  unfold xRepr at h
  split at h
  · rename_i a
    obtain ⟨d, hd, h1, h2, h3, h4, q⟩ := h
    obtain ⟨u, rfl, rx⟩ := vals1 r
    obtain ⟨as, rd⟩ := Dp.reads I d (.ref a) u hd rx
    cases (show u = Value.ref a from rx)
    exact repr_of_reads' rd h1 (PyData.noDict_hsm h2) hg (by omega) (fun b o q => q) (fun h' u tk hk => ⟨.str d.shown, H, I.kept hk, ⟨_, rfl⟩, q⟩) h4
  · rename_i i
    exact SkE.call_repr_int pins s σ H _ us Q I r ⟨i, rfl, h⟩
  · exact h.elim
/-! ### == and != -/
def mEq (K : PySem.W.Frag) (neg : Bool) : R2 := fun x y H Q => match x, y with
  | .int i, .int j => Q (.bl (neg ^^ decide (i = j))) H
  | .str i, .str j => Q (.bl (neg ^^ decide (i = j))) H
  | .ref a, .ref b => (∃ d e, Dp K H (.ref a) d ∧ Dp K H (.ref b) e ∧ SeqAt.shaped d = true ∧ SeqAt.shaped e = true ∧ Q (.bl (neg ^^ PyData.eqv d e)) H) ∨ (neg = true ∧ a = b ∧ Idy K H a ∧ Q (.bl false) H)
  | x, y => scal x y = true ∧ Q (.bl (neg ^^ decide (x = y))) H
theorem om_eq (hu : X.A.units + 64 < cLine) : OpR X (compareOp .Eq) (mEq X.K false) := by
  refine op_imp (OpR.or op_eq (op_eqD hu)) fun x y H Q q => ?_
  have dI : ∀ i j : Int, decide (V.int i = V.int j) = decide (i = j) := fun i j => by simp
  have dS : ∀ i j : Str, decide (V.str i = V.str j) = decide (i = j) := fun i j => by simp
  unfold mEq at q
  split at q
  · exact .inl ⟨rfl, by rw [dI]; simpa using q⟩
  · exact .inl ⟨rfl, by rw [dS]; simpa using q⟩
  · rcases q with ⟨d, e, h1, h2, h3, h4, q⟩ | ⟨z, _⟩
    · exact .inr ⟨d, e, h1, h2, h3, h4, by simpa using q⟩
    · cases z
  · exact .inl ⟨q.1, by simpa using q.2⟩
theorem om_ne (hu : X.A.units + 64 < cLine) : OpR X (compareOp .NotEq) (mEq X.K true) := by
  refine op_imp (OpR.or op_ne (OpR.or (op_neD hu) (op_neSelf hu))) fun x y H Q q => ?_
  have dI : ∀ i j : Int, decide (V.int i = V.int j) = decide (i = j) := fun i j => by simp
  have dS : ∀ i j : Str, decide (V.str i = V.str j) = decide (i = j) := fun i j => by simp
  unfold mEq at q
  split at q
  · exact .inl ⟨rfl, by rw [dI]; simpa using q⟩
  · exact .inl ⟨rfl, by rw [dS]; simpa using q⟩
  · rcases q with ⟨d, e, h1, h2, h3, h4, q⟩ | ⟨_, e, hi, q⟩
    · exact .inr (.inl ⟨d, e, h1, h2, h3, h4, by simpa using q⟩)
    · subst e
      exact .inr (.inr ⟨_, rfl, rfl, hi, q⟩)
  · exact .inl ⟨q.1, by simpa using q.2⟩
/-! ### in, not in -/
def mIn (K : PySem.W.Frag) (neg : Bool) : R2 := fun x y H Q => match x, y with
  | .str z, .str w => ∃ c, z = ⟨#[c]⟩ ∧ Q (.bl (neg ^^ decide (c ∈ w.cps.toList))) H
  | x, .ref p => (∃ xs, Sq K H p xs ∧ flatV x = true ∧ xs.all flatV = true ∧ Q (.bl (neg ^^ inV x xs)) H) ∨ ∃ (a : Addr) (as : List Addr), x = .ref a ∧ SqL K H p (as.map V.ref) ∧ Idy K H a ∧ (∀ b ∈ as, Idy K H b) ∧ Q (.bl (neg ^^ decide (a ∈ as))) H
  | _, _ => False
theorem om_in (hu : X.A.units + 64 < cLine) : OpR X (compareOp .In) (mIn X.K false) := by
  refine op_imp (OpR.or op_in_sign (OpR.or op_in_seq (op_inI hu))) fun x y H Q q => ?_
  unfold mIn at q
  split at q
  · obtain ⟨c, rfl, q⟩ := q
    exact .inl ⟨c, _, rfl, rfl, by simpa using q⟩
  · rcases q with ⟨xs, h1, h2, h3, q⟩ | ⟨a, as, rfl, h1, h2, h3, q⟩
    · exact .inr (.inl ⟨_, xs, rfl, h1, h2, h3, by simpa using q⟩)
    · exact .inr (.inr ⟨a, _, as, rfl, rfl, h1, h2, h3, by simpa using q⟩)
  · exact q.elim
theorem om_notIn (hu : X.A.units + 64 < cLine) : OpR X (compareOp .NotIn) (mIn X.K true) := by
  refine op_imp (OpR.or op_notIn_sign (OpR.or op_notIn_seq (op_notInI hu))) fun x y H Q q => ?_
  unfold mIn at q
  split at q
  · obtain ⟨c, rfl, q⟩ := q
    exact .inl ⟨c, _, rfl, rfl, by simpa using q⟩
  · rcases q with ⟨xs, h1, h2, h3, q⟩ | ⟨a, as, rfl, h1, h2, h3, q⟩
    · exact .inr (.inl ⟨_, xs, rfl, h1, h2, h3, by simpa using q⟩)
    · exact .inr (.inr ⟨a, _, as, rfl, rfl, h1, h2, h3, by simpa using q⟩)
  · exact q.elim
/-! ### built-ins -/
def mLen (K : PySem.W.Frag) : List V → Hp → VK → Prop := fun xs H Q => match xs with
  | [.str z] => z.length ≤ sizeLine ∧ Q (.int (z.length : Nat)) H
  | [.ref p] => ∃ ys, Sq K H p ys ∧ Q (.int (ys.length : Nat)) H
  | _ => False
theorem cm_len : CallR X (.builtin "len") (mLen X.K) := callR_imp (CallR.or call_len_str call_len_seq) fun xs H Q h => by
  unfold mLen at h
  split at h
  · exact .inl ⟨_, rfl, h.1, h.2⟩
  · obtain ⟨ys, h1, q⟩ := h
    exact .inr ⟨_, ys, rfl, h1, q⟩
  · exact h.elim
def mList (K : PySem.W.Frag) : List V → Hp → VK → Prop := fun xs H Q => match xs with
  | [.ref p] => ∃ ys, Sq K H p ys ∧ ∀ l, H l = none → Q (.ref l) (upd H l (.lst ys))
  | _ => False
theorem cm_list : CallR X (.type "list") (mList X.K) := callR_imp call_list_of fun xs H Q h => by
  unfold mList at h
  split at h
  · obtain ⟨ys, h1, q⟩ := h
    exact ⟨_, ys, rfl, h1, q⟩
  · exact h.elim
/-- a tuple of what p reads: any such, the heap grown at most -/
def mTuple (K : PySem.W.Frag) : List V → Hp → VK → Prop := fun xs H Q => match xs with
  | [.ref p] => ∃ ys, Sq K H p ys ∧ ∀ q H', Same H H' → SqT K H' q ys → Q (.ref q) H'
  | _ => False
theorem cm_tuple : CallR X (.type "tuple") (mTuple X.K) := callR_imp call_tuple_of fun xs H Q h => by
  unfold mTuple at h
  split at h
  · obtain ⟨ys, h1 | h1, q⟩ := h
    · exact ⟨_, ys, rfl, .inl ⟨h1, fun l hl => q l _ (Same.new hl) (.inl (.inl upd_same))⟩⟩
    · exact ⟨_, ys, rfl, .inr ⟨h1, q _ H (Same.refl H) h1⟩⟩
  · exact h.elim
def mInt : List V → Hp → VK → Prop := fun xs H Q => match xs with
  | [.int i] => Q (.int i) H
  | [.bl b] => Q (.int (if b then 1 else 0)) H
  | _ => False
theorem cm_int : CallR X (.type "int") mInt := callR_imp call_int1 fun xs H Q h => by
  unfold mInt at h
  split at h
  · exact .inl ⟨_, rfl, h⟩
  · exact .inr ⟨_, rfl, h⟩
  · exact h.elim
def mMax2 : List V → Hp → VK → Prop := fun xs H Q => match xs with
  | [.int i, .int j] => Q (.int (if j > i then j else i)) H
  | _ => False
theorem cm_max2 (hc : X.calm = true) : CallR X (.builtin "max") mMax2 := callR_imp (call_max2 hc) fun xs H Q h => by
  unfold mMax2 at h
  split at h
  · exact ⟨_, _, rfl, h⟩
  · exact h.elim
def mMin2 : List V → Hp → VK → Prop := fun xs H Q => match xs with
  | [.int i, .int j] => Q (.int (if j < i then j else i)) H
  | _ => False
theorem cm_min2 (hc : X.calm = true) : CallR X (.builtin "min") mMin2 := callR_imp (call_min2 hc) fun xs H Q h => by
  unfold mMin2 at h
  split at h
  · exact ⟨_, _, rfl, h⟩
  · exact h.elim
def mAll (K : PySem.W.Frag) : List V → Hp → VK → Prop := fun xs H Q => match xs with
  | [.ref a] => ∃ bs : List Bool, SqL K H a (bs.map V.bl) ∧ Q (.bl (bs.all id)) H
  | _ => False
theorem cm_all (hc : X.calm = true) : CallR X (.builtin "all") (mAll X.K) := callR_imp (cr_all hc) fun xs H Q h => by
  unfold mAll at h
  split at h
  · obtain ⟨bs, h1, q⟩ := h
    exact ⟨_, bs, rfl, h1, q⟩
  · exact h.elim
/-! ### stores -/
def mSetF (K : PySem.W.Frag) (ta tv : TE) (f : Str) : TS := fun D σ H => tv σ H fun y H1 => ta σ H1 fun x H2 => match x with
  | .ref a => ∃ C dx fs, H2 a = some (.ins C dx fs) ∧ Cls K C ∧ NoAttr K C f ∧ fs.length < 1000 ∧ D.nx σ (upd H2 a (.ins C dx (putF f y fs)))
  | _ => False
theorem ps_imp {st : Stmt} {t t' : TS} (h : PS X st t) (i : ∀ D σ H, t' D σ H → t D σ H) : PS X st t' := ⟨fun pins s σ H D I hw => h.run pins s σ H D I (i D σ H hw)⟩
theorem px_setF {o value : Expr} {to tv : TE} {f : Str} {pos' : Pos} (ha : PE X o to) (hv : PE X value tv) (hs : swapsWith value (some (.Attribute o f pos')) pos.line X.env = pure false := by rfl) : PS X (.Assign [.Attribute o f pos'] value pos) (mSetF X.K to tv f) :=
  ps_imp (ps_fld (pe_mo ha) (pe_mo hv) hs) fun D σ H h => ⟨_, h, fun y H1 z => ⟨_, z, fun x H2 q => by
    cases x with
    | ref a =>
      obtain ⟨C, dx, fs, q⟩ := q
      exact ⟨a, C, dx, fs, rfl, q⟩
    | _ => exact q.elim⟩⟩
def mSetI : TSet := fun o i v H Q => match o, i with
  | .ref p, .int k => (∃ xs j, H p = some (.lst xs) ∧ ixN xs.length k = some j ∧ Q (upd H p (.lst (xs.set j v)))) ∨ ∃ H', DPut H p (.int k) v H' ∧ Q H'
  | .ref p, i => ∃ H', DPut H p i v H' ∧ Q H'
  | _, _ => False
theorem set_or {t t' u : TSet} (h : PSet X t) (h' : PSet X t') (i : ∀ o i v H Q, u o i v H Q → t o i v H Q ∨ t' o i v H Q) : PSet X u := fun pins s σ H o k v ov iv uv Q I ro ri rv q => by
  rcases i _ _ _ _ _ q with q | q
  · exact h pins s σ H o k v ov iv uv Q I ro ri rv q
  · exact h' pins s σ H o k v ov iv uv Q I ro ri rv q
theorem sm_set (hu : X.A.units + 64 < cLine) : PSet X mSetI := set_or set_list (set_dict (by omega)) fun o i v H Q q => by
  unfold mSetI at q
  split at q
  · rcases q with ⟨xs, j, h1, h2, q⟩ | ⟨H', h1, q⟩
    · exact .inl ⟨_, xs, _, j, rfl, rfl, h1, h2, q⟩
    · exact .inr ⟨_, H', rfl, h1, q⟩
  · obtain ⟨H', h1, q⟩ := q
    exact .inr ⟨_, H', rfl, h1, q⟩
  · exact q.elim
end
end SX
/-! the __init__ of an own exception; what the generated texts lean on -/
namespace SX
open PySem PySem.Spec PyProof.Rows L2
open He (ga ma fAd)
/-- the body of such an __init__: B.__init__(self, 'text'); self.f = v -/
def tExc (K : PySem.W.Frag) (f msg : Str) : TS := tSeq (tDrop (tVeI K (tCons (mV 0) (tCons (tC (.str msg)) tNil)))) (tOst K f (mV 0) (mV 1))
theorem r_exc {K : PySem.W.Frag} {x f msg n1 n2 : Str} (A : OexA K x f) {vs : List V} {H : Hp} {Q : VK} {E : XK} (h : spExc K x f vs H Q E) : tExc K f msg { nx := fun _ H' => Q .non H', rt := Q } (start [n1, n2] vs) H := by
  obtain ⟨a, v, rfl, ha, q⟩ := h
  refine ⟨a, ga K x, [.str msg], rfl, Nat.le_of_ble_eq_true rfl, A.C, ha, ?_⟩
  refine ⟨a, ga K x, rfl, A.C, A.no, .inl ⟨ha, fun dx hd hne => ?_⟩⟩
  exact q dx hd hne
/-- the facts of a law's top, as its texts lean on them -/
structure TpG (fa : List He.Fa) (fy : List Fy) (fn : List He.DefD) (K : PySem.W.Frag) (mg : Str → Option Value) : Prop where
  ex : ∃ h, K.In h ∧ h.Ns mainGlobals mg
  c : SaysX fa fy fn K
section
variable {fa : List He.Fa} {fy : List Fy} {fn : List He.DefD} {K : PySem.W.Frag} {mg : Str → Option Value} (T : TpG fa fy fn K mg)
include T
theorem TpG.glo (i : Nat) {x : Str} (h : fa[i]? = some (.glo x) := by rfl) : mg x = some (.ref (ga K x)) := by
  obtain ⟨h0, X, G⟩ := T.ex
  exact He.glo_ok X G (T.c.fact i h)
theorem TpG.free (i : Nat) {x : Str} (h : fa[i]? = some (.free x) := by rfl) : mg x = none := by
  obtain ⟨h0, X, G⟩ := T.ex
  exact He.free_ok X G (T.c.fact i h)
theorem TpG.int (i : Nat) {x : Str} {n : Int} (h : fa[i]? = some (.int x n) := by rfl) : ∃ t, mg x = some (.int n t) := by
  obtain ⟨h0, X, G⟩ := T.ex
  exact He.int_ok X G (T.c.fact i h)
theorem TpG.str (i : Nat) {x z : Str} (h : fa[i]? = some (.str x z) := by rfl) : ∃ t, mg x = some (.str z t) := by
  obtain ⟨h0, X, G⟩ := T.ex
  exact He.str_ok X G (T.c.fact i h)
theorem TpG.cls (i : Nat) {x : Str} (h : fa[i]? = some (.cls x) := by rfl) : Cls K (ga K x) := He.cls_ok (T.c.fact i h)
theorem TpG.noat (i : Nat) {x f : Str} (h : fa[i]? = some (.noat x f) := by rfl) : NoAttr K (ga K x) f := He.noat_ok (T.c.fact i h)
theorem TpG.meth (i : Nat) {x m : Str} (h : fa[i]? = some (.meth x m) := by rfl) : Meth K (ga K x) m (ma K (ga K x) m) := He.meth_ok (T.c.fact i h)
theorem TpG.mkr (i : Nat) {x : Str} (h : fa[i]? = some (.mkr x) := by rfl) : Mk K (ga K x) (ma K (ga K x) "__init__") := He.mkr_ok (T.c.fact i h)
theorem TpG.exm (i : Nat) {x y : Str} {b : Bool} (h : fa[i]? = some (.exm x y b) := by rfl) : PySem.W.exmOne K (.ref (ga K x)) (.ref (ga K y)) = some b := He.exm_ok (T.c.fact i h)
theorem TpG.oex (i : Nat) {x f : Str} (h : fy[i]? = some (.oex x f) := by rfl) : OexA K x f := oex_ok (T.c.more i h)
theorem TpG.crd (i : Nat) {x : Str} (h : fy[i]? = some (.crd x) := by rfl) : ClX.CRead K (ga K x) (.type "type") := crd_ok (T.c.more i h)
theorem TpG.cm (i : Nat) {x m : Str} (h : fy[i]? = some (.cm x m) := by rfl) : ClX.CVal K (ga K x) (.type "type") m (.ref (ma K (ga K x) m)) (.ref (ma K (ga K x) m)) := cm_ok (T.c.more i h)
theorem TpG.cb (i : Nat) {x m : Str} {b : String} (h : fy[i]? = some (.cb x m b) := by rfl) : PySem.W.findCls K (.ref (ga K x)) (.type "type") m = some (.val (.builtin b)) := cb_ok (T.c.more i h)
theorem TpG.kin (i : Nat) {x : Str} (h : fy[i]? = some (.kin x) := by rfl) : KinA K (ga K x) := kin_ok (T.c.more i h)
theorem TpG.kit (i : Nat) {x y : Str} {b : Bool} (h : fy[i]? = some (.kit x y b) := by rfl) : PySem.W.kitOne K (.ref (ga K x)) (.ref (ga K y)) = some b := kit_ok (T.c.more i h)
theorem TpG.kitT (i : Nat) {x : Str} {t : String} {b : Bool} (h : fy[i]? = some (.kitT x t b) := by rfl) : PySem.W.kitOne K (.type t) (.ref (ga K x)) = some b := kitT_ok (T.c.more i h)
theorem TpG.oeq (i : Nat) {x : Str} (h : fy[i]? = some (.oeq x) := by rfl) : OeqA K (ga K x) := oeq_ok (T.c.more i h)
theorem TpG.iq (i : Nat) {p q : Str × Option Str} (h : fy[i]? = some (.iq p q) := by rfl) : fAd K p = fAd K q := iq_ok (T.c.more i h)
end
/-- a def's loops are left by its own exceptions alone -/
theorem pass_def {P : Program} {w : World} {K : PySem.W.Frag} {mg : Str → Option Value} {base : Heap} {N : List Str} {qual : Str} {scope : Scope} {f : Addr} {cdv : Value} {A : Around} {outer : List Env} {s : Shared} {H : Hp} {E : XK} :
    PassesOwn (model (cxOf (L2.CX P w) P w K mg base N qual scope f cdv A outer s H E).prog (cxOf (L2.CX P w) P w K mg base N qual scope f cdv A outer s H E).w) (cxOf (L2.CX P w) P w K mg base N qual scope f cdv A outer s H E).A (cxOf (L2.CX P w) P w K mg base N qual scope f cdv A outer s H E).env (cxOf (L2.CX P w) P w K mg base N qual scope f cdv A outer s H E).xe := passes_of rfl
theorem take_def {P : Program} {w : World} {K : PySem.W.Frag} {mg : Str → Option Value} {base : Heap} {N : List Str} {qual : Str} {scope : Scope} {f : Addr} {cdv : Value} {A : Around} {outer : List Env} {s : Shared} {H : Hp} {E : XK} :
    Takes (cxOf (L2.CX P w) P w K mg base N qual scope f cdv A outer s H E) (WD E) := takes_of rfl rfl rfl rfl
theorem lt1 {a b : Nat} (h : a + 64 < b) : a + 1 < b := by omega
theorem b_len : bootBuiltins "len" = some (.builtin "len") := by decide +kernel
theorem b_repr : bootBuiltins "repr" = some (.builtin "repr") := by decide +kernel
theorem b_all : bootBuiltins "all" = some (.builtin "all") := by decide +kernel
theorem b_max : bootBuiltins "max" = some (.builtin "max") := by decide +kernel
theorem b_min : bootBuiltins "min" = some (.builtin "min") := by decide +kernel
theorem b_list : bootBuiltins "list" = some (.type "list") := by decide +kernel
theorem b_tuple : bootBuiltins "tuple" = some (.type "tuple") := by decide +kernel
theorem b_int : bootBuiltins "int" = some (.type "int") := by decide +kernel
/-- a block's scope, by reckoning -/
def blkB (N : List Str) (sc scope : Scope) (own : List (Str × Nat)) : Bool := decide (scope.kind = .function) && (scope.names.all (fun y => decide (scope.names.lookup y.1 = some y.2)) && (own.all (fun p => decide (N[p.2]? = some p.1)) &&
  (scope.names.all (fun y => !decide (y.2 = .free) || (decide (sc.names.lookup y.1 = some .cell) || decide (sc.names.lookup y.1 = some .free))) &&
    scope.names.all fun y => !(decide (y.2 = .local) || decide (y.2 = .cell)) || (decide (y.1 ∈ own.map (·.1)) || decide (y.1 ∉ N)))))
theorem blk_ok {N : List Str} {sc scope : Scope} {own : List (Str × Nat)} (h : blkB N sc scope own = true) : BlkOk N sc scope own := by
  unfold blkB at h
  simp only [Bool.and_eq_true, List.all_eq_true, decide_eq_true_eq, Bool.or_eq_true, Bool.not_eq_true', decide_eq_false_iff_not, Bool.or_eq_false_iff] at h
  obtain ⟨h1, h2, h3, h4, h5⟩ := h
  refine ⟨h1, h2, h3, fun y hy e => ?_, fun y hy e => ?_⟩
  · rcases h4 y hy with z | z
    · exact absurd e z
    · exact z
  · rcases h5 y hy with ⟨z1, z2⟩ | z
    · exact e.elim (fun e => absurd e z1) fun e => absurd e z2
    · exact z
/-- ' '.split, ''.join -/
def mSplit : V → List V → Hp → VK → Prop := fun x xs H Q => match x, xs with
  | .str a, [.str b] => (b.length == 0) = false ∧ a.length + 2 ≤ sizeLine ∧ rNewStrs (Txt.split a b) H Q
  | _, _ => False
def mJoin (K : PySem.W.Frag) : V → List V → Hp → VK → Prop := fun x xs H Q => match x, xs with
  | .str a, [.ref p] => ∃ ys : List Str, Sq K H p (ys.map V.str) ∧ (ys.map (·.length)).sum + ys.length * a.length ≤ 16777216 ∧ Q (.str (Txt.join a ys)) H
  | _, _ => False
section
variable {X : Cx} {o e : Expr} {to te : TE} {apos pos : Pos}
theorem mt_imp {id : String} {r r' : V → List V → Hp → VK → Prop} (h : MtR X id r) (i : ∀ x xs H Q, r' x xs H Q → r x xs H Q) : MtR X id r' := fun pins s σ H x xs v us Q I rx rs q => h pins s σ H x xs v us Q I rx rs (i _ _ _ _ q)
theorem px_split (ho : PE X o to) (he : PE X e te) (hs : starEach [e] X.env = [(false, eval e X.env)] := by rfl) (hbase : attributeBase o "split" X.env (eval o X.env) = eval o X.env := by rfl) (hline : (apos.endLine == pos.line) = true := by rfl) :
    PE X (.Call (.Attribute o "split" apos) [e] [] pos) (tM1 mSplit to te) := pe_m1 PySem.F.slot_str_split PySem.F.type_str_split (mt_imp mt_split fun x xs H Q h => by
      unfold mSplit at h
      split at h
      · exact ⟨_, _, rfl, rfl, h⟩
      · exact h.elim) ho he hs hbase hline
theorem px_join (ho : PE X o to) (he : PE X e te) (hs : starEach [e] X.env = [(false, eval e X.env)] := by rfl) (hbase : attributeBase o "join" X.env (eval o X.env) = eval o X.env := by rfl) (hline : (apos.endLine == pos.line) = true := by rfl) :
    PE X (.Call (.Attribute o "join" apos) [e] [] pos) (tM1 (mJoin X.K) to te) := pe_m1 PySem.F.slot_str_join PySem.F.type_str_join (mt_imp mt_join fun x xs H Q h => by
      unfold mJoin at h
      split at h
      · obtain ⟨ys, h⟩ := h
        exact ⟨_, _, ys, rfl, rfl, h⟩
      · exact h.elim) ho he hs hbase hline
end
end SX
/-! comprehensions that make things, that draw from a box -/
namespace SX
open PySem PySem.Spec PyProof.Rows L2
open He (ga ma fAd)
/-- all that stood but where X holds -/
def SameX (X : Addr → Prop) (H H' : Hp) : Prop := ∀ b u, ¬ X b → H b = some u → H' b = some u
/-- .. the lists left out -/
def SameN (X : Addr → Prop) (H H' : Hp) : Prop := ∀ b u, ¬ X b → (∀ xs, u ≠ .lst xs) → H b = some u → H' b = some u
abbrev X0 : Addr → Prop := fun _ => False
theorem SameX.refl {X : Addr → Prop} (H : Hp) : SameX X H H := fun _ _ _ e => e
theorem SameX.trans {X : Addr → Prop} {H H1 H2 : Hp} (h : SameX X H H1) (h' : SameX X H1 H2) : SameX X H H2 := fun b u n e => h' b u n (h b u n e)
theorem SameX.of {X : Addr → Prop} {H H' : Hp} (h : Same H H') : SameX X H H' := fun b u _ e => h b u e
theorem SameX.same {H H' : Hp} (h : SameX X0 H H') : Same H H' := fun b u e => h b u (fun z => z) e
theorem SameX.n {X : Addr → Prop} {H H' : Hp} (h : SameX X H H') : SameN X H H' := fun b u n _ e => h b u n e
theorem SameN.mono {X Y : Addr → Prop} {H H' : Hp} (h : SameN Y H H') (i : ∀ b, Y b → X b) : SameN X H H' := fun b u n l e => h b u (fun z => n (i b z)) l e
theorem ptake {α β : Type} {F G : α → β → Prop} {l : List α} {m : List β} (h : Paired F l m) (i : ∀ a b, F a b → G a b) : Paired G l m := by
  induction h with
  | nil => exact .nil
  | cons h _ ih => exact .cons (i _ _ h) ih
theorem psnoc {α β : Type} {F : α → β → Prop} {l : List α} {m : List β} {a : α} {b : β} (h : Paired F l m) (h' : F a b) : Paired F (l ++ [a]) (m ++ [b]) := Paired.snoc h h'
theorem psize {α β : Type} {F : α → β → Prop} {l : List α} {m : List β} (h : Paired F l m) : l.length = m.length := Paired.length h
theorem take_more {α : Type} {zs : List α} {i : Nat} {z : α} (h : zs[i]? = some z) : zs.take (i + 1) = zs.take i ++ [z] := by
  rw [List.take_succ, h]
  rfl
theorem wipe_comm {σ : L2.St} {i : Nat} : ∀ {vs : List Nat}, wipe (σ.set i none) vs = (wipe σ vs).set i none
  | [] => rfl
  | j :: vs => by
    show (wipe (σ.set i none) vs).set j none = ((wipe σ vs).set j none).set i none
    rw [wipe_comm]
    by_cases h : i = j
    · subst h
      rfl
    · rw [List.set_comm _ _ h]
theorem wipe_set_mem {i : Nat} {v : Option V} : ∀ {vs : List Nat} {σ : L2.St}, i ∈ vs → wipe (σ.set i v) vs = wipe σ vs
  | j :: vs, σ, h => by
    show (wipe (σ.set i v) vs).set j none = (wipe σ vs).set j none
    by_cases hj : i ∈ vs
    · rw [wipe_set_mem hj]
    · rcases List.mem_cons.mp h with e | h
      · subst e
        rw [← wipe_comm, ← wipe_comm, List.set_set]
      · exact absurd h hj
theorem wipe_wipe {σ : L2.St} : ∀ {vs ws : List Nat}, (∀ i ∈ ws, i ∈ vs) → wipe (wipe σ ws) vs = wipe σ vs
  | vs, [], _ => rfl
  | vs, w :: ws, h => by
    show wipe ((wipe σ ws).set w none) vs = wipe σ vs
    rw [wipe_set_mem (h w (List.mem_cons_self ..)), wipe_wipe fun i hi => h i (List.mem_cons_of_mem _ hi)]
theorem lc_new {α : Type} {J : It} {S : Hp → Prop} {xs : List V} {g : TG} {te : TE} {vs : List Nat} {σ : L2.St} {H : Hp} {Qd : Addr → Hp → Prop} (X : Addr → Prop) (B : Nat → Hp → Prop) (R : Hp → V → α → Prop) (cs : List α) (w : Wk J S xs) (hl : xs.length = cs.length) (sz : xs.length ≤ 100000)
    (hX : ∀ D, X D → H D ≠ none) (b0 : B 0 H) (bst : ∀ i H1 H2, B i H1 → (∀ b, X b → H2 b = H1 b) → B i H2) (rm : ∀ H1 H2 y c, R H1 y c → SameN X H1 H2 → R H2 y c) (st : ∀ H', SameX X H H' → S H')
    (hs : ∀ (i : Nat) x c H' (Q' : VK), xs[i]? = some x → cs[i]? = some c → SameX X H H' → B i H' → (∀ y H'', SameX X H' H'' → B (i + 1) H'' → R H'' y c → Q' y H'') → g x (wipe σ vs) H' fun σ2 H2 => wipe σ2 vs = wipe σ vs ∧ te σ2 H2 Q')
    (hd : ∀ D H' ys, H D = none → SameX X H H' → B cs.length H' → H' D = some (.lst ys) → Paired (R H') ys cs → Qd D H') :
    ∀ D, H D = none → ∃ W : Nat → Nat → Hp → Prop, (∃ m, W 0 m (upd H D (.lst []))) ∧ ∀ i m H, W i m H →
      (J.stop i H ∧ Qd D H) ∨ (J.go i H ∧ ∃ Nx : Hp → Prop, (∀ H', Nx H' → ∃ m', m' < m ∧ W (i + 1) m' H') ∧ ∀ x H', J.yld i H x H' → g x (wipe σ vs) H' fun σ2 H2 => wipe σ2 vs = wipe σ vs ∧ tYes σ2 H2 fun b H3 =>
        if b = true then te σ2 H3 fun y H4 => ∃ acc, H4 D = some (.lst acc) ∧ acc.length < sizeLine ∧ Nx (upd H4 D (.lst (acc ++ [y]))) else Nx H3) := fun D hD => by
  have hn : ¬ X D := fun z => hX D z hD
  have dn : ∀ b, X b → b ≠ D := fun b hb z => hn (z ▸ hb)
  refine lc_wk (tt := tYes) w (fun i H' => SameX X H H' ∧ B i H' ∧ ∃ ys, H' D = some (.lst ys) ∧ Paired (R H') ys (cs.take i)) ⟨SameX.of (Same.new hD), bst _ _ _ b0 (fun b hb => upd_ne (dn b hb)), [], upd_same, by simpa using Paired.nil⟩ (fun i H' _ P => st H' P.1) ?_ ?_
  · rintro i x H' hx ⟨e, b, ys, hy, pr⟩
    have hi : i < xs.length := (List.getElem?_eq_some_iff.mp hx).1
    have hc := List.getElem?_eq_getElem (l := cs) (i := i) (by omega)
    refine hs i x _ H' _ hx hc e b fun y H'' e2 b2 r => ⟨ys, e2 _ _ hn hy, len_lt ?_, ?_, ?_, ys ++ [y], upd_same, ?_⟩
    · have := psize pr
      rw [List.length_take] at this
      omega
    · intro b' u nb hb'
      rw [upd_ne (ne_of_none hb' hD)]
      exact e2 _ _ nb (e b' u nb hb')
    · exact bst _ _ _ b2 fun b' hb' => upd_ne (dn b' hb')
    · have keep : SameN X H'' (upd H'' D (.lst (ys ++ [y]))) := fun b' u nb nl hb' => by
        rw [upd_ne fun z => by
          subst z
          rw [e2 _ _ hn hy] at hb'
          exact nl _ (Option.some.inj hb').symm]
        exact hb'
      rw [take_more hc]
      exact psnoc (ptake pr fun a c h => rm _ _ _ _ (rm _ _ _ _ h e2.n) keep) (rm _ _ _ _ r keep)
  · rintro H' ⟨e, b, ys, hy, pr⟩
    rw [hl] at b pr
    rw [List.take_length] at pr
    exact hd D H' ys hD e b hy pr
end SX
/-! data that may be shown -/
namespace SX
open PySem PySem.Spec PyProof.Rows L2
/-- may be shown: n deep at most, k signs and items at most -/
structure Good (d : PyData) (n k : Nat) : Prop where
  sh : d.showable = true
  nd : d.hasDict = false
  ls : d.leavesShort 13 = true
  dp : d.depth ≤ n
  bk : d.bulk ≤ k
theorem Good.le {d : PyData} {n k n' k' : Nat} (g : Good d n k) (h : n ≤ n') (h' : k ≤ k') : Good d n' k' := ⟨g.sh, g.nd, g.ls, Nat.le_trans g.dp h, Nat.le_trans g.bk h'⟩
theorem good_str {z : Str} {k : Nat} (hl : z.length ≤ k) (hc : ∀ c ∈ z.cps.toList, c < 128) : Good (.str z) 0 k := by
  refine ⟨rfl, rfl, ?_, Nat.le_of_eq rfl, hl⟩
  simp only [PyData.leavesShort, List.all_eq_true, decide_eq_true_eq]
  exact fun c h => Nat.lt_of_lt_of_le (hc c h) (by decide)
theorem good_int {i : Int} (h : i.natAbs < 10000000) : Good (.int i) 0 0 := by
  refine ⟨?_, rfl, ?_, Nat.le_of_eq rfl, Nat.le_of_eq rfl⟩
  · simp only [PyData.showable, decide_eq_true_eq]
    by_cases h0 : i.natAbs = 0
    · rw [h0]
      decide
    · have := (Nat.log2_lt h0).mpr (show i.natAbs < 2 ^ 24 by omega)
      omega
  · simp only [PyData.leavesShort, decide_eq_true_eq]
    have e := int_text_length_le10 (a := i) (k := 7) (by decide) h
    show (Str.ofString (toString i)).length ≤ 13
    rw [PySem.ofString_length]
    omega
theorem good_all {n k : Nat} : ∀ {ds : List PyData}, (∀ d ∈ ds, Good d n k) → PyData.showableAll ds = true ∧ PyData.hasDictAll ds = false ∧ PyData.leavesShortAll 13 ds = true ∧ PyData.depthAll ds ≤ n ∧ PyData.bulkAll ds ≤ ds.length * (k + 1)
  | [], _ => ⟨rfl, rfl, rfl, Nat.zero_le _, Nat.zero_le _⟩
  | d :: ds, h => by
    obtain ⟨a1, a2, a3, a4, a5⟩ := good_all fun x hx => h x (List.mem_cons_of_mem _ hx)
    have g := h d (List.mem_cons_self ..)
    refine ⟨?_, ?_, ?_, ?_, ?_⟩
    · simp only [PyData.showableAll, g.sh, a1, Bool.and_self]
    · simp only [PyData.hasDictAll, g.nd, a2, Bool.or_self]
    · simp only [PyData.leavesShortAll, g.ls, a3, Bool.and_self]
    · simp only [PyData.depthAll]
      exact Nat.max_le.mpr ⟨g.dp, a4⟩
    · simp only [PyData.bulkAll, List.length_cons, Nat.succ_mul]
      have := g.bk
      omega
theorem good_tup {n k : Nat} {ds : List PyData} (h : ∀ d ∈ ds, Good d n k) : Good (.tuple ds) (n + 1) (ds.length * (k + 1)) := by
  obtain ⟨a1, a2, a3, a4, a5⟩ := good_all h
  refine ⟨?_, ?_, ?_, ?_, ?_⟩
  · simp only [PyData.showable]; exact a1
  · simp only [PyData.hasDict]; exact a2
  · simp only [PyData.leavesShort]; exact a3
  · simp only [PyData.depth]; omega
  · simp only [PyData.bulk]; exact a5
theorem good_lst {n k : Nat} {ds : List PyData} (h : ∀ d ∈ ds, Good d n k) : Good (.list ds) (n + 1) (ds.length * (k + 1)) := by
  obtain ⟨a1, a2, a3, a4, a5⟩ := good_all h
  refine ⟨?_, ?_, ?_, ?_, ?_⟩
  · simp only [PyData.showable]; exact a1
  · simp only [PyData.hasDict]; exact a2
  · simp only [PyData.leavesShort]; exact a3
  · simp only [PyData.depth]; omega
  · simp only [PyData.bulk]; exact a5
theorem Good.fits {d : PyData} {n k : Nat} (g : Good d n k) (h : k ≤ 1048576) : d.shown.length ≤ sizeLine := PyData.shown_fits_bulk (B := 13) (by decide) (by decide) g.ls (Nat.le_trans g.bk h)
/-- repr of such -/
theorem repr_good {K : PySem.W.Frag} {H : Hp} {a : Addr} {d : PyData} {n k : Nat} {Q : VK} (g : Good d n k) (hn : n ≤ 40) (hk : k ≤ 1048576) (h : Dp K H (.ref a) d) (q : Q (.str d.shown) H) : xRepr K [.ref a] H Q := ⟨d, h, g.sh, g.nd, Nat.le_trans g.dp hn, g.fits hk, q⟩
theorem Good.parts {d : PyData} {n k : Nat} (g : Good d n k) (hn : n ≤ 40) (hk : k ≤ 1048576) : d.showable = true ∧ d.hasDict = false ∧ d.depth ≤ 40 ∧ d.shown.length ≤ sizeLine := ⟨g.sh, g.nd, Nat.le_trans g.dp hn, g.fits hk⟩
/-- ints and texts as data -/
def pd : V → PyData
  | .int i => .int i
  | .str z => .str z
  | .bl b => .bool b
  | _ => .none
def flatD : V → Bool
  | .int _ => true
  | .str _ => true
  | .bl _ => true
  | .non => true
  | _ => false
theorem dp_flat {K : PySem.W.Frag} {H : Hp} {v : V} (h : flatD v = true) : Dp K H v (pd v) := by
  cases v with
  | int i => exact .int i
  | str z => exact .str z
  | bl b => exact .bl b
  | non => exact .non
  | _ => cases h
theorem dp_flats {K : PySem.W.Frag} {H : Hp} : ∀ {vs : List V}, vs.all flatD = true → DpAll K H vs (vs.map pd)
  | [], _ => .nil
  | v :: vs, h => by
    rw [List.all_cons, Bool.and_eq_true] at h
    exact .cons (dp_flat h.1) (dp_flats h.2)
theorem dp_tup {K : PySem.W.Frag} {H : Hp} {a : Addr} {vs : List V} (h : SqT K H a vs) (hf : vs.all flatD = true) : Dp K H (.ref a) (.tuple (vs.map pd)) := .tup h (dp_flats hf)
theorem dp_paired {K : PySem.W.Frag} {H : Hp} {α : Type} {F : V → α → Prop} {f : α → PyData} (h : ∀ v c, F v c → Dp K H v (f c)) : ∀ {vs : List V} {cs : List α}, Paired F vs cs → DpAll K H vs (cs.map f)
  | _, _, .nil => .nil
  | _, _, .cons k t => .cons (h _ _ k) (dp_paired h t)
end SX
/-! a law's end, its def by FnX -/
namespace SX
open PySem PySem.Spec PyProof.Rows L2
section
variable {P : Program} {w : World} {K : PySem.W.Frag} {mg mb : Str → Option Value} {s₁ : Shared} {a : Addr} {vs : List Value} {ns : List Int} {H : Hp}
/-- what a heap says where only the script may be tracked: the state ahead of the law's call -/
theorem env_at (KX : K.In s₁.heap) (hns : s₁.heap.Ns mainGlobals mg) (hb : s₁.heap.Ns builtinsNs mb) (hbb : ∀ x : Str, x ≠ "__name__" → mb x = bootBuiltins x) (hlim : s₁.heap.NoLimit) (hg : s₁.gens = #[])
    (ha : s₁.heap.get? a = some { cls := .type "list", data := .seq vs.toArray }) (hok : HOk P w H s₁.heap) (hA : ∀ b, b ≠ a → H b = none) (hK : H a = none ∨ K.lookup a = none) :
    K.In (hidT s₁.heap H) ∧ (hidT s₁.heap H).Ns mainGlobals mg ∧ Env0 P w K mg (hidT s₁.heap H) callerA [] s₁ H := by
  have free : ∀ {b : Addr} {o : Obj}, s₁.heap.get? b = some o → (b = a → H a = none) → (hidT s₁.heap H).get? b = some o := fun {b o} e h => hidT_get e (by
    by_cases z : b = a
    · subst z
      exact h rfl
    · exact hA b z)
  have kin : K.In (hidT s₁.heap H) := fun b o e => free (KX b o e) fun z => hK.elim id fun n => by
    subst z
    rw [n] at e
    cases e
  have ns : ∀ {b : Addr} {m : Str → Option Value}, s₁.heap.Ns b m → (hidT s₁.heap H).Ns b m := fun {b m} ⟨o, es, ep, e, d, r⟩ => by
    have nb : b ≠ a := fun z => by
      subst z
      rw [ha] at e
      cases e
      have d' : Data.seq vs.toArray _ = Data.dict es ep := d
      cases d'
    exact ⟨o, es, ep, free e fun z => absurd z nb, d, r⟩
  obtain ⟨mc, c1, c2⟩ := hlim
  exact ⟨kin, ns hns, ⟨rfl, ⟨kin, ns hns, ⟨mb, ns hb, hbb⟩, ⟨mc, ns c1, c2⟩⟩, fun b o e => of_hidT e, Nat.le_of_eq (hidT_size _ _), trivial, fun b z => absurd (show b ∈ ([] : List Addr) from z) (by simp), hok, .of_eq hg⟩⟩
/-- what the call leaves -/
def LawEnd (s₁ : Shared) (r : Result) (s' : Shared) : Prop := r = .ok (.ret (.bool true)) ∧ OldK s₁.heap s'.heap ∧ s'.os = s₁.os ∧ AllBare s'.gens
theorem law_run {k : Nat} {fa : Addr} {sp : Sp} (KX : K.In s₁.heap) (hns : s₁.heap.Ns mainGlobals mg) (hb : s₁.heap.Ns builtinsNs mb) (hbb : ∀ x : Str, x ≠ "__name__" → mb x = bootBuiltins x) (hlim : s₁.heap.NoLimit) (hg : s₁.gens = #[])
    (ha : s₁.heap.get? a = some { cls := .type "list", data := .seq vs.toArray }) (hr : RoomG k callerA) (F : ∀ base : Heap, K.In base → base.Ns mainGlobals mg → FnX P w K mg base k fa sp)
    (hok : HOk P w H s₁.heap) (hA : ∀ b, b ≠ a → H b = none) (hO : ∀ u, H a = some u → K.lookup a = none ∧ ∃ o xs, u = .frz o (.lst xs)) (hsp : sp [.ref a] H (fun v _ => v = .bl true) fun _ _ _ => False) :
    codeAny (model P w) callerA (.call (.ref fa) ⟨[.ref a], []⟩) (LawEnd s₁) s₁ := by
  obtain ⟨b1, b2, e0⟩ := env_at KX hns hb hbb hlim hg ha hok hA (by
    cases e : H a with
    | none => exact .inl rfl
    | some u => exact .inr (hO u e).1)
  refine codeAny_mono ((F _ b1 b2).run callerA [] s₁ H [.ref a] [.ref a] _ _ hr e0 (.cons rfl .nil) hsp) fun r s' h => ?_
  cases r with
  | error e =>
    obtain ⟨_, _, _, _, _, _, _, _, _, _, _, _, z⟩ := h
    exact z.elim
  | ok fl =>
    cases fl with
    | next => exact False.elim h
    | brk => exact False.elim h
    | cont => exact False.elim h
    | ret u =>
      obtain ⟨v, H', os, bare, un, hok', r', q⟩ := h
      cases (show v = .bl true from q)
      cases (show u = Value.bool true from r')
      refine ⟨rfl, OldK.of_keep fun b o e => ?_, os, bare⟩
      have plain : H b = none → s'.heap.get? b = some o := fun n => un.keep b o e n (fun z => absurd (show b ∈ ([] : List Addr) from z) (by simp)) (by simp)
      by_cases z : b = a
      · subst z
        cases q : H b with
        | none => exact plain q
        | some u =>
          obtain ⟨_, ob, xs, rfl⟩ := hO u q
          have later := (hok' b _ (un.frzs b ob _ q)).1
          have now := (hok b _ q).1
          rw [e] at now
          cases now
          exact later
      · exact plain (hA b z)
end
/-- a law: F gives the written part and the promise over every base -/
theorem walk_X {l : PySem.W.OpenLaw} {n k : Nat} {q : Program} {loose : List Str} {XP : (Str → Option Value) → Heap → Prop} {YP : World → Heap → Prop} {d : DefRec}
    (hn : l.most = some n) (hn2 : n ≤ sizeLine) (hdf : d.params.defaults = []) (hr : RoomG k callerA)
    (F : ∀ (w : World) (mg : Str → Option Value) (fa : Addr) (h : Heap), YP w h → h.Ns mainGlobals mg → mg d.name = some (.ref fa) →
      ∃ (K : PySem.W.Frag) (sp : Sp), K.In h ∧ (∀ (H : Hp) (a : Addr) (ns : List Int), ns.length ≤ n → SqL K H a (ns.map V.int) → sp [.ref a] H (fun v _ => v = .bl true) fun _ _ _ => False) ∧
        ∀ base : Heap, K.In base → base.Ns mainGlobals mg → FnX l.prog w K mg base k fa sp) :
    PySem.W.WalkO q loose XP YP l.row.toRowW d [] (fun f vs => PySem.call f vs) := by
  refine Att.attach_call hn hdf fun w s₀ s₁ mg mb fa o pm cd doc a vs ns G Y ho hd hcd hmg hobj hints hlen hg => ?_
  obtain ⟨K, sp, KX, hsp, hF⟩ := F w mg fa _ Y G.T.g hmg
  have hl : ns.length ≤ sizeLine := Nat.le_trans hlen hn2
  have rv := vals_ints hints
  have go : ∀ H : Hp, HOk l.prog w H s₁.heap → (∀ b, b ≠ a → H b = none) → (∀ u, H a = some u → K.lookup a = none ∧ ∃ o xs, u = .frz o (.lst xs)) → SqL K H a (ns.map V.int) →
      codeAny (model l.prog w) callerA (.call (.ref fa) ⟨[.ref a], []⟩) (LawEnd s₁) s₁ := fun H h1 h2 h3 h4 => law_run KX G.T.g G.T.b G.T.builtins G.T.nolimit hg hobj hr hF h1 h2 h3 (hsp H a ns hlen h4)
  cases hk : K.lookup a with
  | some o =>
    have e := KX a o hk
    rw [hobj] at e
    cases e
    exact go (fun _ => none) (fun b u z => nomatch z) (fun _ _ => rfl) (fun u z => nomatch z) (.inr ⟨_, vs.toArray, _, hk, rfl, rfl, rfl, by rw [List.size_toArray, hints.length]; exact hl, by simpa using rv⟩)
  | none =>
    have at_ : ∀ b u, (if b = a then some (HO.frz { cls := .type "list", data := .seq vs.toArray } (.lst (ns.map V.int))) else none) = some u → b = a ∧ u = HO.frz { cls := .type "list", data := .seq vs.toArray } (.lst (ns.map V.int)) := fun b u z => by
      by_cases hb : b = a
      · rw [if_pos hb] at z
        exact ⟨hb, (Option.some.inj z).symm⟩
      · rw [if_neg hb] at z
        cases z
    refine go (fun b => if b = a then some (HO.frz { cls := .type "list", data := .seq vs.toArray } (.lst (ns.map V.int))) else none) (fun b u z => ?_) (fun b hb => if_neg hb) (fun u z => ⟨hk, _, _, (at_ a u z).2⟩) (.inl (.inr ⟨_, if_pos rfl⟩))
    obtain ⟨rfl, rfl⟩ := at_ b u z
    exact ⟨hobj, by rw [List.length_map]; exact hl, vs, _, rv, hobj⟩
end SX
/-! what each def of the text does, as readings: printed by a program of mine -/
namespace K76
open PySem PySem.Spec PyProof.Rows L2 SX
open He (ga ma fAd)
def n_is_whole : List Str := ["thing"]
def t_is_whole (K : PySem.W.Frag)  (E : XK) : TS :=
  (tRet (tAndV (fun σ H Q => (mV 0) σ H fun x H1 => mIsInt K [x, .ty "int"] H1 Q) (tNotV (fun σ H Q => (mV 0) σ H fun x H1 => mIsBool K [x, .ty "bool"] H1 Q))))
def n_is_within : List Str := ["thing", "low", "high"]
def t_is_within (K : PySem.W.Frag) (s_is_whole : Sp) (E : XK) : TS :=
  (tRet (tAndV (xCall s_is_whole (WD E) (tCons (mV 0) tNil)) (tChain mLe mLe (mV 1) (mV 0) (mV 2))))
def n_is_name : List Str := ["thing", "sign"]
def t_is_name (K : PySem.W.Frag)  (E : XK) : TS :=
  (tSeq (tIfS (tOr (tNot (tB (fun σ H Q => (mV 0) σ H fun x H1 => mIsStr K [x, .ty "str"] H1 Q))) (tNot (tTest (tChain mLe mLe (tC (.int 1)) (tCB (mLen K) (tCons (mV 0) tNil)) (tC (.int 8)))))) (tRet (tC (.bl false))) tNext)
  (tRet (tCB (mAll K) (tCons (tLc (mSeq K (mV 0)) (gName 1) tYes (tOp (mIn K false) (mV 1) (tC (.str "abcdefghijklmnopqrstuvwxyz"))) [1]) tNil))))
def n_need_names : List Str := ["things", "thing"]
def t_need_names (K : PySem.W.Frag) (s_is_name : Sp) (E : XK) : TS :=
  (tFor (mSeq K (mV 0)) (gName 1) (tIfS (tNot (tB (xCall s_is_name (WD E) (tCons (mV 1) tNil)))) (xRaise K "NoName" "found" (WD E) (mV 1)) tNext))
def n_need_numbers : List Str := ["rows", "thing", "low", "high"]
def t_need_numbers (K : PySem.W.Frag) (s_is_within : Sp) (E : XK) : TS :=
  (tFor (mSeq K (mV 0)) (gTup K 3 (gCons (gName 1) (gCons (gName 2) (gCons (gName 3) gNil)))) (tIfS (tNot (tB (xCall s_is_within (WD E) (tCons (mV 1) (tCons (mV 2) (tCons (mV 3) tNil)))))) (xRaise K "NoNumber" "found" (WD E) (mV 1)) tNext))
def n_Channel___init__ : List Str := ["self", "name", "one", "other", "hours", "depth", "first", "growth", "most"]
def t_Channel___init__ (K : PySem.W.Frag) (s_need_names : Sp) (s_need_numbers : Sp) (E : XK) : TS :=
  (tSeq (tDrop (xCall s_need_names (WD E) (tCons (tLst (tCons (mV 1) (tCons (mV 2) (tCons (mV 3) tNil)))) tNil)))
  (tSeq (tIfS (tTest (tOp (mEq K false) (mV 2) (mV 3))) (xRaise K "Doubled" "name" (WD E) (mV 2)) tNext)
  (tSeq (tDrop (xCall s_need_numbers (WD E) (tCons (tLst (tCons (tTup (tCons (mV 4) (tCons (tC (.int 1)) (tCons (tC (.int 1000)) tNil)))) (tCons (tTup (tCons (mV 5) (tCons (tC (.int 0)) (tCons (tC (.int 1000)) tNil)))) (tCons (tTup (tCons (mV 6) (tCons (tC (.int 0)) (tCons (tC (.int 1000000)) tNil)))) tNil)))) tNil)))
  (tSeq (tDrop (xCall s_need_numbers (WD E) (tCons (tLst (tCons (tTup (tCons (mV 7) (tCons (tC (.int 0)) (tCons (tC (.int 1000)) tNil)))) (tCons (tTup (tCons (mV 8) (tCons (mV 6) (tCons (tC (.int 1000000)) tNil)))) tNil))) tNil)))
  (tSeq (mSetF K (mV 0) (mV 1) "name")
  (tSeq (mSetF K (mV 0) (mV 2) "one")
  (tSeq (mSetF K (mV 0) (mV 3) "other")
  (tSeq (mSetF K (mV 0) (mV 4) "hours")
  (tSeq (mSetF K (mV 0) (mV 5) "depth")
  (tSeq (mSetF K (mV 0) (mV 6) "first")
  (tSeq (mSetF K (mV 0) (mV 7) "growth")
  (mSetF K (mV 0) (mV 8) "most"))))))))))))
def n_Channel_ends : List Str := ["self"]
def t_Channel_ends (K : PySem.W.Frag)  (E : XK) : TS :=
  (tRet (tTup (tCons (mFld K (mV 0) "one") (tCons (mFld K (mV 0) "other") tNil))))
def n_Channel_row : List Str := ["self"]
def t_Channel_row (K : PySem.W.Frag)  (E : XK) : TS :=
  (tRet (tTup (tCons (mFld K (mV 0) "name") (tCons (mFld K (mV 0) "one") (tCons (mFld K (mV 0) "other") (tCons (mFld K (mV 0) "hours") (tCons (mFld K (mV 0) "depth") (tCons (mFld K (mV 0) "first") (tCons (mFld K (mV 0) "growth") (tCons (mFld K (mV 0) "most") tNil))))))))))
def n_Vessel___init__ : List Str := ["self", "name", "port", "hour", "strength", "draught"]
def t_Vessel___init__ (K : PySem.W.Frag) (s_need_names : Sp) (s_need_numbers : Sp) (ok_settle : Addr → Sp → Prop) (E : XK) : TS :=
  (tSeq (tDrop (xCall s_need_names (WD E) (tCons (tLst (tCons (mV 1) (tCons (mV 2) tNil))) tNil)))
  (tSeq (tDrop (xCall s_need_numbers (WD E) (tCons (tLst (tCons (tTup (tCons (mV 3) (tCons (tC (.int 0)) (tCons (tC (.int 1000000)) tNil)))) (tCons (tTup (tCons (mV 4) (tCons (tC (.int 0)) (tCons (tC (.int 1000000)) tNil)))) (tCons (tTup (tCons (mV 5) (tCons (tC (.int 0)) (tCons (tC (.int 1000)) tNil)))) tNil)))) tNil)))
  (tDrop (xMeth ok_settle "settle" (WD E) (mV 0) (tCons (mV 1) (tCons (mV 2) (tCons (mV 3) (tCons (mV 4) (tCons (mV 5) tNil)))))))))
def n_Vessel_settle : List Str := ["self", "name", "port", "hour", "strength", "draught"]
def t_Vessel_settle (K : PySem.W.Frag)  (E : XK) : TS :=
  (tSeq (mSetF K (mV 0) (mV 1) "name")
  (tSeq (mSetF K (mV 0) (mV 2) "port")
  (tSeq (mSetF K (mV 0) (mV 3) "hour")
  (tSeq (mSetF K (mV 0) (mV 4) "strength")
  (mSetF K (mV 0) (mV 5) "draught")))))
def n_Vessel_kind : List Str := ["self"]
def t_Vessel_kind (K : PySem.W.Frag)  (E : XK) : TS :=
  (tRet (tC (.str "vessel")))
def n_Vessel_thins : List Str := ["self"]
def t_Vessel_thins (K : PySem.W.Frag)  (E : XK) : TS :=
  (tRet (tC (.int 0)))
def n_Vessel_row : List Str := ["self"]
def t_Vessel_row (K : PySem.W.Frag)  (E : XK) : TS :=
  (tRet (tTup (tCons (mFld K (mV 0) "name") (tCons (mFld K (mV 0) "port") (tCons (mFld K (mV 0) "hour") (tCons (mFld K (mV 0) "strength") (tCons (mFld K (mV 0) "draught") tNil)))))))
def n_Breaker___init__ : List Str := ["self", "name", "port", "hour", "strength", "draught", "cut"]
def t_Breaker___init__ (K : PySem.W.Frag) (s_Vessel___init__ : Sp) (s_need_numbers : Sp) (E : XK) : TS :=
  (tSeq (tDrop (xCall s_Vessel___init__ (WD E) (tCons (mV 0) (tCons (mV 1) (tCons (mV 2) (tCons (mV 3) (tCons (mV 4) (tCons (mV 5) tNil))))))))
  (tSeq (tDrop (xCall s_need_numbers (WD E) (tCons (tLst (tCons (tTup (tCons (mV 6) (tCons (tC (.int 1)) (tCons (tC (.int 1000000)) tNil)))) tNil)) tNil)))
  (mSetF K (mV 0) (mV 6) "cut")))
def n_Breaker_kind : List Str := ["self"]
def t_Breaker_kind (K : PySem.W.Frag)  (E : XK) : TS :=
  (tRet (tC (.str "breaker")))
def n_Breaker_thins : List Str := ["self"]
def t_Breaker_thins (K : PySem.W.Frag)  (E : XK) : TS :=
  (tRet (mFld K (mV 0) "cut"))
def n_Breaker_row : List Str := ["self"]
def t_Breaker_row (K : PySem.W.Frag) (s_Vessel_row : Sp) (E : XK) : TS :=
  (tRet (tOp (mAdd K) (xCall s_Vessel_row (WD E) (tCons (mV 0) tNil)) (tTup (tCons (mFld K (mV 0) "cut") tNil))))
def n_Ship___init__ : List Str := ["self", "name", "port", "goal", "hour", "strength", "draught"]
def t_Ship___init__ (K : PySem.W.Frag) (s_need_names : Sp) (s_Vessel___init__ : Sp) (E : XK) : TS :=
  (tSeq (tDrop (xCall s_need_names (WD E) (tCons (tLst (tCons (mV 1) (tCons (mV 2) (tCons (mV 3) tNil)))) tNil)))
  (tSeq (tDrop (xCall s_Vessel___init__ (WD E) (tCons (mV 0) (tCons (mV 1) (tCons (mV 2) (tCons (mV 4) (tCons (mV 5) (tCons (mV 6) tNil))))))))
  (mSetF K (mV 0) (mV 3) "goal")))
def n_Ship_kind : List Str := ["self"]
def t_Ship_kind (K : PySem.W.Frag)  (E : XK) : TS :=
  (tRet (tC (.str "ship")))
def n_Ship_row : List Str := ["self"]
def t_Ship_row (K : PySem.W.Frag)  (E : XK) : TS :=
  (tRet (tTup (tCons (mFld K (mV 0) "name") (tCons (mFld K (mV 0) "port") (tCons (mFld K (mV 0) "goal") (tCons (mFld K (mV 0) "hour") (tCons (mFld K (mV 0) "strength") (tCons (mFld K (mV 0) "draught") tNil))))))))
def n_is_list : List Str := ["thing", "low", "high"]
def t_is_list (K : PySem.W.Frag)  (E : XK) : TS :=
  (tRet (tAndV (xIsSeq K (mV 0)) (tChain mLe mLe (mV 1) (tCB (mLen K) (tCons (mV 0) tNil)) (mV 2))))
def n_need_kinds : List Str := ["ports", "channels", "breakers", "ships", "port", "one"]
def t_need_kinds (K : PySem.W.Frag) (s_is_name : Sp) (s_is_list : Sp) (E : XK) : TS :=
  (tSeq (tIfS (tOr (tNot (tB (xCall s_is_list (WD E) (tCons (mV 0) (tCons (tC (.int 1)) (tCons (tC (.int 8)) tNil)))))) (tNot (tB (tCB (mAll K) (tCons (tLc (mSeq K (mV 0)) (gName 4) tYes (xCall s_is_name W0 (tCons (mV 4) tNil)) [4]) tNil))))) (xRaise K "NoWorld" "found" (WD E) (tC (.str "ports"))) tNext)
  (tSeq (tIfS (tOr (tNot (tB (xCall s_is_list (WD E) (tCons (mV 1) (tCons (tC (.int 0)) (tCons (tC (.int 12)) tNil)))))) (tNot (tB (tCB (mAll K) (tCons (tLc (mSeq K (mV 1)) (gName 5) tYes (fun σ H Q => (mV 5) σ H fun x H1 => mIsC K (.ref (ga K "Channel")) [x, .ref (ga K "Channel")] H1 Q) [5]) tNil))))) (xRaise K "NoWorld" "found" (WD E) (tC (.str "channels"))) tNext)
  (tSeq (tIfS (tOr (tNot (tB (xCall s_is_list (WD E) (tCons (mV 2) (tCons (tC (.int 0)) (tCons (tC (.int 4)) tNil)))))) (tNot (tB (tCB (mAll K) (tCons (tLc (mSeq K (mV 2)) (gName 5) tYes (fun σ H Q => (mV 5) σ H fun x H1 => mIsC K (.ref (ga K "Breaker")) [x, .ref (ga K "Breaker")] H1 Q) [5]) tNil))))) (xRaise K "NoWorld" "found" (WD E) (tC (.str "breakers"))) tNext)
  (tIfS (tOr (tNot (tB (xCall s_is_list (WD E) (tCons (mV 3) (tCons (tC (.int 0)) (tCons (tC (.int 6)) tNil)))))) (tNot (tB (tCB (mAll K) (tCons (tLc (mSeq K (mV 3)) (gName 5) tYes (fun σ H Q => (mV 5) σ H fun x H1 => mIsC K (.ref (ga K "Ship")) [x, .ref (ga K "Ship")] H1 Q) [5]) tNil))))) (xRaise K "NoWorld" "found" (WD E) (tC (.str "ships"))) tNext))))
def n_need_unlike : List Str := ["names", "known", "name"]
def t_need_unlike (K : PySem.W.Frag)  (E : XK) : TS :=
  (tSeq (tAsg tDNewK (gName 1))
  (tFor (mSeq K (mV 0)) (gName 2) (tSeq (tIfS (tB (tDIn (mV 2) (mV 1))) (xRaise K "Doubled" "name" (WD E) (mV 2)) tNext)
  (tAsg (tC (.bl true)) (gSub (mV 1) (mV 2) mSetI)))))
def n_need_ports : List Str := ["names", "ports", "name"]
def t_need_ports (K : PySem.W.Frag)  (E : XK) : TS :=
  (tFor (mSeq K (mV 0)) (gName 2) (tIfS (tTest (tOp (mIn K true) (mV 2) (mV 1))) (xRaise K "NoPort" "found" (WD E) (mV 2)) tNext))
def n_World___init__ : List Str := ["self", "begin", "ports", "channels", "breakers", "ships", "channel", "ship", "vessel", "breaker"]
def t_World___init__ (K : PySem.W.Frag) (s_is_within : Sp) (s_need_kinds : Sp) (s_need_unlike : Sp) (s_need_ports : Sp) (E : XK) : TS :=
  (tSeq (tIfS (tNot (tB (xCall s_is_within (WD E) (tCons (mV 1) (tCons (tC (.int 0)) (tCons (tC (.int 1000000)) tNil)))))) (xRaise K "NoNumber" "found" (WD E) (mV 1)) tNext)
  (tSeq (tDrop (xCall s_need_kinds (WD E) (tCons (mV 2) (tCons (mV 3) (tCons (mV 4) (tCons (mV 5) tNil))))))
  (tSeq (tDrop (xCall s_need_unlike (WD E) (tCons (mV 2) tNil)))
  (tSeq (tDrop (xCall s_need_unlike (WD E) (tCons (tLc (mSeq K (mV 3)) (gName 6) tYes (mFld K (mV 6) "name") [6]) tNil)))
  (tSeq (tDrop (xCall s_need_unlike (WD E) (tCons (tLc (mSeq K (tOp (mAdd K) (tCB (mList K) (tCons (mV 4) tNil)) (tCB (mList K) (tCons (mV 5) tNil)))) (gName 8) tYes (mFld K (mV 8) "name") [8]) tNil)))
  (tSeq (tFor (mSeq K (mV 3)) (gName 6) (tDrop (xCall s_need_ports (WD E) (tCons (tLst (tCons (mFld K (mV 6) "one") (tCons (mFld K (mV 6) "other") tNil))) (tCons (mV 2) tNil)))))
  (tSeq (tDrop (xCall s_need_ports (WD E) (tCons (tLc (mSeq K (mV 4)) (gName 9) tYes (mFld K (mV 9) "port") [9]) (tCons (mV 2) tNil))))
  (tSeq (tFor (mSeq K (mV 5)) (gName 7) (tDrop (xCall s_need_ports (WD E) (tCons (tLst (tCons (mFld K (mV 7) "port") (tCons (mFld K (mV 7) "goal") tNil))) (tCons (mV 2) tNil)))))
  (tSeq (mSetF K (mV 0) (mV 1) "beginning")
  (tSeq (mSetF K (mV 0) (tCB (mList K) (tCons (mV 2) tNil)) "all_ports")
  (tSeq (mSetF K (mV 0) (tCB (mList K) (tCons (mV 3) tNil)) "all_channels")
  (tSeq (mSetF K (mV 0) (tCB (mList K) (tCons (mV 4) tNil)) "all_breakers")
  (mSetF K (mV 0) (tCB (mList K) (tCons (mV 5) tNil)) "all_ships")))))))))))))
def n_World_begin_hour : List Str := ["self"]
def t_World_begin_hour (K : PySem.W.Frag)  (E : XK) : TS :=
  (tRet (mFld K (mV 0) "beginning"))
def n_World_ports : List Str := ["self"]
def t_World_ports (K : PySem.W.Frag)  (E : XK) : TS :=
  (tRet (tCB (mList K) (tCons (mFld K (mV 0) "all_ports") tNil)))
def n_World_channels : List Str := ["self"]
def t_World_channels (K : PySem.W.Frag)  (E : XK) : TS :=
  (tRet (tCB (mList K) (tCons (mFld K (mV 0) "all_channels") tNil)))
def n_World_breakers : List Str := ["self"]
def t_World_breakers (K : PySem.W.Frag)  (E : XK) : TS :=
  (tRet (tCB (mList K) (tCons (mFld K (mV 0) "all_breakers") tNil)))
def n_World_ships : List Str := ["self"]
def t_World_ships (K : PySem.W.Frag)  (E : XK) : TS :=
  (tRet (tCB (mList K) (tCons (mFld K (mV 0) "all_ships") tNil)))
def n_World_vessels : List Str := ["self"]
def t_World_vessels (K : PySem.W.Frag)  (E : XK) : TS :=
  (tRet (tOp (mAdd K) (mFld K (mV 0) "all_breakers") (mFld K (mV 0) "all_ships")))
def n_World_channel : List Str := ["self", "name", "channel"]
def t_World_channel (K : PySem.W.Frag)  (E : XK) : TS :=
  (tSeq (tFor (mSeq K (mFld K (mV 0) "all_channels")) (gName 2) (tIfS (tTest (tOp (mEq K false) (mFld K (mV 2) "name") (mV 1))) (tRet (mV 2)) tNext))
  (xRaise K "NoChannel" "found" (WD E) (mV 1)))
def n_World_vessel : List Str := ["self", "name", "vessel"]
def t_World_vessel (K : PySem.W.Frag) (ok_vessels : Addr → Sp → Prop) (E : XK) : TS :=
  (tSeq (tFor (mSeq K (xMeth ok_vessels "vessels" (WD E) (mV 0) tNil)) (gName 2) (tIfS (tTest (tOp (mEq K false) (mFld K (mV 2) "name") (mV 1))) (tRet (mV 2)) tNext))
  (xRaise K "NoVessel" "found" (WD E) (mV 1)))
def n_World_told : List Str := ["self", "channels", "breakers", "ships", "channel", "breaker", "ship"]
def t_World_told (K : PySem.W.Frag) (ok_row : Addr → Sp → Prop) (E : XK) : TS :=
  (tSeq (tAsg (tCB (mTuple K) (tCons (tLc (mSeq K (mFld K (mV 0) "all_channels")) (gName 4) tYes (xMeth ok_row "row" W0 (mV 4) tNil) [4]) tNil)) (gName 1))
  (tSeq (tAsg (tCB (mTuple K) (tCons (tLc (mSeq K (mFld K (mV 0) "all_breakers")) (gName 5) tYes (xMeth ok_row "row" W0 (mV 5) tNil) [5]) tNil)) (gName 2))
  (tSeq (tAsg (tCB (mTuple K) (tCons (tLc (mSeq K (mFld K (mV 0) "all_ships")) (gName 6) tYes (xMeth ok_row "row" W0 (mV 6) tNil) [6]) tNil)) (gName 3))
  (tRet (tTup (tCons (mFld K (mV 0) "beginning") (tCons (tCB (mTuple K) (tCons (mFld K (mV 0) "all_ports") tNil)) (tCons (mV 1) (tCons (mV 2) (tCons (mV 3) tNil))))))))))
def n_channel_anew : List Str := ["row"]
def t_channel_anew (K : PySem.W.Frag) (s_Channel___init__ : Sp) (E : XK) : TS :=
  (tRet (xMake (ga K "Channel") s_Channel___init__ (WD E) (tCons (tOp (mIx K) (mV 0) (tC (.int 0))) (tCons (tOp (mIx K) (mV 0) (tC (.int 1))) (tCons (tOp (mIx K) (mV 0) (tC (.int 2))) (tCons (tOp (mIx K) (mV 0) (tC (.int 3))) (tCons (tOp (mIx K) (mV 0) (tC (.int 4))) (tCons (tOp (mIx K) (mV 0) (tC (.int 5))) (tCons (tOp (mIx K) (mV 0) (tC (.int 6))) (tCons (tOp (mIx K) (mV 0) (tC (.int 7))) tNil))))))))))
def n_breaker_anew : List Str := ["row"]
def t_breaker_anew (K : PySem.W.Frag) (s_Breaker___init__ : Sp) (E : XK) : TS :=
  (tRet (xMake (ga K "Breaker") s_Breaker___init__ (WD E) (tCons (tOp (mIx K) (mV 0) (tC (.int 0))) (tCons (tOp (mIx K) (mV 0) (tC (.int 1))) (tCons (tOp (mIx K) (mV 0) (tC (.int 2))) (tCons (tOp (mIx K) (mV 0) (tC (.int 3))) (tCons (tOp (mIx K) (mV 0) (tC (.int 4))) (tCons (tOp (mIx K) (mV 0) (tC (.int 5))) tNil))))))))
def n_ship_anew : List Str := ["row"]
def t_ship_anew (K : PySem.W.Frag) (s_Ship___init__ : Sp) (E : XK) : TS :=
  (tRet (xMake (ga K "Ship") s_Ship___init__ (WD E) (tCons (tOp (mIx K) (mV 0) (tC (.int 0))) (tCons (tOp (mIx K) (mV 0) (tC (.int 1))) (tCons (tOp (mIx K) (mV 0) (tC (.int 2))) (tCons (tOp (mIx K) (mV 0) (tC (.int 3))) (tCons (tOp (mIx K) (mV 0) (tC (.int 4))) (tCons (tOp (mIx K) (mV 0) (tC (.int 5))) tNil))))))))
def n_world_anew : List Str := ["told", "begin", "ports", "channels", "breakers", "ships", "made", "row"]
def t_world_anew (K : PySem.W.Frag) (s_channel_anew : Sp) (s_World___init__ : Sp) (s_ship_anew : Sp) (s_breaker_anew : Sp) (E : XK) : TS :=
  (tSeq (tAsg (mV 0) (gTup K 5 (gCons (gName 1) (gCons (gName 2) (gCons (gName 3) (gCons (gName 4) (gCons (gName 5) gNil)))))))
  (tSeq (tAsg (tLc (mSeq K (mV 3)) (gName 7) tYes (xCall s_channel_anew W0 (tCons (mV 7) tNil)) [7]) (gName 6))
  (tRet (xMake (ga K "World") s_World___init__ (WD E) (tCons (mV 1) (tCons (mV 2) (tCons (mV 6) (tCons (tLc (mSeq K (mV 4)) (gName 7) tYes (xCall s_breaker_anew W0 (tCons (mV 7) tNil)) [7]) (tCons (tLc (mSeq K (mV 5)) (gName 7) tYes (xCall s_ship_anew W0 (tCons (mV 7) tNil)) [7]) tNil)))))))))
def n_turned : List Str := ["world", "begin", "ports", "channels", "breakers", "ships", "row"]
def t_turned (K : PySem.W.Frag) (ok_told : Addr → Sp → Prop) (s_world_anew : Sp) (E : XK) : TS :=
  (tSeq (tAsg (xMeth ok_told "told" (WD E) (mV 0) tNil) (gTup K 5 (gCons (gName 1) (gCons (gName 2) (gCons (gName 3) (gCons (gName 4) (gCons (gName 5) gNil)))))))
  (tRet (xCall s_world_anew (WD E) (tCons (tTup (tCons (mV 1) (tCons (mV 2) (tCons (tLc (mSeq K (mV 3)) (gName 6) tYes (tOp (mAdd K) (tOp (mAdd K) (tSl (mSl K) (mV 6) tNoPart (tPart (tC (.int 1)))) (tTup (tCons (tOp (mIx K) (mV 6) (tC (.int 2))) (tCons (tOp (mIx K) (mV 6) (tC (.int 1))) tNil)))) (tSl (mSl K) (mV 6) (tPart (tC (.int 3))) tNoPart)) [6]) (tCons (mV 4) (tCons (mV 5) tNil)))))) tNil))))
def n_with_ship : List Str := ["world", "ship"]
def t_with_ship (K : PySem.W.Frag) (s_World___init__ : Sp) (ok_ships : Addr → Sp → Prop) (ok_breakers : Addr → Sp → Prop) (ok_channels : Addr → Sp → Prop) (ok_ports : Addr → Sp → Prop) (ok_begin_hour : Addr → Sp → Prop) (E : XK) : TS :=
  (tSeq (tIfS (tNot (tB (fun σ H Q => (mV 1) σ H fun x H1 => mIsC K (.ref (ga K "Ship")) [x, .ref (ga K "Ship")] H1 Q))) (xRaise K "NoKind" "found" (WD E) (mV 1)) tNext)
  (tRet (xMake (ga K "World") s_World___init__ (WD E) (tCons (xMeth ok_begin_hour "begin_hour" (WD E) (mV 0) tNil) (tCons (xMeth ok_ports "ports" (WD E) (mV 0) tNil) (tCons (xMeth ok_channels "channels" (WD E) (mV 0) tNil) (tCons (xMeth ok_breakers "breakers" (WD E) (mV 0) tNil) (tCons (tOp (mAdd K) (xMeth ok_ships "ships" (WD E) (mV 0) tNil) (tLst (tCons (mV 1) tNil))) tNil))))))))
def n_without : List Str := ["world", "name", "gone", "breakers", "ships", "breaker", "ship"]
def t_without (K : PySem.W.Frag) (ok_vessel : Addr → Sp → Prop) (ok_breakers : Addr → Sp → Prop) (ok_ships : Addr → Sp → Prop) (s_World___init__ : Sp) (ok_channels : Addr → Sp → Prop) (ok_ports : Addr → Sp → Prop) (ok_begin_hour : Addr → Sp → Prop) (E : XK) : TS :=
  (tSeq (tAsg (xMeth ok_vessel "vessel" (WD E) (mV 0) (tCons (mV 1) tNil)) (gName 2))
  (tSeq (tAsg (tLc (mSeq K (xMeth ok_breakers "breakers" (WD E) (mV 0) tNil)) (gName 5) (tTest (tOp (mEq K true) (mFld K (mV 5) "name") (mFld K (mV 2) "name"))) (mV 5) [5]) (gName 3))
  (tSeq (tAsg (tLc (mSeq K (xMeth ok_ships "ships" (WD E) (mV 0) tNil)) (gName 6) (tTest (tOp (mEq K true) (mFld K (mV 6) "name") (mFld K (mV 2) "name"))) (mV 6) [6]) (gName 4))
  (tRet (xMake (ga K "World") s_World___init__ (WD E) (tCons (xMeth ok_begin_hour "begin_hour" (WD E) (mV 0) tNil) (tCons (xMeth ok_ports "ports" (WD E) (mV 0) tNil) (tCons (xMeth ok_channels "channels" (WD E) (mV 0) tNil) (tCons (mV 3) (tCons (mV 4) tNil))))))))))
def n__law_cell : List Str := ["script", "k"]
def t__law_cell (K : PySem.W.Frag)  (E : XK) : TS :=
  (tSeq (tIfS (tTest (tOp mLt (mV 1) (tCB (mLen K) (tCons (mV 0) tNil)))) (tRet (tOp (mIx K) (mV 0) (mV 1))) tNext)
  (tRet (tOp (mAdd K) (tOp (mMul) (tC (.int 7919)) (mV 1)) (tC (.int 76)))))
def n__law_box : List Str := ["cell"]
def t__law_box (K : PySem.W.Frag)  (E : XK) : TS :=
  (tRet (tLst (tCons (tCB (mMax2) (tCons (tC (.int 0)) (tCons (tOp (mSub) (mV 0) (tOp (mPow) (tC (.int 10)) (tC (.int 18)))) tNil))) (tCons (tOp (mMod) (mV 0) (tC (.int 2147483629))) (tCons (tC (.int 0)) tNil)))))
def n__law_take : List Str := ["box", "many", "digit", "one", "other"]
def t__law_take (K : PySem.W.Frag)  (E : XK) : TS :=
  (tSeq (tIfS (tTest (tOp mGt (tOp (mIx K) (mV 0) (tC (.int 0))) (tC (.int 0)))) (tSeq (tAsg (tOp (mMod) (tOp (mIx K) (mV 0) (tC (.int 0))) (mV 1)) (gName 2))
  (tSeq (tAsg (tOp (mDiv) (tOp (mIx K) (mV 0) (tC (.int 0))) (mV 1)) (gSub (mV 0) (tC (.int 0)) mSetI))
  (tRet (mV 2)))) tNext)
  (tSeq (tAsg (tOp (mAdd K) (tOp (mIx K) (mV 0) (tC (.int 2))) (tC (.int 1))) (gSub (mV 0) (tC (.int 2)) mSetI))
  (tSeq (tAsg (tOp (mMod) (tOp (mPow) (tOp (mAdd K) (tOp (mAdd K) (tOp (mIx K) (mV 0) (tC (.int 1))) (tOp (mMul) (tC (.int 7919)) (tOp (mIx K) (mV 0) (tC (.int 2))))) (tC (.int 76))) (tC (.int 5))) (tC (.int 2147483647))) (gName 3))
  (tSeq (tAsg (tOp (mMod) (tOp (mPow) (tOp (mAdd K) (tOp (mAdd K) (tOp (mDiv) (mV 3) (tC (.int 8))) (tOp (mMul) (tC (.int 104729)) (tOp (mIx K) (mV 0) (tC (.int 2))))) (tC (.int 3))) (tC (.int 3))) (tC (.int 2147483629))) (gName 4))
  (tRet (tOp (mMod) (tOp (mAdd K) (tOp (mDiv) (mV 3) (tC (.int 4))) (tOp (mMul) (tC (.int 536870909)) (tOp (mDiv) (mV 4) (tC (.int 4))))) (mV 1)))))))
def n__law_names : List Str := ["box", "many", "letters", "way", "first", "step", "words", "stem", "found", "at", "long", "k"]
def t__law_names (K : PySem.W.Frag) (s__law_take : Sp) (E : XK) : TS :=
  (tSeq (tAsg (tC (.str "abcdefghijklmnopqrstuvwxyz")) (gName 2))
  (tSeq (tAsg (xCall s__law_take (WD E) (tCons (mV 0) (tCons (tC (.int 3)) tNil))) (gName 3))
  (tSeq (tAsg (xCall s__law_take (WD E) (tCons (mV 0) (tCons (tC (.int 26)) tNil))) (gName 4))
  (tSeq (tAsg (tOp (mIx K) (tLst (tCons (tC (.int 1)) (tCons (tC (.int 3)) (tCons (tC (.int 5)) (tCons (tC (.int 7)) (tCons (tC (.int 9)) (tCons (tC (.int 11)) tNil))))))) (xCall s__law_take (WD E) (tCons (mV 0) (tCons (tC (.int 6)) tNil)))) (gName 5))
  (tSeq (tIfS (tTest (tOp (mEq K false) (mV 3) (tC (.int 0)))) (tSeq (tAsg (tM1 mSplit (tC (.str "begin ports channel breaker ship a ab abc none port train hour ice")) (tC (.str " "))) (gName 6))
  (tRet (tLc (iRng1 (tCons (mV 1) tNil)) (gName 11) tYes (tOp (mIx K) (mV 6) (tOp (mMod) (tOp (mAdd K) (mV 4) (tOp (mMul) (mV 5) (mV 11))) (tC (.int 13)))) [11]))) tNext)
  (tSeq (tAsg (tM1 (mJoin K) (tC (.str "")) (tLc (iRng1 (tCons (tC (.int 7)) tNil)) (gName 11) tYes (tOp (mIx K) (mV 2) (xCall s__law_take W0 (tCons (mV 0) (tCons (tC (.int 26)) tNil)))) [11])) (gName 7))
  (tSeq (tIfS (tTest (tOp (mEq K false) (mV 3) (tC (.int 1)))) (tSeq (tAsg (tLc (iRng1 (tCons (mV 1) tNil)) (gName 11) tYes (tOp (mAdd K) (tOp (mIx K) (mV 2) (tOp (mMod) (tOp (mAdd K) (mV 4) (tOp (mDiv) (mV 11) (tC (.int 8)))) (tC (.int 26)))) (tSl (mSl K) (mV 7) tNoPart (tPart (tOp (mMod) (mV 11) (tC (.int 8)))))) [11]) (gName 8))
  (tSeq (tAsg (xCall s__law_take (WD E) (tCons (mV 0) (tCons (tOp (mAdd K) (mV 1) (tC (.int 1))) tNil))) (gName 9))
  (tRet (tOp (mAdd K) (tSl (mSl K) (mV 8) (tPart (mV 9)) tNoPart) (tRevL K (tSl (mSl K) (mV 8) tNoPart (tPart (mV 9)))))))) tNext)
  (tSeq (tAsg (xCall s__law_take (WD E) (tCons (mV 0) (tCons (tC (.int 8)) tNil))) (gName 9))
  (tSeq (tAsg (tCB (mMax2) (tCons (mV 9) (tCons (xCall s__law_take (WD E) (tCons (mV 0) (tCons (tC (.int 8)) tNil))) tNil))) (gName 10))
  (tRet (tLc (iRng1 (tCons (mV 1) tNil)) (gName 11) tYes (tOp (mAdd K) (tOp (mAdd K) (tSl (mSl K) (mV 7) tNoPart (tPart (mV 9))) (tOp (mIx K) (mV 2) (tOp (mMod) (tOp (mAdd K) (mV 4) (tOp (mMul) (mV 5) (mV 11))) (tC (.int 26))))) (tSl (mSl K) (mV 7) (tPart (mV 9)) (tPart (mV 10)))) [11])))))))))))
def n__law_number : List Str := ["box", "low", "high", "way", "number"]
def t__law_number (K : PySem.W.Frag) (s__law_take : Sp) (E : XK) : TS :=
  (tSeq (tAsg (xCall s__law_take (WD E) (tCons (mV 0) (tCons (tC (.int 5)) tNil))) (gName 3))
  (tSeq (tAsg (tOp (mAdd K) (mV 1) (xCall s__law_take (WD E) (tCons (mV 0) (tCons (tOp (mAdd K) (tOp (mSub) (mV 2) (mV 1)) (tC (.int 1))) tNil)))) (gName 4))
  (tRet (tOp (mIx K) (tLst (tCons (mV 1) (tCons (mV 2) (tCons (mV 4) (tCons (mV 4) (tCons (tOp (mAdd K) (mV 1) (tOp (mMod) (tOp (mMod) (tOp (mSub) (mV 4) (mV 1)) (tC (.int 20))) (tOp (mAdd K) (tOp (mSub) (mV 2) (mV 1)) (tC (.int 1))))) tNil)))))) (mV 3)))))
def n__law_channel : List Str := ["box", "name", "ports", "at", "other", "first", "row"]
def t__law_channel (K : PySem.W.Frag) (s__law_take : Sp) (s__law_number : Sp) (E : XK) : TS :=
  (tSeq (tAsg (xCall s__law_take (WD E) (tCons (mV 0) (tCons (tCB (mLen K) (tCons (mV 2) tNil)) tNil))) (gName 3))
  (tSeq (tAsg (tOp (mMod) (tOp (mAdd K) (tOp (mAdd K) (mV 3) (tC (.int 1))) (xCall s__law_take (WD E) (tCons (mV 0) (tCons (tOp (mSub) (tCB (mLen K) (tCons (mV 2) tNil)) (tC (.int 1))) tNil)))) (tCB (mLen K) (tCons (mV 2) tNil))) (gName 4))
  (tSeq (tAsg (xCall s__law_number (WD E) (tCons (mV 0) (tCons (tC (.int 0)) (tCons (tOp (mPow) (tC (.int 10)) (tC (.int 6))) tNil)))) (gName 5))
  (tSeq (tAsg (tTup (tCons (mV 1) (tCons (tOp (mIx K) (mV 2) (mV 3)) (tCons (tOp (mIx K) (mV 2) (mV 4)) (tCons (xCall s__law_number (WD E) (tCons (mV 0) (tCons (tC (.int 1)) (tCons (tC (.int 1000)) tNil)))) (tCons (xCall s__law_number (WD E) (tCons (mV 0) (tCons (tC (.int 0)) (tCons (tC (.int 1000)) tNil)))) (tCons (mV 5) tNil))))))) (gName 6))
  (tRet (tOp (mAdd K) (mV 6) (tTup (tCons (xCall s__law_number (WD E) (tCons (mV 0) (tCons (tC (.int 0)) (tCons (tC (.int 1000)) tNil)))) (tCons (xCall s__law_number (WD E) (tCons (mV 0) (tCons (mV 5) (tCons (tOp (mPow) (tC (.int 10)) (tC (.int 6))) tNil)))) tNil)))))))))
def n__law_breaker : List Str := ["box", "name", "ports", "row"]
def t__law_breaker (K : PySem.W.Frag) (s__law_number : Sp) (s__law_take : Sp) (E : XK) : TS :=
  (tSeq (tAsg (tTup (tCons (mV 1) (tCons (tOp (mIx K) (mV 2) (xCall s__law_take (WD E) (tCons (mV 0) (tCons (tCB (mLen K) (tCons (mV 2) tNil)) tNil)))) (tCons (xCall s__law_number (WD E) (tCons (mV 0) (tCons (tC (.int 0)) (tCons (tOp (mPow) (tC (.int 10)) (tC (.int 6))) tNil)))) (tCons (xCall s__law_number (WD E) (tCons (mV 0) (tCons (tC (.int 0)) (tCons (tOp (mPow) (tC (.int 10)) (tC (.int 6))) tNil)))) tNil))))) (gName 3))
  (tRet (tOp (mAdd K) (mV 3) (tTup (tCons (xCall s__law_number (WD E) (tCons (mV 0) (tCons (tC (.int 0)) (tCons (tC (.int 1000)) tNil)))) (tCons (xCall s__law_number (WD E) (tCons (mV 0) (tCons (tC (.int 1)) (tCons (tOp (mPow) (tC (.int 10)) (tC (.int 6))) tNil)))) tNil))))))
def n__law_ship : List Str := ["box", "name", "ports", "row"]
def t__law_ship (K : PySem.W.Frag) (s__law_take : Sp) (s__law_number : Sp) (E : XK) : TS :=
  (tSeq (tAsg (tTup (tCons (mV 1) (tCons (tOp (mIx K) (mV 2) (xCall s__law_take (WD E) (tCons (mV 0) (tCons (tCB (mLen K) (tCons (mV 2) tNil)) tNil)))) (tCons (tOp (mIx K) (mV 2) (xCall s__law_take (WD E) (tCons (mV 0) (tCons (tCB (mLen K) (tCons (mV 2) tNil)) tNil)))) tNil)))) (gName 3))
  (tSeq (tAsg (tOp (mAdd K) (mV 3) (tTup (tCons (xCall s__law_number (WD E) (tCons (mV 0) (tCons (tC (.int 0)) (tCons (tOp (mPow) (tC (.int 10)) (tC (.int 6))) tNil)))) (tCons (xCall s__law_number (WD E) (tCons (mV 0) (tCons (tC (.int 0)) (tCons (tOp (mPow) (tC (.int 10)) (tC (.int 6))) tNil)))) tNil)))) (gName 3))
  (tRet (tOp (mAdd K) (mV 3) (tTup (tCons (xCall s__law_number (WD E) (tCons (mV 0) (tCons (tC (.int 0)) (tCons (tC (.int 1000)) tNil)))) tNil))))))
def n__law_world : List Str := ["box", "sizes", "ports", "channels", "vessels", "rows", "breakers", "ships", "name"]
def t__law_world (K : PySem.W.Frag) (s__law_names : Sp) (s__law_channel : Sp) (s__law_breaker : Sp) (s__law_ship : Sp) (s__law_number : Sp) (E : XK) : TS :=
  (tSeq (tAsg (xCall s__law_names (WD E) (tCons (mV 0) (tCons (tOp (mIx K) (mV 1) (tC (.int 0))) tNil))) (gName 2))
  (tSeq (tAsg (xCall s__law_names (WD E) (tCons (mV 0) (tCons (tOp (mMul) (tOp (mIx K) (mV 1) (tC (.int 1))) (tCB (mInt) (tCons (tOp mGt (tOp (mIx K) (mV 1) (tC (.int 0))) (tC (.int 1))) tNil))) tNil))) (gName 3))
  (tSeq (tAsg (xCall s__law_names (WD E) (tCons (mV 0) (tCons (tOp (mAdd K) (tOp (mIx K) (mV 1) (tC (.int 2))) (tOp (mIx K) (mV 1) (tC (.int 3)))) tNil))) (gName 4))
  (tSeq (tAsg (tCB (mTuple K) (tCons (tLc (mSeq K (mV 3)) (gName 8) tYes (xCall s__law_channel W0 (tCons (mV 0) (tCons (mV 8) (tCons (mV 2) tNil)))) [8]) tNil)) (gName 5))
  (tSeq (tAsg (tCB (mTuple K) (tCons (tLc (mSeq K (tSl (mSl K) (mV 4) tNoPart (tPart (tOp (mIx K) (mV 1) (tC (.int 2)))))) (gName 8) tYes (xCall s__law_breaker W0 (tCons (mV 0) (tCons (mV 8) (tCons (mV 2) tNil)))) [8]) tNil)) (gName 6))
  (tSeq (tAsg (tCB (mTuple K) (tCons (tLc (mSeq K (tSl (mSl K) (mV 4) (tPart (tOp (mIx K) (mV 1) (tC (.int 2)))) tNoPart)) (gName 8) tYes (xCall s__law_ship W0 (tCons (mV 0) (tCons (mV 8) (tCons (mV 2) tNil)))) [8]) tNil)) (gName 7))
  (tRet (tTup (tCons (xCall s__law_number (WD E) (tCons (mV 0) (tCons (tC (.int 0)) (tCons (tOp (mPow) (tC (.int 10)) (tC (.int 6))) tNil)))) (tCons (tCB (mTuple K) (tCons (mV 2) tNil)) (tCons (mV 5) (tCons (mV 6) (tCons (mV 7) tNil)))))))))))))
def n__law_few : List Str := ["box", "way", "found"]
def t__law_few (K : PySem.W.Frag) (s__law_take : Sp) (E : XK) : TS :=
  (tSeq (tAsg (xCall s__law_take (WD E) (tCons (mV 0) (tCons (tC (.int 6)) tNil))) (gName 1))
  (tSeq (tAsg (tLst (tCons (tOp (mAdd K) (tC (.int 1)) (xCall s__law_take (WD E) (tCons (mV 0) (tCons (tC (.int 8)) tNil)))) (tCons (xCall s__law_take (WD E) (tCons (mV 0) (tCons (tC (.int 13)) tNil))) (tCons (xCall s__law_take (WD E) (tCons (mV 0) (tCons (tC (.int 5)) tNil))) (tCons (xCall s__law_take (WD E) (tCons (mV 0) (tCons (tC (.int 7)) tNil))) tNil))))) (gName 2))
  (tRet (tOp (mIx K) (tLst (tCons (tLst (tCons (tC (.int 8)) (tCons (tC (.int 12)) (tCons (tC (.int 4)) (tCons (tC (.int 6)) tNil))))) (tCons (tLst (tCons (tC (.int 1)) (tCons (tC (.int 0)) (tCons (tC (.int 4)) (tCons (tC (.int 6)) tNil))))) (tCons (mV 2) (tCons (mV 2) (tCons (mV 2) (tCons (mV 2) tNil))))))) (mV 1)))))
def n__law_made : List Str := ["world", "channels", "breakers", "ships", "a", "b", "c", "d", "e", "f", "g", "h"]
def t__law_made (K : PySem.W.Frag) (s_Channel___init__ : Sp) (s_Breaker___init__ : Sp) (s_Ship___init__ : Sp) (s_World___init__ : Sp) (E : XK) : TS :=
  (tSeq (tAsg (tLc (mSeq K (tOp (mIx K) (mV 0) (tC (.int 2)))) (gTup K 8 (gCons (gName 4) (gCons (gName 5) (gCons (gName 6) (gCons (gName 7) (gCons (gName 8) (gCons (gName 9) (gCons (gName 10) (gCons (gName 11) gNil))))))))) tYes (xMake (ga K "Channel") s_Channel___init__ W0 (tCons (mV 4) (tCons (mV 5) (tCons (mV 6) (tCons (mV 7) (tCons (mV 8) (tCons (mV 9) (tCons (mV 10) (tCons (mV 11) tNil))))))))) [4,5,6,7,8,9,10,11]) (gName 1))
  (tSeq (tAsg (tCB (mTuple K) (tCons (tLc (mSeq K (tOp (mIx K) (mV 0) (tC (.int 3)))) (gTup K 6 (gCons (gName 4) (gCons (gName 5) (gCons (gName 6) (gCons (gName 7) (gCons (gName 8) (gCons (gName 9) gNil))))))) tYes (xMake (ga K "Breaker") s_Breaker___init__ W0 (tCons (mV 4) (tCons (mV 5) (tCons (mV 6) (tCons (mV 7) (tCons (mV 8) (tCons (mV 9) tNil))))))) [4,5,6,7,8,9]) tNil)) (gName 2))
  (tSeq (tAsg (tLc (mSeq K (tOp (mIx K) (mV 0) (tC (.int 4)))) (gTup K 6 (gCons (gName 4) (gCons (gName 5) (gCons (gName 6) (gCons (gName 7) (gCons (gName 8) (gCons (gName 9) gNil))))))) tYes (xMake (ga K "Ship") s_Ship___init__ W0 (tCons (mV 4) (tCons (mV 5) (tCons (mV 6) (tCons (mV 7) (tCons (mV 8) (tCons (mV 9) tNil))))))) [4,5,6,7,8,9]) (gName 3))
  (tRet (xMake (ga K "World") s_World___init__ (WD E) (tCons (tOp (mIx K) (mV 0) (tC (.int 0))) (tCons (tCB (mList K) (tCons (tOp (mIx K) (mV 0) (tC (.int 1))) tNil)) (tCons (mV 1) (tCons (mV 2) (tCons (mV 3) tNil))))))))))
def n__law_turned_due : List Str := ["world", "rows", "row"]
def t__law_turned_due (K : PySem.W.Frag)  (E : XK) : TS :=
  (tSeq (tAsg (tCB (mTuple K) (tCons (tLc (mSeq K (tOp (mIx K) (mV 0) (tC (.int 2)))) (gName 2) tYes (tOp (mAdd K) (tOp (mAdd K) (tSl (mSl K) (mV 2) tNoPart (tPart (tC (.int 1)))) (tTup (tCons (tOp (mIx K) (mV 2) (tC (.int 2))) (tCons (tOp (mIx K) (mV 2) (tC (.int 1))) tNil)))) (tSl (mSl K) (mV 2) (tPart (tC (.int 3))) tNoPart)) [2]) tNil)) (gName 1))
  (tRet (tOp (mAdd K) (tOp (mAdd K) (tSl (mSl K) (mV 0) tNoPart (tPart (tC (.int 2)))) (tTup (tCons (mV 1) tNil))) (tSl (mSl K) (mV 0) (tPart (tC (.int 3))) tNoPart))))
def n__law_ship_due : List Str := ["world", "row", "port", "one"]
def t__law_ship_due (K : PySem.W.Frag)  (E : XK) : TS :=
  (tSeq (tIfS (tTest (tOp mGt (tCB (mLen K) (tCons (tOp (mIx K) (mV 0) (tC (.int 4))) tNil)) (tC (.int 5)))) (tRet (tTup (tCons (tC (.str "world")) (tCons (tC (.str "ships")) tNil)))) tNext)
  (tSeq (tIfS (tTest (tOp (mIn K false) (tOp (mIx K) (mV 1) (tC (.int 0))) (tLc (mSeq K (tOp (mAdd K) (tOp (mIx K) (mV 0) (tC (.int 3))) (tOp (mIx K) (mV 0) (tC (.int 4))))) (gName 3) tYes (tOp (mIx K) (mV 3) (tC (.int 0))) [3]))) (tRet (tTup (tCons (tC (.str "doubled")) (tCons (tOp (mIx K) (mV 1) (tC (.int 0))) tNil)))) tNext)
  (tSeq (tFor (mSeq K (tSl (mSl K) (mV 1) (tPart (tC (.int 1))) (tPart (tC (.int 3))))) (gName 2) (tIfS (tTest (tOp (mIn K true) (mV 2) (tOp (mIx K) (mV 0) (tC (.int 1))))) (tRet (tTup (tCons (tC (.str "port")) (tCons (mV 2) tNil)))) tNext))
  (tRet (tTup (tCons (tC (.str "told")) (tCons (tOp (mAdd K) (tSl (mSl K) (mV 0) tNoPart (tPart (tC (.int 4)))) (tTup (tCons (tOp (mAdd K) (tOp (mIx K) (mV 0) (tC (.int 4))) (tTup (tCons (mV 1) tNil))) tNil))) tNil)))))))
def n__law_with : List Str := ["made", "row", "found", "e"]
def t__law_with (K : PySem.W.Frag) (s_with_ship : Sp) (s_Ship___init__ : Sp) (ok_told : Addr → Sp → Prop) (E : XK) : TS :=
  (tSeq (tAsg (tTup (tCons (tC (.str "other")) tNil)) (gName 2))
  (tSeq (fun D σ H => (fun W : WX => (tAsg (tTup (tCons (tC (.str "told")) (tCons (xMeth ok_told "told" W (xCall s_with_ship W (tCons (mV 0) (tCons (xMake (ga K "Ship") s_Ship___init__ W (tCons (tOp (mIx K) (mV 1) (tC (.int 0))) (tCons (tOp (mIx K) (mV 1) (tC (.int 1))) (tCons (tOp (mIx K) (mV 1) (tC (.int 2))) (tCons (tOp (mIx K) (mV 1) (tC (.int 3))) (tCons (tOp (mIx K) (mV 1) (tC (.int 4))) (tCons (tOp (mIx K) (mV 1) (tC (.int 5))) tNil))))))) tNil))) tNil) tNil))) (gName 2))) (wCls K (WD E) D [⟨(.ref (ga K "NoWorld")), some 3, fun a cls d => (tAsg (tTup (tCons (tC (.str "world")) (tCons (tXf a cls d (ga K "NoWorld") "found" (mV 3)) tNil))) (gName 2))⟩, ⟨(.ref (ga K "Doubled")), some 3, fun a cls d => (tAsg (tTup (tCons (tC (.str "doubled")) (tCons (tXf a cls d (ga K "Doubled") "name" (mV 3)) tNil))) (gName 2))⟩, ⟨(.ref (ga K "NoPort")), some 3, fun a cls d => (tAsg (tTup (tCons (tC (.str "port")) (tCons (tXf a cls d (ga K "NoPort") "found" (mV 3)) tNil))) (gName 2))⟩, ⟨(.ref (ga K "IceError")), none, fun a cls d => (tAsg (tTup (tCons (tC (.str "other")) tNil)) (gName 2))⟩]) D σ H)
  (tRet (mV 2))))
def n__law_without_due : List Str := ["world", "name", "rows", "some", "row"]
def t__law_without_due (K : PySem.W.Frag)  (E : XK) : TS :=
  (tSeq (tAsg (tLc (mSeq K (tSl (mSl K) (mV 0) (tPart (tC (.int 3))) tNoPart)) (gName 3) tYes (tCB (mTuple K) (tCons (tLc (mSeq K (mV 3)) (gName 4) (tTest (tOp (mEq K true) (tOp (mIx K) (mV 4) (tC (.int 0))) (mV 1))) (mV 4) [4]) tNil)) [3]) (gName 2))
  (tRet (tOp (mAdd K) (tSl (mSl K) (mV 0) tNoPart (tPart (tC (.int 3)))) (tTup (tCons (tOp (mIx K) (mV 2) (tC (.int 0))) (tCons (tOp (mIx K) (mV 2) (tC (.int 1))) tNil))))))
def n__law_same_things : List Str := ["one", "other", "some", "more", "thing"]
def t__law_same_things (K : PySem.W.Frag) (ok_vessels : Addr → Sp → Prop) (ok_channels : Addr → Sp → Prop) (E : XK) : TS :=
  (tSeq (tFor (mSeq K (tLst (tCons (tTup (tCons (xMeth ok_channels "channels" (WD E) (mV 0) tNil) (tCons (xMeth ok_channels "channels" (WD E) (mV 1) tNil) tNil))) (tCons (tTup (tCons (xMeth ok_vessels "vessels" (WD E) (mV 0) tNil) (tCons (xMeth ok_vessels "vessels" (WD E) (mV 1) tNil) tNil))) tNil)))) (gTup K 2 (gCons (gName 2) (gCons (gName 3) gNil))) (tIfS (tTest (tOp (mEq K true) (tLc (mSeq K (mV 2)) (gName 4) (tTest (tOp (mIn K true) (mV 4) (mV 3))) (mV 4) [4]) (tLst tNil))) (tRet (tC (.bl false))) tNext))
  (tRet (tC (.bl true))))
def n__law_new_ship : List Str := ["box", "world", "spare", "strange", "names", "row", "some", "other", "name", "one"]
def t__law_new_ship (K : PySem.W.Frag) (s__law_take : Sp) (s__law_names : Sp) (s__law_ship : Sp) (E : XK) : TS :=
  (tSeq (tPar 2 3 (tCons (xCall s__law_take (WD E) (tCons (mV 0) (tCons (tC (.int 4)) tNil))) (tCons (xCall s__law_take (WD E) (tCons (mV 0) (tCons (tC (.int 8)) tNil))) tNil)))
  (tSeq (tAsg (tLc (mSeq K (xCall s__law_names (WD E) (tCons (mV 0) (tCons (tC (.int 13)) tNil)))) (gName 8) (tTest (tOp (mIn K true) (mV 8) (tLc (mSeq K (tOp (mAdd K) (tOp (mIx K) (mV 1) (tC (.int 3))) (tOp (mIx K) (mV 1) (tC (.int 4))))) (gName 5) tYes (tOp (mIx K) (mV 5) (tC (.int 0))) [5]))) (mV 8) [8]) (gName 4))
  (tSeq (tAsg (xCall s__law_ship (WD E) (tCons (mV 0) (tCons (tOp (mIx K) (mV 4) (tC (.int 0))) (tCons (tCB (mList K) (tCons (tOp (mIx K) (mV 1) (tC (.int 1))) tNil)) tNil)))) (gName 5))
  (tSeq (tAsg (tLc (mSeq K (tOp (mAdd K) (tOp (mIx K) (mV 1) (tC (.int 3))) (tOp (mIx K) (mV 1) (tC (.int 4))))) (gName 9) tYes (tOp (mIx K) (mV 9) (tC (.int 0))) [9]) (gName 6))
  (tSeq (tIfS (tAnd (tTest (tOp (mEq K false) (mV 2) (tC (.int 0)))) (tTest (tOp (mEq K true) (mV 6) (tLst tNil)))) (tAsg (tOp (mAdd K) (tTup (tCons (tOp (mIx K) (mV 6) (xCall s__law_take (WD E) (tCons (mV 0) (tCons (tCB (mLen K) (tCons (mV 6) tNil)) tNil)))) tNil)) (tSl (mSl K) (mV 5) (tPart (tC (.int 1))) tNoPart)) (gName 5)) tNext)
  (tSeq (tIfS (tTest (tOp mLt (mV 3) (tC (.int 2)))) (tSeq (tAsg (tLc (mSeq K (xCall s__law_names (WD E) (tCons (mV 0) (tCons (tC (.int 13)) tNil)))) (gName 8) (tTest (tOp (mIn K true) (mV 8) (tOp (mIx K) (mV 1) (tC (.int 1))))) (mV 8) [8]) (gName 7))
  (tAsg (tOp (mAdd K) (tOp (mAdd K) (tSl (mSl K) (mV 5) tNoPart (tPart (tOp (mAdd K) (tC (.int 1)) (mV 3)))) (tTup (tCons (tOp (mIx K) (mV 7) (tC (.int 0))) tNil))) (tSl (mSl K) (mV 5) (tPart (tOp (mAdd K) (tC (.int 2)) (mV 3))) tNoPart)) (gName 5))) tNext)
  (tRet (mV 5))))))))
def n__law_right : List Str := ["box", "made", "world", "once", "row", "due", "turn", "ship", "more", "some", "name", "less", "one"]
def t__law_right (K : PySem.W.Frag) (s_turned : Sp) (ok_told : Addr → Sp → Prop) (s__law_turned_due : Sp) (s__law_new_ship : Sp) (s__law_ship_due : Sp) (s__law_with : Sp) (s_Ship___init__ : Sp) (s_with_ship : Sp) (ok_vessel : Addr → Sp → Prop) (ok_ships : Addr → Sp → Prop) (s__law_same_things : Sp) (s_without : Sp) (s__law_take : Sp) (s__law_without_due : Sp) (E : XK) : TS :=
  (tSeq (tAsg (xCall s_turned (WD E) (tCons (mV 1) tNil)) (gName 3))
  (tSeq (tIfS (tOr (tTest (tOp (mEq K true) (tCB (xRepr K) (tCons (xMeth ok_told "told" (WD E) (mV 3) tNil) tNil)) (tCB (xRepr K) (tCons (xCall s__law_turned_due (WD E) (tCons (mV 2) tNil)) tNil)))) (tTest (tOp (mEq K true) (tCB (xRepr K) (tCons (xMeth ok_told "told" (WD E) (xCall s_turned (WD E) (tCons (mV 3) tNil)) tNil) tNil)) (tCB (xRepr K) (tCons (mV 2) tNil))))) (tRet (tC (.bl false))) tNext)
  (tSeq (tAsg (xCall s__law_new_ship (WD E) (tCons (mV 0) (tCons (mV 2) tNil))) (gName 4))
  (tSeq (tAsg (xCall s__law_ship_due (WD E) (tCons (mV 2) (tCons (mV 4) tNil))) (gName 5))
  (tSeq (tFor (iRng1 (tCons (tC (.int 2)) tNil)) (gName 6) (tIfS (tTest (tOp (mEq K true) (tCB (xRepr K) (tCons (xCall s__law_with (WD E) (tCons (mV 1) (tCons (mV 4) tNil))) tNil)) (tCB (xRepr K) (tCons (mV 5) tNil)))) (tRet (tC (.bl false))) tNext))
  (tSeq (tIfS (tTest (tOp (mEq K false) (tOp (mIx K) (mV 5) (tC (.int 0))) (tC (.str "told")))) (tSeq (tAsg (xMake (ga K "Ship") s_Ship___init__ (WD E) (tCons (tOp (mIx K) (mV 4) (tC (.int 0))) (tCons (tOp (mIx K) (mV 4) (tC (.int 1))) (tCons (tOp (mIx K) (mV 4) (tC (.int 2))) (tCons (tOp (mIx K) (mV 4) (tC (.int 3))) (tCons (tOp (mIx K) (mV 4) (tC (.int 4))) (tCons (tOp (mIx K) (mV 4) (tC (.int 5))) tNil))))))) (gName 7))
  (tSeq (tAsg (xCall s_with_ship (WD E) (tCons (mV 1) (tCons (mV 7) tNil))) (gName 8))
  (tSeq (tIfS (tOr (tTest (tOp (mEq K true) (tOp (mIx K) (xMeth ok_ships "ships" (WD E) (mV 8) tNil) (tC (.int (-1)))) (mV 7))) (tTest (tOp (mEq K true) (xMeth ok_vessel "vessel" (WD E) (mV 8) (tCons (tOp (mIx K) (mV 4) (tC (.int 0))) tNil)) (mV 7)))) (tRet (tC (.bl false))) tNext)
  (tSeq (tIfS (tOr (tTest (tOp (mEq K true) (tCB (xRepr K) (tCons (xMeth ok_told "told" (WD E) (xCall s_without (WD E) (tCons (mV 8) (tCons (tOp (mIx K) (mV 4) (tC (.int 0))) tNil))) tNil) tNil)) (tCB (xRepr K) (tCons (mV 2) tNil)))) (tNot (tB (xCall s__law_same_things (WD E) (tCons (mV 1) (tCons (mV 8) tNil)))))) (tRet (tC (.bl false))) tNext)
  (tSeq (tDrop (tBM0 K "list" rClear (xMeth ok_ships "ships" (WD E) (mV 8) tNil)))
  (tIfS (tTest (tOp (mEq K true) (tCB (xRepr K) (tCons (xMeth ok_told "told" (WD E) (mV 8) tNil) tNil)) (tCB (xRepr K) (tCons (tOp (mIx K) (mV 5) (tC (.int 1))) tNil)))) (tRet (tC (.bl false))) tNext)))))) tNext)
  (tSeq (tAsg (tLc (mSeq K (tOp (mAdd K) (tOp (mIx K) (mV 2) (tC (.int 3))) (tOp (mIx K) (mV 2) (tC (.int 4))))) (gName 12) tYes (tOp (mIx K) (mV 12) (tC (.int 0))) [12]) (gName 9))
  (tSeq (tFor (iRng1 (tCons (tOp (mMul) (tC (.int 2)) (tCB (mInt) (tCons (tOp (mEq K true) (mV 9) (tLst tNil)) tNil))) tNil)) (gName 6) (tSeq (tAsg (tOp (mIx K) (mV 9) (xCall s__law_take (WD E) (tCons (mV 0) (tCons (tCB (mLen K) (tCons (mV 9) tNil)) tNil)))) (gName 10))
  (tSeq (tAsg (xCall s_without (WD E) (tCons (mV 1) (tCons (mV 10) tNil))) (gName 11))
  (tIfS (tOr (tTest (tOp (mEq K true) (tCB (xRepr K) (tCons (xMeth ok_told "told" (WD E) (mV 11) tNil) tNil)) (tCB (xRepr K) (tCons (xCall s__law_without_due (WD E) (tCons (mV 2) (tCons (mV 10) tNil))) tNil)))) (tNot (tB (xCall s__law_same_things (WD E) (tCons (mV 11) (tCons (mV 1) tNil)))))) (tRet (tC (.bl false))) tNext))))
  (tRet (tOp (mEq K false) (tCB (xRepr K) (tCons (xMeth ok_told "told" (WD E) (mV 1) tNil) tNil)) (tCB (xRepr K) (tCons (mV 2) tNil))))))))))))
def n_law : List Str := ["script", "ahead", "k", "box", "world", "made", "rows"]
def t_law (K : PySem.W.Frag) (s__law_box : Sp) (s__law_cell : Sp) (s__law_world : Sp) (s__law_few : Sp) (s__law_made : Sp) (s__law_right : Sp) (E : XK) : TS :=
  (tSeq (tAsg (tLst tNil) (gName 1))
  (tSeq (tFor (iRng1 (tCons (tCB (mMax2) (tCons (tC (.int 2)) (tCons (tCB (mMin2) (tCons (tC (.int 6)) (tCons (tCB (mLen K) (tCons (mV 0) tNil)) tNil))) tNil))) tNil)) (gName 2) (tSeq (tAsg (xCall s__law_box (WD E) (tCons (xCall s__law_cell (WD E) (tCons (mV 0) (tCons (mV 2) tNil))) tNil)) (gName 3))
  (tSeq (tAsg (xCall s__law_world (WD E) (tCons (mV 3) (tCons (xCall s__law_few (WD E) (tCons (mV 3) tNil)) tNil))) (gName 4))
  (tSeq (tDrop (tBM K "list" rAppend (mV 1) (tCons (tTup (tCons (xCall s__law_made (WD E) (tCons (mV 4) tNil)) (tCons (mV 4) tNil))) tNil)))
  (tFor (mSeq K (tSl (mSl K) (mV 1) (tPart (tC (.int (-2)))) tNoPart)) (gTup K 2 (gCons (gName 5) (gCons (gName 6) gNil))) (tIfS (tNot (tB (xCall s__law_right (WD E) (tCons (mV 3) (tCons (mV 5) (tCons (mV 6) tNil)))))) (tRet (tC (.bl false))) tNext))))))
  (tRet (tC (.bl true)))))
end K76
/-! readings: names, numbers, channels, vessels -/
namespace K76
open PySem PySem.Spec PyProof.Rows L2 SX
open He (ga ma fAd)
abbrev endsR (Q : VK) : Ends := { nx := fun _ H' => Q .non H', rt := Q }
theorem sz {n : Nat} (h : Nat.ble n 100000 = true) : n ≤ sizeLine := len_ok (Nat.le_of_ble_eq_true h)
theorem bl {n m : Nat} (h : Nat.ble n m = true) : n ≤ m := Nat.le_of_ble_eq_true h
/-! ### names and numbers -/
def lets : Str := "abcdefghijklmnopqrstuvwxyz"
def nameB (z : Str) : Bool := decide (1 ≤ z.length) && (decide (z.length ≤ 8) && z.cps.toList.all fun c => decide (c ∈ lets.cps.toList))
def IsName (z : Str) : Prop := nameB z = true
def sp_is_whole : Sp := fun vs H Q _ => ∃ i : Int, vs = [.int i] ∧ Q (.bl true) H
def sp_is_within : Sp := fun vs H Q _ => ∃ i lo hi : Int, vs = [.int i, .int lo, .int hi] ∧ Q (.bl (decide (lo ≤ i) && decide (i ≤ hi))) H
def sp_is_name : Sp := fun vs H Q _ => ∃ z : Str, vs = [.str z] ∧ z.length ≤ sizeLine ∧ ∀ H', Same H H' → Q (.bl (nameB z)) H'
variable {K : PySem.W.Frag}
theorem IsName.len {z : Str} (h : IsName z) : 1 ≤ z.length ∧ z.length ≤ 8 ∧ ∀ c ∈ z.cps.toList, c ∈ lets.cps.toList := by
  have h' : (decide (1 ≤ z.length) && (decide (z.length ≤ 8) && z.cps.toList.all fun c => decide (c ∈ lets.cps.toList))) = true := h
  simp only [Bool.and_eq_true, decide_eq_true_eq, List.all_eq_true] at h'
  exact h'
theorem IsName.size {z : Str} (h : IsName z) : z.length ≤ sizeLine := len_ok (Nat.le_trans h.len.2.1 (by decide))
theorem r_is_whole {vs : List V} {H : Hp} {Q : VK} {E : XK} (h : sp_is_whole vs H Q E) : t_is_whole K E (endsR Q) (start n_is_whole vs) H := by
  obtain ⟨i, rfl, q⟩ := h
  exact ⟨true, rfl, false, rfl, q⟩
theorem r_is_within {vs : List V} {H : Hp} {Q : VK} {E : XK} (h : sp_is_within vs H Q E) : t_is_within K sp_is_whole E (endsR Q) (start n_is_within vs) H := by
  obtain ⟨i, lo, hi, rfl, q⟩ := h
  refine ⟨i, rfl, true, rfl, decide (lo ≤ i), rfl, ?_⟩
  cases e : decide (lo ≤ i) with
  | true =>
    rw [e] at q
    exact q
  | false =>
    rw [e] at q
    exact q
theorem rp_map {α : Type} (xs : List α) (p : α → Bool) (n : Nat) (h : n = xs.length) (f : Nat → Bool) (hf : ∀ i (x : α), xs[i]? = some x → f i = p x) : ((List.range n).map f).all id = xs.all p := by
  subst h
  induction xs generalizing f with
  | nil => rfl
  | cons x xs ih =>
    rw [List.length_cons, List.range_succ_eq_map, List.map_cons, List.all_cons, List.all_cons, List.map_map, ih (f ∘ Nat.succ) fun i y hy => hf (i + 1) y (by simpa using hy)]
    have := hf 0 x rfl
    rw [id, this]
/-- a list of bools that a comprehension gave -/
theorem given_bl {n : Nat} {b : Nat → Bool} : given n (fun _ => true) (fun i => V.bl (b i)) = ((List.range n).map b).map V.bl := by
  unfold given
  rw [List.filter_eq_self.mpr (fun _ _ => rfl), List.map_map]
  rfl
theorem r_is_name {vs : List V} {H : Hp} {Q : VK} {E : XK} (h : sp_is_name vs H Q E) : t_is_name K E (endsR Q) (start n_is_name vs) H := by
  obtain ⟨z, rfl, hz, q⟩ := h
  refine ⟨true, rfl, hz, decide ((1 : Int) ≤ (z.length : Nat)), rfl, ?_⟩
  have q0 := q
  unfold nameB at q
  by_cases h1 : 1 ≤ z.length
  · rw [decide_eq_true (show (1 : Int) ≤ (z.length : Nat) by omega)]
    refine ⟨decide (((z.length : Nat) : Int) ≤ 8), rfl, ?_⟩
    by_cases h2 : z.length ≤ 8
    · rw [decide_eq_true (show ((z.length : Nat) : Int) ≤ 8 by omega)]
      refine ⟨_, _, _, .str (z := z), True.intro, ?_⟩
      refine lc_pure (Src.str (K := K) (z := z)).wk (fun _ => true) (fun i => V.bl (decide ((z.cps.toList.getD i 0) ∈ lets.cps.toList))) ?_ (fun _ _ => True.intro) ?_ ?_
      · unfold signsV
        rw [List.length_map]
        have : z.cps.toList.length = z.length := rfl
        omega
      · intro i x H' Q' R' hx _ hq _
        unfold signsV at hx
        rw [List.getElem?_map] at hx
        obtain ⟨c, hc, rfl⟩ := Option.map_eq_some_iff.mp hx
        refine ⟨rfl, c, rfl, ?_⟩
        have e : z.cps.toList.getD i 0 = c := by rw [List.getD_eq_getElem?_getD, hc]; rfl
        have := hq rfl H' (Same.refl _)
        rw [e] at this
        simpa [lets] using this
      · intro D H' hD hs hl
        refine ⟨(List.range (signsV z).length).map fun i => decide ((z.cps.toList.getD i 0) ∈ lets.cps.toList), ?_, ?_⟩
        · exact .inl (.inl (by rw [hl, given_bl]))
        · have e := rp_map z.cps.toList (fun c => decide (c ∈ lets.cps.toList)) (signsV z).length (by unfold signsV; rw [List.length_map]) (fun i => decide ((z.cps.toList.getD i 0) ∈ lets.cps.toList)) fun i x hx => by
            show decide (z.cps.toList.getD i 0 ∈ lets.cps.toList) = _
            rw [List.getD_eq_getElem?_getD, hx]
            rfl
          rw [e]
          have q1 := q H' hs
          rw [decide_eq_true h1, decide_eq_true h2] at q1
          exact q1
    · rw [decide_eq_false (show ¬ ((z.length : Nat) : Int) ≤ 8 by omega)]
      have q1 := q H (Same.refl H)
      rw [decide_eq_false h2, Bool.false_and, Bool.and_false] at q1
      exact q1
  · rw [decide_eq_false (show ¬ (1 : Int) ≤ (z.length : Nat) by omega)]
    have q1 := q H (Same.refl H)
    rw [decide_eq_false h1, Bool.false_and] at q1
    exact ⟨false, rfl, q1⟩
/-! ### lists of names, of numbers with their bounds -/
def sp_need_names : Sp := fun vs H Q _ => ∃ (p : Addr) (zs : List Str) (K : PySem.W.Frag), vs = [.ref p] ∧ H p = some (.lst (zs.map V.str)) ∧ zs.length ≤ 1000 ∧ (∀ z ∈ zs, IsName z) ∧ ∀ H', Same H H' → Q .non H'
theorem r_need_names {vs : List V} {H : Hp} {Q : VK} {E : XK} (h : sp_need_names vs H Q E) : t_need_names K sp_is_name E (endsR Q) (start n_need_names vs) H := by
  obtain ⟨p, zs, _, rfl, hp, hl, hz, q⟩ := h
  have hs : SqL K H p (zs.map V.str) := .inl (.inl hp)
  refine ⟨_, _, _, .lst, hs, ?_⟩
  refine for_each (Src.lst (K := K)).wk (fun σ => ∃ v, σ = [some (.ref p), v]) ⟨none, rfl⟩ (fun H' e => sameL e hs) ?_ fun σ' H' _ e => q H' e
  rintro i x _ H' hx ⟨v, rfl⟩ e
  rw [List.getElem?_map] at hx
  obtain ⟨z, hz1, rfl⟩ := Option.map_eq_some_iff.mp hx
  have nm := hz z (List.mem_of_getElem? hz1)
  refine ⟨z, rfl, nm.size, fun H2 e2 => ⟨nameB z, rfl, ?_⟩⟩
  rw [show nameB z = true from nm]
  exact ⟨⟨_, rfl⟩, e.trans e2⟩
def NumAt (K : PySem.W.Frag) (H : Hp) (x : V) : Prop := ∃ (a : Addr) (i lo hi : Int), x = .ref a ∧ SqT K H a [.int i, .int lo, .int hi] ∧ lo ≤ i ∧ i ≤ hi
def sp_need_numbers (K : PySem.W.Frag) : Sp := fun vs H Q _ => ∃ (p : Addr) (xs : List V), vs = [.ref p] ∧ H p = some (.lst xs) ∧ (∀ x ∈ xs, NumAt K H x) ∧ ∀ H', Same H H' → Q .non H'
theorem r_need_numbers {vs : List V} {H : Hp} {Q : VK} {E : XK} (h : sp_need_numbers K vs H Q E) : t_need_numbers K sp_is_within E (endsR Q) (start n_need_numbers vs) H := by
  obtain ⟨p, xs, rfl, hp, hz, q⟩ := h
  have hs : SqL K H p xs := .inl (.inl hp)
  refine ⟨_, _, _, .lst, hs, ?_⟩
  refine for_each (Src.lst (K := K)).wk (fun σ => ∃ u v w, σ = [some (.ref p), u, v, w]) ⟨none, none, none, rfl⟩ (fun H' e => sameL e hs) ?_ fun σ' H' _ e => q H' e
  rintro i x _ H' hx ⟨u, v, w, rfl⟩ e
  obtain ⟨a, n, lo, hi, rfl, ha, h1, h2⟩ := hz x (List.mem_of_getElem? hx)
  refine ⟨a, _, rfl, sameT e ha, rfl, _, _, rfl, _, _, rfl, _, _, rfl, rfl, n, lo, hi, rfl, _, rfl, ?_⟩
  rw [decide_eq_true h1, decide_eq_true h2]
  exact ⟨⟨_, _, _, rfl⟩, e⟩
/-! ### records -/
structure Ch where
  name : Str
  one : Str
  other : Str
  hours : Int
  depth : Int
  first : Int
  growth : Int
  most : Int
structure Br where
  name : Str
  port : Str
  hour : Int
  strength : Int
  draught : Int
  cut : Int
structure Sh where
  name : Str
  port : Str
  goal : Str
  hour : Int
  strength : Int
  draught : Int
def Ch.fs (c : Ch) : List (Str × V) := [("name", .str c.name), ("one", .str c.one), ("other", .str c.other), ("hours", .int c.hours), ("depth", .int c.depth), ("first", .int c.first), ("growth", .int c.growth), ("most", .int c.most)]
def Br.fs (c : Br) : List (Str × V) := [("name", .str c.name), ("port", .str c.port), ("hour", .int c.hour), ("strength", .int c.strength), ("draught", .int c.draught), ("cut", .int c.cut)]
def Sh.fs (c : Sh) : List (Str × V) := [("name", .str c.name), ("port", .str c.port), ("hour", .int c.hour), ("strength", .int c.strength), ("draught", .int c.draught), ("goal", .str c.goal)]
def Ch.row (c : Ch) : List V := [.str c.name, .str c.one, .str c.other, .int c.hours, .int c.depth, .int c.first, .int c.growth, .int c.most]
def Br.row (c : Br) : List V := [.str c.name, .str c.port, .int c.hour, .int c.strength, .int c.draught, .int c.cut]
def Sh.row (c : Sh) : List V := [.str c.name, .str c.port, .str c.goal, .int c.hour, .int c.strength, .int c.draught]
structure Ch.Ok (c : Ch) : Prop where
  name : IsName c.name
  one : IsName c.one
  other : IsName c.other
  ne : c.one ≠ c.other
  hours : 1 ≤ c.hours ∧ c.hours ≤ 1000
  depth : 0 ≤ c.depth ∧ c.depth ≤ 1000
  first : 0 ≤ c.first ∧ c.first ≤ 1000000
  growth : 0 ≤ c.growth ∧ c.growth ≤ 1000
  most : c.first ≤ c.most ∧ c.most ≤ 1000000
structure Br.Ok (c : Br) : Prop where
  name : IsName c.name
  port : IsName c.port
  hour : 0 ≤ c.hour ∧ c.hour ≤ 1000000
  strength : 0 ≤ c.strength ∧ c.strength ≤ 1000000
  draught : 0 ≤ c.draught ∧ c.draught ≤ 1000
  cut : 1 ≤ c.cut ∧ c.cut ≤ 1000000
structure Sh.Ok (c : Sh) : Prop where
  name : IsName c.name
  port : IsName c.port
  goal : IsName c.goal
  hour : 0 ≤ c.hour ∧ c.hour ≤ 1000000
  strength : 0 ≤ c.strength ∧ c.strength ≤ 1000000
  draught : 0 ≤ c.draught ∧ c.draught ≤ 1000
/-- the facts of the classes -/
structure Kf (K : PySem.W.Frag) : Prop where
  ch : Cls K (ga K "Channel")
  br : Cls K (ga K "Breaker")
  sh : Cls K (ga K "Ship")
  wo : Cls K (ga K "World")
  chN : ∀ f ∈ (["name", "one", "other", "hours", "depth", "first", "growth", "most"] : List Str), NoAttr K (ga K "Channel") f
  brN : ∀ f ∈ (["name", "port", "hour", "strength", "draught", "cut"] : List Str), NoAttr K (ga K "Breaker") f
  shN : ∀ f ∈ (["name", "port", "hour", "strength", "draught", "goal"] : List Str), NoAttr K (ga K "Ship") f
  woN : ∀ f ∈ (["beginning", "all_ports", "all_channels", "all_breakers", "all_ships"] : List Str), NoAttr K (ga K "World") f
/-- all that stood but at a -/
def SameB (a : Addr) (H H' : Hp) : Prop := ∀ b u, b ≠ a → H b = some u → H' b = some u
theorem SameB.of {a : Addr} {H H' : Hp} (h : Same H H') : SameB a H H' := fun b u _ e => h b u e
theorem SameB.put {a : Addr} {H H' : Hp} {o : HO} (h : SameB a H H') : SameB a H (upd H' a o) := fun b u n e => by
  rw [upd_ne n]
  exact h b u n e
theorem SameB.new {a dx : Addr} {H H' : Hp} {o o' : HO} (hx : H a = none) (hd : H dx = none) (hne : dx ≠ a) (h : SameB a (upd (upd H dx o) a o') H') : Same H H' := fun b u e => by
  have h1 := ne_of_none e hx
  have h2 := ne_of_none e hd
  exact h b u h1 (by rw [upd_ne h1, upd_ne h2]; exact e)
def ChAt (K : PySem.W.Frag) (H : Hp) (x : V) (c : Ch) : Prop := ∃ a dx, x = .ref a ∧ H a = some (.ins (ga K "Channel") dx c.fs)
def BrAt (K : PySem.W.Frag) (H : Hp) (x : V) (c : Br) : Prop := ∃ a dx, x = .ref a ∧ H a = some (.ins (ga K "Breaker") dx c.fs)
def ShAt (K : PySem.W.Frag) (H : Hp) (x : V) (c : Sh) : Prop := ∃ a dx, x = .ref a ∧ H a = some (.ins (ga K "Ship") dx c.fs)
theorem ChAt.mono {H H' : Hp} {x : V} {c : Ch} (h : ChAt K H x c) (e : Same H H') : ChAt K H' x c := let ⟨a, dx, ex, ha⟩ := h; ⟨a, dx, ex, e _ _ ha⟩
theorem BrAt.mono {H H' : Hp} {x : V} {c : Br} (h : BrAt K H x c) (e : Same H H') : BrAt K H' x c := let ⟨a, dx, ex, ha⟩ := h; ⟨a, dx, ex, e _ _ ha⟩
theorem ShAt.mono {H H' : Hp} {x : V} {c : Sh} (h : ShAt K H x c) (e : Same H H') : ShAt K H' x c := let ⟨a, dx, ex, ha⟩ := h; ⟨a, dx, ex, e _ _ ha⟩
/-- __init__: self's fields are laid, all else stays -/
def sp_init (C : Addr) (row fs0 : List V) (fs : List (Str × V)) : Sp := fun vs H Q _ => ∃ (a dx : Addr), vs = .ref a :: row ∧ H a = some (.ins C dx []) ∧ ∀ H', SameB a H H' → H' a = some (.ins C dx fs) → Q .non H'
def sp_Channel___init__ (K : PySem.W.Frag) : Sp := fun vs H Q _ => ∃ (a dx : Addr) (c : Ch), vs = .ref a :: c.row ∧ c.Ok ∧ H a = some (.ins (ga K "Channel") dx []) ∧ ∀ H', SameB a H H' → H' a = some (.ins (ga K "Channel") dx c.fs) → Q .non H'
theorem r_Channel___init__ (Z : Kf K) {vs : List V} {H : Hp} {Q : VK} {E : XK} (h : sp_Channel___init__ K vs H Q E) : t_Channel___init__ K sp_need_names (sp_need_numbers K) E (endsR Q) (start n_Channel___init__ vs) H := by
  obtain ⟨a, dx, c, rfl, ok, ha, q⟩ := h
  refine ⟨sz rfl, fun p hp => ⟨p, [c.name, c.one, c.other], K, rfl, upd_same, bl rfl, ?_, fun H1 e1 => ?_⟩⟩
  · intro z hz
    simp only [List.mem_cons, List.not_mem_nil, or_false] at hz
    rcases hz with rfl | rfl | rfl
    · exact ok.name
    · exact ok.one
    · exact ok.other
  have e1 : Same H H1 := (Same.new hp).trans e1
  refine ⟨_, rfl, ?_⟩
  rw [show (false ^^ decide (c.one = c.other)) = false by rw [decide_eq_false ok.ne]; rfl]
  refine ⟨sz rfl, fun p1 h1 => ⟨sz rfl, fun p2 h2 => ⟨sz rfl, fun p3 h3 => ⟨sz rfl, fun p4 h4 => ?_⟩⟩⟩⟩
  have f1 := Same.new (o := .tup [.int c.hours, .int 1, .int 1000]) h1
  have f2 := Same.new (o := .tup [.int c.depth, .int 0, .int 1000]) h2
  have f3 := Same.new (o := .tup [.int c.first, .int 0, .int 1000000]) h3
  have f4 := Same.new (o := .lst [.ref p1, .ref p2, .ref p3]) h4
  refine ⟨p4, [.ref p1, .ref p2, .ref p3], rfl, upd_same, ?_, fun H2 e2 => ?_⟩
  · intro x hx
    simp only [List.mem_cons, List.not_mem_nil, or_false] at hx
    rcases hx with rfl | rfl | rfl
    · exact ⟨p1, c.hours, 1, 1000, rfl, .inl (.inl (f4 _ _ (f3 _ _ (f2 _ _ upd_same)))), ok.hours⟩
    · exact ⟨p2, c.depth, 0, 1000, rfl, .inl (.inl (f4 _ _ (f3 _ _ upd_same))), ok.depth⟩
    · exact ⟨p3, c.first, 0, 1000000, rfl, .inl (.inl (f4 _ _ upd_same)), ok.first⟩
  have e2 : Same H H2 := ((((e1.trans f1).trans f2).trans f3).trans f4).trans e2
  refine ⟨sz rfl, fun p1 h1 => ⟨sz rfl, fun p2 h2 => ⟨sz rfl, fun p3 h3 => ?_⟩⟩⟩
  have f1 := Same.new (o := .tup [.int c.growth, .int 0, .int 1000]) h1
  have f2 := Same.new (o := .tup [.int c.most, .int c.first, .int 1000000]) h2
  have f3 := Same.new (o := .lst [.ref p1, .ref p2]) h3
  refine ⟨p3, [.ref p1, .ref p2], rfl, upd_same, ?_, fun H3 e3 => ?_⟩
  · intro x hx
    simp only [List.mem_cons, List.not_mem_nil, or_false] at hx
    rcases hx with rfl | rfl
    · exact ⟨p1, c.growth, 0, 1000, rfl, .inl (.inl (f3 _ _ (f2 _ _ upd_same))), ok.growth⟩
    · exact ⟨p2, c.most, c.first, 1000000, rfl, .inl (.inl (f3 _ _ upd_same)), ok.most⟩
  have e3 : Same H H3 := (((e2.trans f1).trans f2).trans f3).trans e3
  have N := fun (f : Str) (hf : f ∈ (["name", "one", "other", "hours", "depth", "first", "growth", "most"] : List Str)) => Z.chN f hf
  refine ⟨_, dx, [], e3 _ _ ha, Z.ch, N _ (by simp), bl rfl, ?_⟩
  refine ⟨_, dx, _, upd_same, Z.ch, N _ (by simp), bl rfl, ?_⟩
  refine ⟨_, dx, _, upd_same, Z.ch, N _ (by simp), bl rfl, ?_⟩
  refine ⟨_, dx, _, upd_same, Z.ch, N _ (by simp), bl rfl, ?_⟩
  refine ⟨_, dx, _, upd_same, Z.ch, N _ (by simp), bl rfl, ?_⟩
  refine ⟨_, dx, _, upd_same, Z.ch, N _ (by simp), bl rfl, ?_⟩
  refine ⟨_, dx, _, upd_same, Z.ch, N _ (by simp), bl rfl, ?_⟩
  refine ⟨_, dx, _, upd_same, Z.ch, N _ (by simp), bl rfl, ?_⟩
  exact q _ (SameB.of e3).put.put.put.put.put.put.put.put (by rw [upd_same]; rfl)
end K76
/-! readings: vessels, the world -/
namespace K76
open PySem PySem.Spec PyProof.Rows L2 SX
open He (ga ma fAd)
variable {K : PySem.W.Frag}
/-! ### vessels -/
def vfs (n p : Str) (h s d : Int) : List (Str × V) := [("name", .str n), ("port", .str p), ("hour", .int h), ("strength", .int s), ("draught", .int d)]
def VC (K : PySem.W.Frag) (C : Addr) : Prop := C = ga K "Breaker" ∨ C = ga K "Ship"
theorem VC.cls (Z : Kf K) {C : Addr} (h : VC K C) : Cls K C := by
  rcases h with rfl | rfl
  · exact Z.br
  · exact Z.sh
theorem VC.no (Z : Kf K) {C : Addr} (h : VC K C) : ∀ f ∈ (["name", "port", "hour", "strength", "draught"] : List Str), NoAttr K C f := fun f hf => by
  rcases h with rfl | rfl
  · exact Z.brN f (by
      simp only [List.mem_cons, List.not_mem_nil, or_false] at hf ⊢
      rcases hf with h | h | h | h | h <;> simp [h])
  · exact Z.shN f (by
      simp only [List.mem_cons, List.not_mem_nil, or_false] at hf ⊢
      rcases hf with h | h | h | h | h <;> simp [h])
def sp_Vessel_settle (K : PySem.W.Frag) : Sp := fun vs H Q _ => ∃ (a dx C : Addr) (n p : Str) (h s d : Int), vs = [.ref a, .str n, .str p, .int h, .int s, .int d] ∧ VC K C ∧ H a = some (.ins C dx []) ∧ ∀ H', SameB a H H' → H' a = some (.ins C dx (vfs n p h s d)) → Q .non H'
def sp_Vessel___init__ (K : PySem.W.Frag) : Sp := fun vs H Q _ => ∃ (a dx C : Addr) (n p : Str) (h s d : Int), vs = [.ref a, .str n, .str p, .int h, .int s, .int d] ∧ VC K C ∧ H a = some (.ins C dx []) ∧
  IsName n ∧ IsName p ∧ (0 ≤ h ∧ h ≤ 1000000) ∧ (0 ≤ s ∧ s ≤ 1000000) ∧ (0 ≤ d ∧ d ≤ 1000) ∧ ∀ H', SameB a H H' → H' a = some (.ins C dx (vfs n p h s d)) → Q .non H'
theorem r_Vessel_settle (Z : Kf K) {vs : List V} {H : Hp} {Q : VK} {E : XK} (h : sp_Vessel_settle K vs H Q E) : t_Vessel_settle K E (endsR Q) (start n_Vessel_settle vs) H := by
  obtain ⟨a, dx, C, n, p, h, s, d, rfl, hC, ha, q⟩ := h
  have N := hC.no Z
  have c := hC.cls Z
  refine ⟨_, dx, [], ha, c, N _ (by simp), bl rfl, ?_⟩
  refine ⟨_, dx, _, upd_same, c, N _ (by simp), bl rfl, ?_⟩
  refine ⟨_, dx, _, upd_same, c, N _ (by simp), bl rfl, ?_⟩
  refine ⟨_, dx, _, upd_same, c, N _ (by simp), bl rfl, ?_⟩
  refine ⟨_, dx, _, upd_same, c, N _ (by simp), bl rfl, ?_⟩
  exact q _ (SameB.of (Same.refl H)).put.put.put.put.put (by rw [upd_same]; rfl)
def ok_settle (K : PySem.W.Frag) (C : Addr) (sp : Sp) : Prop := VC K C ∧ sp = sp_Vessel_settle K
theorem SameB.pre {a : Addr} {H H1 H' : Hp} (e : Same H H1) (h : SameB a H1 H') : SameB a H H' := fun b u n x => h b u n (e _ _ x)
theorem r_Vessel___init__ (Z : Kf K) {vs : List V} {H : Hp} {Q : VK} {E : XK} (h : sp_Vessel___init__ K vs H Q E) : t_Vessel___init__ K sp_need_names (sp_need_numbers K) (ok_settle K) E (endsR Q) (start n_Vessel___init__ vs) H := by
  obtain ⟨a, dx, C, n, p, h, s, d, rfl, hC, ha, hn, hp, hh, hs, hd, q⟩ := h
  refine ⟨sz rfl, fun l hl => ⟨l, [n, p], K, rfl, upd_same, bl rfl, ?_, fun H1 e1 => ?_⟩⟩
  · intro z hz
    simp only [List.mem_cons, List.not_mem_nil, or_false] at hz
    rcases hz with rfl | rfl
    · exact hn
    · exact hp
  have e1 : Same H H1 := (Same.new hl).trans e1
  refine ⟨sz rfl, fun p1 h1 => ⟨sz rfl, fun p2 h2 => ⟨sz rfl, fun p3 h3 => ⟨sz rfl, fun p4 h4 => ?_⟩⟩⟩⟩
  have f1 := Same.new (o := .tup [.int h, .int 0, .int 1000000]) h1
  have f2 := Same.new (o := .tup [.int s, .int 0, .int 1000000]) h2
  have f3 := Same.new (o := .tup [.int d, .int 0, .int 1000]) h3
  have f4 := Same.new (o := .lst [.ref p1, .ref p2, .ref p3]) h4
  refine ⟨p4, [.ref p1, .ref p2, .ref p3], rfl, upd_same, ?_, fun H2 e2 => ?_⟩
  · intro x hx
    simp only [List.mem_cons, List.not_mem_nil, or_false] at hx
    rcases hx with rfl | rfl | rfl
    · exact ⟨p1, h, 0, 1000000, rfl, .inl (.inl (f4 _ _ (f3 _ _ (f2 _ _ upd_same)))), hh⟩
    · exact ⟨p2, s, 0, 1000000, rfl, .inl (.inl (f4 _ _ (f3 _ _ upd_same))), hs⟩
    · exact ⟨p3, d, 0, 1000, rfl, .inl (.inl (f4 _ _ upd_same)), hd⟩
  have e2 : Same H H2 := ((((e1.trans f1).trans f2).trans f3).trans f4).trans e2
  refine ⟨a, C, dx, [], _, rfl, e2 _ _ ha, rfl, ⟨hC, rfl⟩, a, dx, C, n, p, h, s, d, rfl, hC, e2 _ _ ha, fun H3 e3 h3 => ?_⟩
  exact q H3 (e3.pre e2) h3
def sp_Breaker___init__ (K : PySem.W.Frag) : Sp := fun vs H Q _ => ∃ (a dx : Addr) (c : Br), vs = .ref a :: c.row ∧ c.Ok ∧ H a = some (.ins (ga K "Breaker") dx []) ∧ ∀ H', SameB a H H' → H' a = some (.ins (ga K "Breaker") dx c.fs) → Q .non H'
theorem r_Breaker___init__ (Z : Kf K) {vs : List V} {H : Hp} {Q : VK} {E : XK} (h : sp_Breaker___init__ K vs H Q E) : t_Breaker___init__ K (sp_Vessel___init__ K) (sp_need_numbers K) E (endsR Q) (start n_Breaker___init__ vs) H := by
  obtain ⟨a, dx, c, rfl, ok, ha, q⟩ := h
  refine ⟨a, dx, _, c.name, c.port, c.hour, c.strength, c.draught, rfl, .inl rfl, ha, ok.name, ok.port, ok.hour, ok.strength, ok.draught, fun H1 e1 a1 => ?_⟩
  refine ⟨sz rfl, fun p1 h1 => ⟨sz rfl, fun p2 h2 => ?_⟩⟩
  have f1 := Same.new (o := .tup [.int c.cut, .int 1, .int 1000000]) h1
  have f2 := Same.new (o := .lst [.ref p1]) h2
  refine ⟨p2, [.ref p1], rfl, upd_same, ?_, fun H2 e2 => ?_⟩
  · intro x hx
    simp only [List.mem_cons, List.not_mem_nil, or_false] at hx
    subst hx
    exact ⟨p1, c.cut, 1, 1000000, rfl, .inl (.inl (f2 _ _ upd_same)), ok.cut⟩
  have e2 : Same H1 H2 := (f1.trans f2).trans e2
  refine ⟨_, dx, _, e2 _ _ a1, Z.br, Z.brN _ (by simp), bl rfl, ?_⟩
  exact q _ (SameB.put fun b u n x => e2 _ _ (e1 b u n x)) (by rw [upd_same]; rfl)
def sp_Ship___init__ (K : PySem.W.Frag) : Sp := fun vs H Q _ => ∃ (a dx : Addr) (c : Sh), vs = .ref a :: c.row ∧ c.Ok ∧ H a = some (.ins (ga K "Ship") dx []) ∧ ∀ H', SameB a H H' → H' a = some (.ins (ga K "Ship") dx c.fs) → Q .non H'
theorem r_Ship___init__ (Z : Kf K) {vs : List V} {H : Hp} {Q : VK} {E : XK} (h : sp_Ship___init__ K vs H Q E) : t_Ship___init__ K sp_need_names (sp_Vessel___init__ K) E (endsR Q) (start n_Ship___init__ vs) H := by
  obtain ⟨a, dx, c, rfl, ok, ha, q⟩ := h
  refine ⟨sz rfl, fun l hl => ⟨l, [c.name, c.port, c.goal], K, rfl, upd_same, bl rfl, ?_, fun H0 e0 => ?_⟩⟩
  · intro z hz
    simp only [List.mem_cons, List.not_mem_nil, or_false] at hz
    rcases hz with rfl | rfl | rfl
    · exact ok.name
    · exact ok.port
    · exact ok.goal
  have e0 : Same H H0 := (Same.new hl).trans e0
  refine ⟨a, dx, _, c.name, c.port, c.hour, c.strength, c.draught, rfl, .inr rfl, e0 _ _ ha, ok.name, ok.port, ok.hour, ok.strength, ok.draught, fun H1 e1 a1 => ?_⟩
  refine ⟨_, dx, _, a1, Z.sh, Z.shN _ (by simp), bl rfl, ?_⟩
  exact q _ (SameB.put (e1.pre e0)) (by rw [upd_same]; rfl)
/-! ### rows -/
def sp_Channel_row (K : PySem.W.Frag) : Sp := fun vs H Q _ => ∃ (x : V) (c : Ch), vs = [x] ∧ ChAt K H x c ∧ ∀ p H', Same H H' → SqT K H' p c.row → Q (.ref p) H'
def sp_Breaker_row (K : PySem.W.Frag) : Sp := fun vs H Q _ => ∃ (x : V) (c : Br), vs = [x] ∧ BrAt K H x c ∧ ∀ p H', Same H H' → SqT K H' p c.row → Q (.ref p) H'
def sp_Ship_row (K : PySem.W.Frag) : Sp := fun vs H Q _ => ∃ (x : V) (c : Sh), vs = [x] ∧ ShAt K H x c ∧ ∀ p H', Same H H' → SqT K H' p c.row → Q (.ref p) H'
def sp_Vessel_row (K : PySem.W.Frag) : Sp := fun vs H Q _ => ∃ (x : V) (c : Br), vs = [x] ∧ BrAt K H x c ∧ ∀ p H', Same H H' → SqT K H' p [.str c.name, .str c.port, .int c.hour, .int c.strength, .int c.draught] → Q (.ref p) H'
theorem ChAt.fld (Z : Kf K) {H : Hp} {x : V} {c : Ch} {f : Str} {v : V} (h : ChAt K H x c) (hf : f ∈ (["name", "one", "other", "hours", "depth", "first", "growth", "most"] : List Str) := by simp) (hv : c.fs.lookup f = some v := by rfl) : Fld K H x f v := let ⟨a, dx, ex, ha⟩ := h; ⟨a, _, dx, _, ex, ha, Z.ch, Z.chN f hf, hv⟩
theorem BrAt.fld (Z : Kf K) {H : Hp} {x : V} {c : Br} {f : Str} {v : V} (h : BrAt K H x c) (hf : f ∈ (["name", "port", "hour", "strength", "draught", "cut"] : List Str) := by simp) (hv : c.fs.lookup f = some v := by rfl) : Fld K H x f v := let ⟨a, dx, ex, ha⟩ := h; ⟨a, _, dx, _, ex, ha, Z.br, Z.brN f hf, hv⟩
theorem ShAt.fld (Z : Kf K) {H : Hp} {x : V} {c : Sh} {f : Str} {v : V} (h : ShAt K H x c) (hf : f ∈ (["name", "port", "hour", "strength", "draught", "goal"] : List Str) := by simp) (hv : c.fs.lookup f = some v := by rfl) : Fld K H x f v := let ⟨a, dx, ex, ha⟩ := h; ⟨a, _, dx, _, ex, ha, Z.sh, Z.shN f hf, hv⟩
theorem r_Channel_row (Z : Kf K) {vs : List V} {H : Hp} {Q : VK} {E : XK} (h : sp_Channel_row K vs H Q E) : t_Channel_row K E (endsR Q) (start n_Channel_row vs) H := by
  obtain ⟨x, c, rfl, h, q⟩ := h
  exact ⟨_, h.fld Z, _, h.fld Z, _, h.fld Z, _, h.fld Z, _, h.fld Z, _, h.fld Z, _, h.fld Z, _, h.fld Z, sz rfl, fun p hp => q p _ (Same.new hp) (.inl (.inl upd_same))⟩
theorem r_Ship_row (Z : Kf K) {vs : List V} {H : Hp} {Q : VK} {E : XK} (h : sp_Ship_row K vs H Q E) : t_Ship_row K E (endsR Q) (start n_Ship_row vs) H := by
  obtain ⟨x, c, rfl, h, q⟩ := h
  exact ⟨_, h.fld Z, _, h.fld Z, _, h.fld Z, _, h.fld Z, _, h.fld Z, _, h.fld Z, sz rfl, fun p hp => q p _ (Same.new hp) (.inl (.inl upd_same))⟩
theorem r_Vessel_row (Z : Kf K) {vs : List V} {H : Hp} {Q : VK} {E : XK} (h : sp_Vessel_row K vs H Q E) : t_Vessel_row K E (endsR Q) (start n_Vessel_row vs) H := by
  obtain ⟨x, c, rfl, h, q⟩ := h
  exact ⟨_, h.fld Z, _, h.fld Z, _, h.fld Z, _, h.fld Z, _, h.fld Z, sz rfl, fun p hp => q p _ (Same.new hp) (.inl (.inl upd_same))⟩
theorem r_Breaker_row (Z : Kf K) {vs : List V} {H : Hp} {Q : VK} {E : XK} (h : sp_Breaker_row K vs H Q E) : t_Breaker_row K (sp_Vessel_row K) E (endsR Q) (start n_Breaker_row vs) H := by
  obtain ⟨x, c, rfl, h, q⟩ := h
  refine ⟨x, c, rfl, h, fun p H1 e1 hp => ⟨_, (h.mono e1).fld Z, sz rfl, fun p2 hp2 => .inl ⟨_, _, sameT (Same.new hp2) hp, .inl (.inl upd_same), sz rfl, fun p3 H3 e3 h3 => ?_⟩⟩⟩
  exact q p3 H3 ((e1.trans (Same.new hp2)).trans e3) h3
end K76
/-! readings: the world's checks -/
namespace K76
open PySem PySem.Spec PyProof.Rows L2 SX
open He (ga ma fAd)
variable {K : PySem.W.Frag}
/-! ### pairs of lists -/
theorem pget {α β : Type} {F : α → β → Prop} : ∀ {l : List α} {m : List β} {i : Nat} {a : α}, Paired F l m → l[i]? = some a → ∃ b, m[i]? = some b ∧ F a b
  | [], _, _, _, .nil, e => by cases e
  | _ :: _, _, 0, _, .cons h _, e => ⟨_, rfl, by cases e; exact h⟩
  | _ :: _, _ :: _, i + 1, _, .cons _ t, e => by
    obtain ⟨b, h1, h2⟩ := pget (i := i) t (by simpa using e)
    exact ⟨b, by simpa using h1, h2⟩
theorem pget' {α β : Type} {F : α → β → Prop} : ∀ {l : List α} {m : List β} {i : Nat} {b : β}, Paired F l m → m[i]? = some b → ∃ a, l[i]? = some a ∧ F a b
  | [], _, _, _, .nil, e => by cases e
  | _ :: _, _, 0, _, .cons h _, e => ⟨_, rfl, by cases e; exact h⟩
  | _ :: _, _ :: _, i + 1, _, .cons _ t, e => by
    obtain ⟨b, h1, h2⟩ := pget' (i := i) t (by simpa using e)
    exact ⟨b, by simpa using h1, h2⟩
theorem plen {α β : Type} {F : α → β → Prop} {l : List α} {m : List β} (h : Paired F l m) : l.length = m.length := Paired.length h
theorem pimp {α β : Type} {F G : α → β → Prop} (i : ∀ a b, F a b → G a b) : ∀ {l : List α} {m : List β}, Paired F l m → Paired G l m
  | _, _, .nil => .nil
  | _, _, .cons h t => .cons (i _ _ h) (pimp i t)
theorem papp {α β : Type} {F : α → β → Prop} : ∀ {l l' : List α} {m m' : List β}, Paired F l m → Paired F l' m' → Paired F (l ++ l') (m ++ m')
  | _, _, _, _, .nil, h => h
  | _, _, _, _, .cons h t, h' => .cons h (papp t h')
/-- a list by its places -/
theorem pix {α β : Type} {F : α → β → Prop} {l : List α} {m : List β} (hl : l.length = m.length) (h : ∀ (i : Nat) a b, l[i]? = some a → m[i]? = some b → F a b) : Paired F l m := by
  induction l generalizing m with
  | nil =>
    cases m with
    | nil => exact .nil
    | cons b m => cases hl
  | cons a l ih =>
    cases m with
    | nil => cases hl
    | cons b m => exact .cons (h 0 a b rfl rfl) (ih (by simpa using hl) fun i x y hx hy => h (i + 1) x y (by simpa using hx) (by simpa using hy))
/-- what a comprehension without a condition gives -/
def upto (n : Nat) (f : Nat → V) : List V := (List.range n).map f
theorem given_all {n : Nat} {f : Nat → V} : given n (fun _ => true) f = upto n f := by
  unfold given upto
  rw [List.filter_eq_self.mpr fun _ _ => rfl]
theorem upto_map {α : Type} {xs : List α} {g : α → V} {f : Nat → V} {n : Nat} (hn : n = xs.length) (h : ∀ i x, xs[i]? = some x → f i = g x) : upto n f = xs.map g := by
  subst hn
  unfold upto
  refine List.ext_getElem? fun i => ?_
  rw [List.getElem?_map, List.getElem?_map]
  by_cases hi : i < xs.length
  · rw [List.getElem?_range hi, List.getElem?_eq_getElem hi]
    exact congrArg some (h i _ (List.getElem?_eq_getElem hi))
  · rw [List.getElem?_eq_none (by rw [List.length_range]; omega), List.getElem?_eq_none (by omega)]
    rfl
/-! ### is_list -/
def sp_is_list (K : PySem.W.Frag) : Sp := fun vs H Q _ => ∃ (a : Addr) (xs : List V) (lo hi : Int), vs = [.ref a, .int lo, .int hi] ∧ Sq K H a xs ∧ ∀ H', Same H H' → Q (.bl (decide (lo ≤ (xs.length : Nat)) && decide (((xs.length : Nat) : Int) ≤ hi))) H'
theorem r_is_list {vs : List V} {H : Hp} {Q : VK} {E : XK} (h : sp_is_list K vs H Q E) : t_is_list K E (endsR Q) (start n_is_list vs) H := by
  obtain ⟨a, xs, lo, hi, rfl, hs, q⟩ := h
  refine fun tp ht => ?_
  have e1 := Same.new (o := .tup [.ty "list", .ty "tuple"]) ht
  have hs1 := sameS e1 hs
  obtain ⟨t, ty, k⟩ := seq_ty hs1
  have q := q _ e1
  refine ⟨t, true, ty, k, true, rfl, xs, hs1, decide (lo ≤ (xs.length : Nat)), rfl, ?_⟩
  cases e : decide (lo ≤ (xs.length : Nat)) with
  | true =>
    rw [e] at q
    exact q
  | false =>
    rw [e] at q
    exact q
/-! ### need_kinds -/
def sp_need_kinds (K : PySem.W.Frag) : Sp := fun vs H Q E => ∃ (pa ca ba sa : Addr) (zs : List Str) (cx bx sx : List V) (cs : List Ch) (bs : List Br) (ss : List Sh), vs = [.ref pa, .ref ca, .ref ba, .ref sa] ∧
  Sq K H pa (zs.map V.str) ∧ Sq K H ca cx ∧ Sq K H ba bx ∧ Sq K H sa sx ∧ Paired (ChAt K H) cx cs ∧ Paired (BrAt K H) bx bs ∧ Paired (ShAt K H) sx ss ∧
  (1 ≤ zs.length ∧ zs.length ≤ 8) ∧ (∀ z ∈ zs, IsName z) ∧ cs.length ≤ 12 ∧ bs.length ≤ 4 ∧ ss.length ≤ 1000 ∧
  (ss.length ≤ 6 → ∀ H', Same H H' → Q .non H') ∧ (6 < ss.length → ∀ H', Same H H' → Rz K E H' "NoWorld" "found" (.str "ships"))
/-- the classes, isinstance -/
structure Kk (K : PySem.W.Frag) : Prop where
  kc : KinA K (ga K "Channel")
  kb : KinA K (ga K "Breaker")
  ks : KinA K (ga K "Ship")
  cc : PySem.W.kitOne K (.ref (ga K "Channel")) (.ref (ga K "Channel")) = some true
  bb : PySem.W.kitOne K (.ref (ga K "Breaker")) (.ref (ga K "Breaker")) = some true
  ss : PySem.W.kitOne K (.ref (ga K "Ship")) (.ref (ga K "Ship")) = some true
/-- all([p(x) for x in xs]) where p says yes -/
theorem lc_yes {J : It} {S : Hp → Prop} {xs : List V} {g : TG} {te : TE} {vs : List Nat} {σ : L2.St} {H : Hp} {R : VK} (w : Wk J S xs) (sz : xs.length ≤ 100000) (st : ∀ H', Same H H' → S H')
    (hs : ∀ (i : Nat) x H' (Q' : VK), xs[i]? = some x → Same H H' → (∀ H'', Same H' H'' → Q' (.bl true) H'') → g x (wipe σ vs) H' fun σ2 H2 => wipe σ2 vs = wipe σ vs ∧ te σ2 H2 Q')
    (hd : ∀ H', Same H H' → R (.bl true) H') :
    ∀ D, H D = none → ∃ W : Nat → Nat → Hp → Prop, (∃ m, W 0 m (upd H D (.lst []))) ∧ ∀ i m H, W i m H →
      (J.stop i H ∧ mAll K [.ref D] H R) ∨ (J.go i H ∧ ∃ Nx : Hp → Prop, (∀ H', Nx H' → ∃ m', m' < m ∧ W (i + 1) m' H') ∧ ∀ x H', J.yld i H x H' → g x (wipe σ vs) H' fun σ2 H2 => wipe σ2 vs = wipe σ vs ∧ tYes σ2 H2 fun b H3 =>
        if b = true then te σ2 H3 fun y H4 => ∃ acc, H4 D = some (.lst acc) ∧ acc.length < sizeLine ∧ Nx (upd H4 D (.lst (acc ++ [y]))) else Nx H3) :=
  lc_pure (Qd := fun D H => mAll K [.ref D] H R) (tt := tYes) w (fun _ => true) (fun _ => .bl true) sz st (fun i x H' Q' R' hx e q _ => hs i x H' Q' hx e fun H'' e2 => q rfl H'' e2) fun D H' hD e hl => by
    refine ⟨(List.range xs.length).map fun _ => true, .inl (.inl (by rw [hl]; exact congrArg some (congrArg HO.lst (given_bl (b := fun _ => true))))), ?_⟩
    have : ((List.range xs.length).map fun _ => true).all id = true := by simp
    rw [this]
    exact hd H' e
theorem all_yes {i : Nat} {g : TG} {te : TE} {ws : List Nat} {σ : L2.St} {H : Hp} {Q : VK} {p : Addr} {xs : List V} (hσ : σ[i]? = some (some (.ref p))) (hs : Sq K H p xs) (sz : xs.length ≤ 100000)
    (step : ∀ (i : Nat) x H' (Q' : VK), xs[i]? = some x → Same H H' → (∀ H'', Same H' H'' → Q' (.bl true) H'') → g x (wipe σ ws) H' fun σ2 H2 => wipe σ2 ws = wipe σ ws ∧ te σ2 H2 Q') (hd : ∀ H', Same H H' → Q (.bl true) H') :
    tCB (mAll K) (tCons (tLc (mSeq K (mV i)) g tYes te ws) tNil) σ H Q := by
  unfold tCB tCons tLc mSeq mV
  simp only [hσ]
  rcases hs with hs | hs
  · exact ⟨_, _, _, .lst, hs, lc_yes wk_list sz (fun H' e => sameL e hs) step hd⟩
  · exact ⟨_, _, _, .tup, hs, lc_yes wk_tup sz (fun H' e => sameT e hs) step hd⟩
theorem iteF {c : Bool} {a b : Prop} (h : c = false) (hb : b) : if c = true then a else b := by
  subst h
  exact hb
theorem iteT {c : Bool} {a b : Prop} (h : c = true) (ha : a) : if c = true then a else b := by
  subst h
  exact ha
theorem not_all_yes {i : Nat} {g : TG} {te : TE} {ws : List Nat} {σ : L2.St} {H : Hp} {Q : Bool → Hp → Prop} {p : Addr} {xs : List V} (hσ : σ[i]? = some (some (.ref p))) (hs : Sq K H p xs) (sz : xs.length ≤ 100000)
    (step : ∀ (i : Nat) x H' (Q' : VK), xs[i]? = some x → Same H H' → (∀ H'', Same H' H'' → Q' (.bl true) H'') → g x (wipe σ ws) H' fun σ2 H2 => wipe σ2 ws = wipe σ ws ∧ te σ2 H2 Q') (hd : ∀ H', Same H H' → Q false H') :
    tNot (tB (tCB (mAll K) (tCons (tLc (mSeq K (mV i)) g tYes te ws) tNil))) σ H Q :=
  all_yes (Q := fun x H1 => ∃ c, x = .bl c ∧ Q (!c) H1) hσ hs sz step fun H' e => ⟨true, rfl, hd H' e⟩
theorem yes2 {n : Nat} {lo hi : Int} (h1 : lo ≤ (n : Nat)) (h2 : ((n : Nat) : Int) ≤ hi) : (decide (lo ≤ (n : Nat)) && decide (((n : Nat) : Int) ≤ hi)) = true := by
  rw [decide_eq_true h1, decide_eq_true h2]
  rfl
theorem r_need_kinds (Kx : Kk K) (Z : Kf K) {vs : List V} {H : Hp} {Q : VK} {E : XK} (h : sp_need_kinds K vs H Q E) : t_need_kinds K sp_is_name (sp_is_list K) E (endsR Q) (start n_need_kinds vs) H := by
  obtain ⟨pa, ca, ba, sa, zs, cx, bx, sx, cs, bs, ss, rfl, hp, hc, hb, hs, pc, pb, ps, ⟨l1, l2⟩, hz, lc, lb, ls, q, qE⟩ := h
  have c1 := plen pc
  have c2 := plen pb
  have c3 := plen ps
  refine ⟨pa, _, 1, 8, rfl, hp, fun H1 e1 => ⟨true, by rw [List.length_map, yes2 (by omega) (by omega)], iteF rfl ?_⟩⟩
  refine not_all_yes (H := H1) rfl (sameS e1 hp) (by rw [List.length_map]; omega) (fun i x H' Q' hx e q' => ?_) fun H2 e2 => iteF rfl ?_
  · rw [List.getElem?_map] at hx
    obtain ⟨z, hz1, rfl⟩ := Option.map_eq_some_iff.mp hx
    have nm := hz z (List.mem_of_getElem? hz1)
    refine ⟨rfl, z, rfl, nm.size, fun H2 e2 => ?_⟩
    rw [show nameB z = true from nm]
    exact q' H2 e2
  have e2 := e1.trans e2
  refine ⟨ca, _, 0, 12, rfl, sameS e2 hc, fun H3 e3 => ⟨true, by rw [yes2 (by omega) (by omega)], iteF rfl ?_⟩⟩
  have e3 := e2.trans e3
  refine not_all_yes (H := H3) rfl (sameS e3 hc) (by omega) (fun i x H' Q' hx e q' => ?_) fun H4 e4 => iteF rfl ?_
  · obtain ⟨c, _, a, dx, rfl, ha⟩ := pget pc hx
    exact ⟨rfl, _, true, Kx.kc.ty Z.ch (e _ _ (e3 _ _ ha)), Kx.cc, q' H' (Same.refl _)⟩
  have e4 := e3.trans e4
  refine ⟨ba, _, 0, 4, rfl, sameS e4 hb, fun H5 e5 => ⟨true, by rw [yes2 (by omega) (by omega)], iteF rfl ?_⟩⟩
  have e5 := e4.trans e5
  refine not_all_yes (H := H5) rfl (sameS e5 hb) (by omega) (fun i x H' Q' hx e q' => ?_) fun H6 e6 => iteF rfl ?_
  · obtain ⟨c, _, a, dx, rfl, ha⟩ := pget pb hx
    exact ⟨rfl, _, true, Kx.kb.ty Z.br (e _ _ (e5 _ _ ha)), Kx.bb, q' H' (Same.refl _)⟩
  have e6 := e5.trans e6
  by_cases h6 : ss.length ≤ 6
  · refine ⟨sa, _, 0, 6, rfl, sameS e6 hs, fun H7 e7 => ⟨true, by rw [yes2 (by omega) (by omega)], iteF rfl ?_⟩⟩
    have e7 := e6.trans e7
    refine not_all_yes (H := H7) rfl (sameS e7 hs) (by omega) (fun i x H' Q' hx e q' => ?_) fun H8 e8 => iteF rfl ?_
    · obtain ⟨c, _, a, dx, rfl, ha⟩ := pget ps hx
      exact ⟨rfl, _, true, Kx.ks.ty Z.sh (e _ _ (e7 _ _ ha)), Kx.ss, q' H' (Same.refl _)⟩
    exact q h6 H8 (e7.trans e8)
  · refine ⟨sa, _, 0, 6, rfl, sameS e6 hs, fun H7 e7 => ⟨false, by rw [decide_eq_false (show ¬ ((sx.length : Nat) : Int) ≤ 6 by omega), Bool.and_false], iteT rfl ?_⟩⟩
    exact qE (by omega) H7 (e6.trans e7)
end K76
/-! readings: unlike names, known ports -/
namespace K76
open PySem PySem.Spec PyProof.Rows L2 SX
open He (ga ma fAd)
variable {K : PySem.W.Frag}
def sp_need_unlike (K : PySem.W.Frag) : Sp := fun vs H Q E => ∃ (p : Addr) (zs : List Str), vs = [.ref p] ∧ Sq K H p (zs.map V.str) ∧ zs.length ≤ 1000 ∧ (zs.Nodup → ∀ H', Same H H' → Q .non H') ∧
  ∀ l x r, zs = l ++ x :: r → l.Nodup → x ∈ l → ∀ H', Same H H' → Rz K E H' "Doubled" "name" (.str x)
theorem take_snoc {α : Type} {zs : List α} {i : Nat} {z : α} (h : zs[i]? = some z) : zs.take (i + 1) = zs.take i ++ [z] := by
  rw [List.take_succ, h]
  rfl
theorem split_at {α : Type} {zs : List α} {i : Nat} {z : α} (h : zs[i]? = some z) : zs = zs.take i ++ z :: zs.drop (i + 1) := by
  have e := List.take_append_drop i zs
  have e2 : zs.drop i = z :: zs.drop (i + 1) := by
    obtain ⟨hi, hz⟩ := List.getElem?_eq_some_iff.mp h
    rw [← hz]
    exact List.drop_eq_getElem_cons hi
  rw [e2] at e
  exact e.symm
theorem Src.of {H : Hp} {p : Addr} {xs : List V} (h : Sq K H p xs) : ∃ J S, Src K (.ref p) J S xs ∧ S H ∧ ∀ H', Same H H' → S H' := by
  rcases h with h | h
  · exact ⟨_, _, .lst, h, fun H' e => sameL e h⟩
  · exact ⟨_, _, .tup, h, fun H' e => sameT e h⟩
theorem r_need_unlike {vs : List V} {H : Hp} {Q : VK} {E : XK} (h : sp_need_unlike K vs H Q E) : t_need_unlike K E (endsR Q) (start n_need_unlike vs) H := by
  obtain ⟨p, zs, rfl, hs, hl, q, qE⟩ := h
  refine fun d hd => ?_
  have e0 := Same.new (o := .dK []) hd
  obtain ⟨J, S, src, st, keep⟩ := Src.of hs
  refine ⟨J, S, _, src, keep _ e0, ?_⟩
  refine for_wk src.wk (fun i σ H' => (∃ v, σ = [some (.ref p), some (.ref d), v]) ∧ Same H H' ∧ (zs.take i).Nodup ∧ ∃ kvs : List (Key × V), H' d = some (.dK kvs) ∧ kvs.map (·.1) = (zs.take i).map Sum.inr)
    ⟨⟨none, rfl⟩, e0, by simp, [], upd_same, rfl⟩ (fun i σ H' _ P => keep _ P.2.1) ?_ ?_
  · rintro i x _ H' hx ⟨⟨v, rfl⟩, e, nd, kvs, hk, ek⟩
    rw [List.getElem?_map] at hx
    obtain ⟨z, hz, rfl⟩ := Option.map_eq_some_iff.mp hx
    have hin : (valV kvs (Sum.inr z : Key)).isSome = decide (z ∈ zs.take i) := by
      rw [← valV_any, Bool.eq_iff_iff, List.any_eq_true, decide_eq_true_iff]
      have em : (Sum.inr z : Key) ∈ kvs.map (·.1) ↔ z ∈ zs.take i := by
        rw [ek, List.mem_map]
        exact ⟨fun ⟨a, ha, e⟩ => Sum.inr.inj e ▸ ha, fun h => ⟨_, h, rfl⟩⟩
      rw [← em, List.mem_map]
      simp
    refine ⟨d, _, rfl, DGet.k (k := Sum.inr z) hk, _, rfl, ?_⟩
    rw [hin]
    by_cases hm : z ∈ zs.take i
    · refine iteT (decide_eq_true hm) ?_
      exact qE _ z _ (split_at hz) nd hm H' e
    · refine iteF (decide_eq_false hm) ?_
      have hn : valV kvs (Sum.inr z : Key) = none := by
        rw [decide_eq_false hm] at hin
        exact Option.not_isSome_iff_eq_none.mp (by rw [hin]; simp)
      have lk : kvs.length < sizeLine := by
        have := congrArg List.length ek
        rw [List.length_map, List.length_map, List.length_take] at this
        exact len_lt (by omega)
      refine ⟨_, DPut.k (k := Sum.inr z) hk lk, ⟨⟨_, rfl⟩, same_but hd e, ?_, _, upd_same, ?_⟩⟩
      · rw [take_snoc hz]
        exact List.nodup_append.mpr ⟨nd, by simp, fun a ha b hb => by
          simp only [List.mem_cons, List.not_mem_nil, or_false] at hb
          subst hb
          exact fun z' => hm (z' ▸ ha)⟩
      · rw [putK_new _ hn, take_snoc hz, List.map_append, ek, List.map_append]
        rfl
  · rintro σ H' ⟨_, e, nd, _⟩
    rw [List.length_map, List.take_length] at nd
    exact q nd H' e
def sp_need_ports (K : PySem.W.Frag) : Sp := fun vs H Q E => ∃ (p pp : Addr) (zs ps : List Str), vs = [.ref p, .ref pp] ∧ Sq K H p (zs.map V.str) ∧ Sq K H pp (ps.map V.str) ∧ ((∀ z ∈ zs, z ∈ ps) → ∀ H', Same H H' → Q .non H') ∧
  ∀ l x r, zs = l ++ x :: r → (∀ z ∈ l, z ∈ ps) → x ∉ ps → ∀ H', Same H H' → Rz K E H' "NoPort" "found" (.str x)
theorem inV_strs (z : Str) (ps : List Str) : inV (.str z) (ps.map V.str) = decide (z ∈ ps) := by
  unfold inV
  rw [Bool.eq_iff_iff, List.any_eq_true, decide_eq_true_iff]
  constructor
  · rintro ⟨x, hx, h⟩
    obtain ⟨y, hy, rfl⟩ := List.mem_map.mp hx
    have h' : (y == z) = true := h
    rw [← eq_of_beq h']
    exact hy
  · intro h
    exact ⟨.str z, List.mem_map.mpr ⟨z, h, rfl⟩, by show (z == z) = true; simp⟩
theorem flat_strs (ps : List Str) : (ps.map V.str).all flatV = true := by
  rw [List.all_eq_true]
  intro x hx
  obtain ⟨y, _, rfl⟩ := List.mem_map.mp hx
  rfl
theorem r_need_ports {vs : List V} {H : Hp} {Q : VK} {E : XK} (h : sp_need_ports K vs H Q E) : t_need_ports K E (endsR Q) (start n_need_ports vs) H := by
  obtain ⟨p, pp, zs, ps, rfl, hs, hp, q, qE⟩ := h
  obtain ⟨J, S, src, st, keep⟩ := Src.of hs
  refine ⟨J, S, _, src, st, ?_⟩
  refine for_wk src.wk (fun i σ H' => (∃ v, σ = [some (.ref p), some (.ref pp), v]) ∧ Same H H' ∧ ∀ z ∈ zs.take i, z ∈ ps) ⟨⟨none, rfl⟩, Same.refl H, by simp⟩ (fun i σ H' _ P => keep _ P.2.1) ?_ ?_
  · rintro i x _ H' hx ⟨⟨v, rfl⟩, e, hall⟩
    rw [List.getElem?_map] at hx
    obtain ⟨z, hz, rfl⟩ := Option.map_eq_some_iff.mp hx
    refine .inl ⟨_, sameS e hp, rfl, flat_strs ps, _, rfl, ?_⟩
    rw [inV_strs]
    by_cases hm : z ∈ ps
    · refine iteF (by rw [decide_eq_true hm]; rfl) ⟨⟨_, rfl⟩, e, fun y hy => ?_⟩
      rw [take_snoc hz] at hy
      rcases List.mem_append.mp hy with hy | hy
      · exact hall y hy
      · simp only [List.mem_cons, List.not_mem_nil, or_false] at hy
        subst hy
        exact hm
    · refine iteT (by rw [decide_eq_false hm]; rfl) ?_
      exact qE _ z _ (split_at hz) hall hm H' e
  · rintro σ H' ⟨_, e, hall⟩
    rw [List.length_map, List.take_length] at hall
    exact q hall H' e
end K76
/-! readings: the world -/
namespace K76
open PySem PySem.Spec PyProof.Rows L2 SX
open He (ga ma fAd)
variable {K : PySem.W.Frag}
structure Wo where
  beg : Int
  ports : List Str
  chs : List Ch
  brs : List Br
  shs : List Sh
def Wo.vnames (w : Wo) : List Str := w.brs.map (·.name) ++ w.shs.map (·.name)
/-- all but the ships -/
structure Wo.Pre (w : Wo) : Prop where
  beg : 0 ≤ w.beg ∧ w.beg ≤ 1000000
  np : 1 ≤ w.ports.length ∧ w.ports.length ≤ 8
  ports : ∀ z ∈ w.ports, IsName z
  pnd : w.ports.Nodup
  nc : w.chs.length ≤ 12
  cnd : (w.chs.map (·.name)).Nodup
  cp : ∀ c ∈ w.chs, c.one ∈ w.ports ∧ c.other ∈ w.ports
  nb : w.brs.length ≤ 4
  bp : ∀ b ∈ w.brs, b.port ∈ w.ports
structure Wo.Ok (w : Wo) : Prop where
  ns : w.shs.length ≤ 6
  vnd : w.vnames.Nodup
  sp : ∀ s ∈ w.shs, s.port ∈ w.ports ∧ s.goal ∈ w.ports
def WoAt (K : PySem.W.Frag) (H : Hp) (x : V) (w : Wo) (cx bx sx : List V) : Prop := ∃ a dx pl cl bl sl, x = .ref a ∧
  H a = some (.ins (ga K "World") dx [("beginning", .int w.beg), ("all_ports", .ref pl), ("all_channels", .ref cl), ("all_breakers", .ref bl), ("all_ships", .ref sl)]) ∧
  H pl = some (.lst (w.ports.map V.str)) ∧ H cl = some (.lst cx) ∧ H bl = some (.lst bx) ∧ H sl = some (.lst sx) ∧ Paired (ChAt K H) cx w.chs ∧ Paired (BrAt K H) bx w.brs ∧ Paired (ShAt K H) sx w.shs
theorem WoAt.mono {H H' : Hp} {x : V} {w : Wo} {cx bx sx : List V} (h : WoAt K H x w cx bx sx) (e : Same H H') : WoAt K H' x w cx bx sx := by
  obtain ⟨a, dx, pl, cl, bl, sl, ex, h1, h2, h3, h4, h5, h6, h7, h8⟩ := h
  exact ⟨a, dx, pl, cl, bl, sl, ex, e _ _ h1, e _ _ h2, e _ _ h3, e _ _ h4, e _ _ h5, pimp (fun _ _ h => ChAt.mono h e) h6, pimp (fun _ _ h => BrAt.mono h e) h7, pimp (fun _ _ h => ShAt.mono h e) h8⟩
/-- none of the instance's fields is l -/
def Apart (H : Hp) (a l : Addr) : Prop := ∀ (C dx : Addr) (fs : List (Str × V)), H a = some (.ins C dx fs) → ∀ v ∈ fs.map (·.2), v ≠ .ref l
def sp_World___init__ (K : PySem.W.Frag) : Sp := fun vs H Q E => ∃ (a dx pa ca ba sa : Addr) (w : Wo) (cx bx sx : List V), vs = [.ref a, .int w.beg, .ref pa, .ref ca, .ref ba, .ref sa] ∧ H a = some (.ins (ga K "World") dx []) ∧
  Sq K H pa (w.ports.map V.str) ∧ Sq K H ca cx ∧ Sq K H ba bx ∧ Sq K H sa sx ∧ Paired (ChAt K H) cx w.chs ∧ Paired (BrAt K H) bx w.brs ∧ Paired (ShAt K H) sx w.shs ∧ w.Pre ∧ w.shs.length ≤ 900 ∧
  (w.Ok → ∀ H', SameB a H H' → WoAt K H' (.ref a) w cx bx sx → (∀ l, H l ≠ none → Apart H' a l) → Q .non H') ∧
  (6 < w.shs.length → ∀ H', Same H H' → Rz K E H' "NoWorld" "found" (.str "ships")) ∧
  (w.shs.length ≤ 6 → ∀ l x r, w.vnames = l ++ x :: r → l.Nodup → x ∈ l → ∀ H', Same H H' → Rz K E H' "Doubled" "name" (.str x)) ∧
  (w.shs.length ≤ 6 → w.vnames.Nodup → ∀ l s r, w.shs = l ++ s :: r → (∀ t ∈ l, t.port ∈ w.ports ∧ t.goal ∈ w.ports) →
    (s.port ∉ w.ports → ∀ H', Same H H' → Rz K E H' "NoPort" "found" (.str s.port)) ∧ (s.port ∈ w.ports → s.goal ∉ w.ports → ∀ H', Same H H' → Rz K E H' "NoPort" "found" (.str s.goal)))
theorem sqB {a p C dx : Addr} {H H' : Hp} {fs : List (Str × V)} {xs : List V} (e : SameB a H H') (ha : H a = some (.ins C dx fs)) (h : Sq K H p xs) : Sq K H' p xs := by
  have ne : ∀ {o : HO}, (∀ C dx fs, o ≠ .ins C dx fs) → H p = some o → p ≠ a := fun hn ho z => by
    subst z
    rw [ha] at ho
    exact hn _ _ _ (Option.some.inj ho).symm
  rcases h with ((h | ⟨o, h⟩) | h) | ((h | ⟨o, h⟩) | h)
  · exact .inl (.inl (.inl (e _ _ (ne (fun _ _ _ z => by cases z) h) h)))
  · exact .inl (.inl (.inr ⟨o, e _ _ (ne (fun _ _ _ z => by cases z) h) h⟩))
  · exact .inl (.inr h)
  · exact .inr (.inl (.inl (e _ _ (ne (fun _ _ _ z => by cases z) h) h)))
  · exact .inr (.inl (.inr ⟨o, e _ _ (ne (fun _ _ _ z => by cases z) h) h⟩))
  · exact .inr (.inr h)
theorem insB {a b C C' dx dx' : Addr} {H H' : Hp} {fs : List (Str × V)} (hf : fs ≠ []) (e : SameB a H H') (ha : H a = some (.ins C dx [])) (h : H b = some (.ins C' dx' fs)) : H' b = some (.ins C' dx' fs) := e _ _ (fun z => by
  subst z
  rw [ha] at h
  cases h
  exact hf rfl) h
theorem chB {a C dx : Addr} {H H' : Hp} {x : V} {c : Ch} (e : SameB a H H') (ha : H a = some (.ins C dx [])) (h : ChAt K H x c) : ChAt K H' x c := let ⟨b, dy, ex, hb⟩ := h; ⟨b, dy, ex, insB (by unfold Ch.fs; simp) e ha hb⟩
theorem brB {a C dx : Addr} {H H' : Hp} {x : V} {c : Br} (e : SameB a H H') (ha : H a = some (.ins C dx [])) (h : BrAt K H x c) : BrAt K H' x c := let ⟨b, dy, ex, hb⟩ := h; ⟨b, dy, ex, insB (by unfold Br.fs; simp) e ha hb⟩
theorem shB {a C dx : Addr} {H H' : Hp} {x : V} {c : Sh} (e : SameB a H H') (ha : H a = some (.ins C dx [])) (h : ShAt K H x c) : ShAt K H' x c := let ⟨b, dy, ex, hb⟩ := h; ⟨b, dy, ex, insB (by unfold Sh.fs; simp) e ha hb⟩
/-- [x.f for x in xs] -/
theorem lc_fld {α : Type} {J : It} {S : Hp → Prop} {xs : List V} {cs : List α} {F : Hp → V → α → Prop} {g : TG} {te : TE} {vs : List Nat} {σ : L2.St} {H : Hp} {Qd : Addr → Hp → Prop} (n : α → Str) (w : Wk J S xs) (sz : xs.length ≤ 100000) (st : ∀ H', Same H H' → S H') (pr : Paired (F H) xs cs)
    (hs : ∀ x c H' (Q' : VK), F H x c → Same H H' → Q' (.str (n c)) H' → g x (wipe σ vs) H' fun σ2 H2 => wipe σ2 vs = wipe σ vs ∧ te σ2 H2 Q')
    (hd : ∀ D H', H D = none → Same H H' → H' D = some (.lst ((cs.map n).map V.str)) → Qd D H') :
    ∀ D, H D = none → ∃ W : Nat → Nat → Hp → Prop, (∃ m, W 0 m (upd H D (.lst []))) ∧ ∀ i m H, W i m H →
      (J.stop i H ∧ Qd D H) ∨ (J.go i H ∧ ∃ Nx : Hp → Prop, (∀ H', Nx H' → ∃ m', m' < m ∧ W (i + 1) m' H') ∧ ∀ x H', J.yld i H x H' → g x (wipe σ vs) H' fun σ2 H2 => wipe σ2 vs = wipe σ vs ∧ tYes σ2 H2 fun b H3 =>
        if b = true then te σ2 H3 fun y H4 => ∃ acc, H4 D = some (.lst acc) ∧ acc.length < sizeLine ∧ Nx (upd H4 D (.lst (acc ++ [y]))) else Nx H3) :=
  lc_pure (tt := tYes) w (fun _ => true) (fun i => ((cs[i]?).map fun c => V.str (n c)).getD .non) sz st (fun i x H' Q' R' hx e q _ => by
    obtain ⟨c, hc, f⟩ := pget pr hx
    have q1 := q rfl H' (Same.refl _)
    rw [hc] at q1
    exact hs x c H' Q' f e q1) fun D H' hD e hl => by
    refine hd D H' hD e ?_
    rw [hl, given_all, upto_map (xs := cs) (g := fun c => V.str (n c)) (plen pr) fun i c hc => by rw [hc]; rfl, List.map_map]
    rfl
theorem nodup_no {α : Type} {zs l r : List α} {x : α} (h : zs.Nodup) (e : zs = l ++ x :: r) (hx : x ∈ l) : False := by
  rw [e] at h
  exact (List.nodup_append.mp h).2.2 x hx x (by simp) rfl
theorem r_World___init__ (Kx : Kk K) (Z : Kf K) {vs : List V} {H : Hp} {Q : VK} {E : XK} (h : sp_World___init__ K vs H Q E) : t_World___init__ K sp_is_within (sp_need_kinds K) (sp_need_unlike K) (sp_need_ports K) E (endsR Q) (start n_World___init__ vs) H := by
  obtain ⟨a, dx, pa, ca, ba, sa, w, cx, bx, sx, rfl, ha, hp, hc, hb, hs, pc, pb, ps, pre, ln, q, q1, q2, q3⟩ := h
  have c1 := plen pc
  have c2 := plen pb
  have c3 := plen ps
  have nc := pre.nc
  have nb := pre.nb
  refine ⟨w.beg, 0, 1000000, rfl, true, by rw [decide_eq_true pre.beg.1, decide_eq_true pre.beg.2]; rfl, iteF rfl ?_⟩
  refine ⟨pa, ca, ba, sa, w.ports, cx, bx, sx, w.chs, w.brs, w.shs, rfl, hp, hc, hb, hs, pc, pb, ps, pre.np, pre.ports, pre.nc, pre.nb, by omega, fun h6 H1 e1 => ?_, q1⟩
  refine ⟨pa, w.ports, rfl, sameS e1 hp, by have := pre.np; omega, fun _ H2 e2 => ?_, fun l x r e nd hx => (nodup_no pre.pnd e hx).elim⟩
  have e2 := e1.trans e2
  obtain ⟨J, S, src, st, keep⟩ := Src.of (sameS e2 hc)
  refine ⟨J, S, _, src, st, ?_⟩
  refine lc_fld (F := ChAt K) (·.name) src.wk (by omega) keep (pimp (fun _ _ h => ChAt.mono h e2) pc) (fun x c H' Q' hx e q' => ⟨rfl, _, (hx.mono e).fld Z, q'⟩) fun D H3 _ e3 hD => ?_
  have e3 := e2.trans e3
  refine ⟨D, w.chs.map (·.name), rfl, .inl (.inl (.inl hD)), by rw [List.length_map]; omega, fun _ H4 e4 => ?_, fun l x r e nd hx => (nodup_no pre.cnd e hx).elim⟩
  have e4 := e3.trans e4
  refine ⟨bx, sameS e4 hb, fun l1 hl1 => ⟨sx, sameS (Same.new hl1) (sameS e4 hs), fun l2 hl2 => .inr ⟨bx, sx, Same.new hl2 _ _ upd_same, upd_same, len_ok (by omega), fun l3 hl3 => ?_⟩⟩⟩
  have e5 := ((e4.trans (Same.new (o := .lst bx) hl1)).trans (Same.new (o := .lst sx) hl2)).trans (Same.new (o := .lst (bx ++ sx)) hl3)
  refine ⟨_, _, bx ++ sx, .lst, .inl (.inl upd_same), ?_⟩
  refine lc_fld (α := Br ⊕ Sh) (F := fun H x (c : Br ⊕ Sh) => match c with | .inl b => BrAt K H x b | .inr s => ShAt K H x s) (cs := w.brs.map Sum.inl ++ w.shs.map Sum.inr) (fun (c : Br ⊕ Sh) => match c with | .inl b => b.name | .inr s => s.name) wk_list (by rw [List.length_append]; omega)
    (fun H' e => sameL e (.inl (.inl upd_same))) (papp ?_ ?_) (fun x c H' Q' hx e q' => ?_) fun D2 H6 _ e6 hD2 => ?_
  · refine pix (by rw [List.length_map]; exact c2) fun i x y hx hy => ?_
    rw [List.getElem?_map] at hy
    obtain ⟨b, hb', rfl⟩ := Option.map_eq_some_iff.mp hy
    obtain ⟨b2, hb2, hh⟩ := pget pb hx
    rw [hb'] at hb2
    cases hb2
    exact hh.mono e5
  · refine pix (by rw [List.length_map]; exact c3) fun i x y hx hy => ?_
    rw [List.getElem?_map] at hy
    obtain ⟨b, hb', rfl⟩ := Option.map_eq_some_iff.mp hy
    obtain ⟨b2, hb2, hh⟩ := pget ps hx
    rw [hb'] at hb2
    cases hb2
    exact hh.mono e5
  · cases c with
    | inl b => exact ⟨rfl, _, (BrAt.mono hx e).fld Z, q'⟩
    | inr s => exact ⟨rfl, _, (ShAt.mono hx e).fld Z, q'⟩
  have e6 := e5.trans e6
  have en : (w.brs.map (Sum.inl (β := Sh)) ++ w.shs.map Sum.inr).map (fun (c : Br ⊕ Sh) => match c with | .inl b => b.name | .inr s => s.name) = w.vnames := by
    rw [List.map_append, List.map_map, List.map_map]
    rfl
  refine ⟨D2, w.vnames, rfl, .inl (.inl (.inl (by rw [hD2, en]))), by unfold Wo.vnames; rw [List.length_append, List.length_map, List.length_map]; omega, fun vnd H7 e7 => ?_, fun l x r e nd hx H' e7 => q2 h6 l x r e nd hx H' (e6.trans e7)⟩
  have e7 := e6.trans e7
  obtain ⟨J7, S7, src7, st7, keep7⟩ := Src.of (sameS e7 hc)
  refine ⟨J7, S7, _, src7, st7, ?_⟩
  refine for_each src7.wk (fun σ => ∃ v, σ = [some (.ref a), some (.int w.beg), some (.ref pa), some (.ref ca), some (.ref ba), some (.ref sa), v, none, none, none]) ⟨none, rfl⟩ keep7 ?_ ?_
  · rintro i x _ H' hx ⟨v, rfl⟩ e0
    obtain ⟨c, hc', hh⟩ := pget pc hx
    have e := e7.trans e0
    have hcp := pre.cp c (List.mem_of_getElem? hc')
    refine ⟨_, (hh.mono e).fld Z, _, (hh.mono e).fld Z, sz rfl, fun p hp' => ?_⟩
    have e2 := Same.new (o := .lst [.str c.one, .str c.other]) hp'
    refine ⟨p, pa, [c.one, c.other], w.ports, rfl, .inl (.inl (.inl upd_same)), sameS (e.trans e2) hp, fun _ H2 e3 => ⟨⟨_, rfl⟩, (e0.trans e2).trans e3⟩, fun l y r ey hl hy => ?_⟩
    have : y ∈ [c.one, c.other] := by rw [ey]; simp
    simp only [List.mem_cons, List.not_mem_nil, or_false] at this
    rcases this with rfl | rfl
    · exact absurd hcp.1 hy
    · exact absurd hcp.2 hy
  rintro _ H8 ⟨v, rfl⟩ e8
  have e8 := e7.trans e8
  obtain ⟨J9, S9, src9, st9, keep9⟩ := Src.of (sameS e8 hb)
  refine ⟨J9, S9, _, src9, st9, ?_⟩
  refine lc_fld (F := BrAt K) (·.port) src9.wk (by omega) keep9 (pimp (fun _ _ h => BrAt.mono h e8) pb) (fun x c H' Q' hx e q' => ⟨rfl, _, (hx.mono e).fld Z, q'⟩) fun D9 H9 _ e9 hD9 => ?_
  have e9 := e8.trans e9
  refine ⟨D9, pa, w.brs.map (·.port), w.ports, rfl, .inl (.inl (.inl hD9)), sameS e9 hp, fun _ H10 e10 => ?_, fun l y r ey hl hy => ?_⟩
  · have e10 := e9.trans e10
    obtain ⟨J10, S10, src10, st10, keep10⟩ := Src.of (sameS e10 hs)
    refine ⟨J10, S10, _, src10, st10, ?_⟩
    refine for_wk src10.wk (fun i σ H' => (∃ u, σ = [some (.ref a), some (.int w.beg), some (.ref pa), some (.ref ca), some (.ref ba), some (.ref sa), v, u, none, none]) ∧ Same H10 H' ∧ ∀ t ∈ w.shs.take i, t.port ∈ w.ports ∧ t.goal ∈ w.ports) ⟨⟨none, rfl⟩, Same.refl _, by simp⟩ (fun i σ H' _ P => keep10 _ P.2.1) ?_ ?_
    · rintro i x _ H' hx ⟨⟨v, rfl⟩, e0, hall⟩
      obtain ⟨c, hc', hh⟩ := pget ps hx
      have e := e10.trans e0
      have sp := q3 h6 vnd _ c _ (split_at hc') hall
      refine ⟨_, (hh.mono e).fld Z, _, (hh.mono e).fld Z, sz rfl, fun p hp' => ?_⟩
      have e2 := Same.new (o := .lst [.str c.port, .str c.goal]) hp'
      refine ⟨p, pa, [c.port, c.goal], w.ports, rfl, .inl (.inl (.inl upd_same)), sameS (e.trans e2) hp, fun hy H2 e3 => ⟨⟨_, rfl⟩, (e0.trans e2).trans e3, fun t ht => ?_⟩, fun l y r ey hl hy H2 e3 => ?_⟩
      · rw [take_snoc hc'] at ht
        rcases List.mem_append.mp ht with ht | ht
        · exact hall t ht
        · simp only [List.mem_cons, List.not_mem_nil, or_false] at ht
          subst ht
          exact ⟨hy _ (by simp), hy _ (by simp)⟩
      · cases l with
        | nil =>
          cases ey
          exact sp.1 hy H2 ((e.trans e2).trans e3)
        | cons z l =>
          cases l with
          | nil =>
            cases ey
            exact sp.2 (hl _ (by simp)) hy H2 ((e.trans e2).trans e3)
          | cons z l =>
            have := congrArg List.length ey
            simp at this
    · rintro _ H11 ⟨⟨v, rfl⟩, e11, hall⟩
      have hall : ∀ t ∈ w.shs, t.port ∈ w.ports ∧ t.goal ∈ w.ports := by
        rw [c3, List.take_length] at hall
        exact hall
      have e11 := e10.trans e11
      have N := fun (f : Str) (hf : f ∈ (["beginning", "all_ports", "all_channels", "all_breakers", "all_ships"] : List Str)) => Z.woN f hf
      refine ⟨_, dx, [], e11 _ _ ha, Z.wo, N _ (by simp), bl rfl, ?_⟩
      have b1 : SameB a H (upd H11 a (.ins (ga K "World") dx (putF "beginning" (.int w.beg) []))) := (SameB.of e11).put
      refine ⟨_, sqB b1 ha hp, fun l1 hl1 => ?_⟩
      have n1 : l1 ≠ a := fun z => by rw [z, upd_same] at hl1; cases hl1
      refine ⟨_, dx, _, Same.new hl1 _ _ upd_same, Z.wo, N _ (by simp), bl rfl, ?_⟩
      have b2 := (SameB.put (o := .ins (ga K "World") dx (putF "all_ports" (.ref l1) (putF "beginning" (.int w.beg) []))) fun b u nb x => Same.new (o := .lst (w.ports.map V.str)) hl1 _ _ (b1 b u nb x))
      refine ⟨_, sqB b2 ha hc, fun l2 hl2 => ?_⟩
      have n2 : l2 ≠ a := fun z => by rw [z, upd_same] at hl2; cases hl2
      refine ⟨_, dx, _, Same.new hl2 _ _ upd_same, Z.wo, N _ (by simp), bl rfl, ?_⟩
      have b3 := (SameB.put (o := .ins (ga K "World") dx (putF "all_channels" (.ref l2) (putF "all_ports" (.ref l1) (putF "beginning" (.int w.beg) [])))) fun b u nb x => Same.new (o := .lst cx) hl2 _ _ (b2 b u nb x))
      refine ⟨_, sqB b3 ha hb, fun l3 hl3 => ?_⟩
      have n3 : l3 ≠ a := fun z => by rw [z, upd_same] at hl3; cases hl3
      refine ⟨_, dx, _, Same.new hl3 _ _ upd_same, Z.wo, N _ (by simp), bl rfl, ?_⟩
      have b4 := (SameB.put (o := .ins (ga K "World") dx (putF "all_breakers" (.ref l3) (putF "all_channels" (.ref l2) (putF "all_ports" (.ref l1) (putF "beginning" (.int w.beg) []))))) fun b u nb x => Same.new (o := .lst bx) hl3 _ _ (b3 b u nb x))
      refine ⟨_, sqB b4 ha hs, fun l4 hl4 => ?_⟩
      have n4 : l4 ≠ a := fun z => by rw [z, upd_same] at hl4; cases hl4
      refine ⟨_, dx, _, Same.new hl4 _ _ upd_same, Z.wo, N _ (by simp), bl rfl, ?_⟩
      have b5 := (SameB.put (o := .ins (ga K "World") dx (putF "all_ships" (.ref l4) (putF "all_breakers" (.ref l3) (putF "all_channels" (.ref l2) (putF "all_ports" (.ref l1) (putF "beginning" (.int w.beg) [])))))) fun b u nb x => Same.new (o := .lst sx) hl4 _ _ (b4 b u nb x))
      refine q ⟨h6, vnd, hall⟩ _ b5 ⟨a, dx, l1, l2, l3, l4, rfl, by rw [upd_same]; rfl, ?_, ?_, ?_, ?_, pimp (fun _ _ h => chB b5 ha h) pc, pimp (fun _ _ h => brB b5 ha h) pb, pimp (fun _ _ h => shB b5 ha h) ps⟩ ?_
      · rw [upd_ne n1]
        refine Same.new hl4 _ _ ?_
        rw [upd_ne n1]
        refine Same.new hl3 _ _ ?_
        rw [upd_ne n1]
        refine Same.new hl2 _ _ ?_
        rw [upd_ne n1, upd_same]
      · rw [upd_ne n2]
        refine Same.new hl4 _ _ ?_
        rw [upd_ne n2]
        refine Same.new hl3 _ _ ?_
        rw [upd_ne n2, upd_same]
      · rw [upd_ne n3]
        refine Same.new hl4 _ _ ?_
        rw [upd_ne n3, upd_same]
      · rw [upd_ne n4, upd_same]
      · intro l hl C dx' fs hfs v hv e
        rw [upd_same] at hfs
        cases hfs
        have no : ∀ {X : Hp} {m : Addr}, SameB a H X → X m = none → m ≠ a → m ≠ l := fun {X m} e2 hn hne z => by
          cases hh : H l with
          | none => exact hl hh
          | some u =>
            subst z
            rw [e2 _ _ hne hh] at hn
            cases hn
        have hv' : v ∈ [V.int w.beg, .ref l1, .ref l2, .ref l3, .ref l4] := hv
        simp only [List.mem_cons, List.not_mem_nil, or_false] at hv'
        rcases hv' with rfl | rfl | rfl | rfl | rfl
        · cases e
        · cases e
          exact no b1 hl1 n1 rfl
        · cases e
          exact no b2 hl2 n2 rfl
        · cases e
          exact no b3 hl3 n3 rfl
        · cases e
          exact no b4 hl4 n4 rfl
  · have : y ∈ w.brs.map (·.port) := by rw [ey]; simp
    obtain ⟨b, hb', rfl⟩ := List.mem_map.mp this
    exact absurd (pre.bp b hb') hy
end K76
/-! readings: the world's methods, worlds made anew -/
namespace K76
open PySem PySem.Spec PyProof.Rows L2 SX
open He (ga ma fAd)
variable {K : PySem.W.Frag}
def sp_begin (K : PySem.W.Frag) : Sp := fun vs H Q _ => ∃ x w cx bx sx, vs = [x] ∧ WoAt K H x w cx bx sx ∧ Q (.int w.beg) H
def sp_ports (K : PySem.W.Frag) : Sp := fun vs H Q _ => ∃ x w cx bx sx, vs = [x] ∧ WoAt K H x w cx bx sx ∧ ∀ l, H l = none → Q (.ref l) (upd H l (.lst (w.ports.map V.str)))
def sp_channels (K : PySem.W.Frag) : Sp := fun vs H Q _ => ∃ x w cx bx sx, vs = [x] ∧ WoAt K H x w cx bx sx ∧ ∀ l, H l = none → Q (.ref l) (upd H l (.lst cx))
def sp_breakers (K : PySem.W.Frag) : Sp := fun vs H Q _ => ∃ x w cx bx sx, vs = [x] ∧ WoAt K H x w cx bx sx ∧ ∀ l, H l = none → Q (.ref l) (upd H l (.lst bx))
def sp_ships (K : PySem.W.Frag) : Sp := fun vs H Q _ => ∃ x w cx bx sx, vs = [x] ∧ WoAt K H x w cx bx sx ∧ ∀ l, H l = none → Q (.ref l) (upd H l (.lst sx))
def sp_vessels (K : PySem.W.Frag) : Sp := fun vs H Q _ => ∃ x w cx bx sx, vs = [x] ∧ WoAt K H x w cx bx sx ∧ bx.length + sx.length ≤ 1000 ∧ ∀ l, H l = none → Q (.ref l) (upd H l (.lst (bx ++ sx)))
theorem fldW (Z : Kf K) {H : Hp} {a dx : Addr} {fs : List (Str × V)} {f : Str} {v : V} (h : H a = some (.ins (ga K "World") dx fs)) (hf : f ∈ (["beginning", "all_ports", "all_channels", "all_breakers", "all_ships"] : List Str) := by simp) (hv : fs.lookup f = some v := by rfl) : Fld K H (.ref a) f v := ⟨a, _, dx, _, rfl, h, Z.wo, Z.woN f hf, hv⟩
theorem r_begin (Z : Kf K) {vs : List V} {H : Hp} {Q : VK} {E : XK} (h : sp_begin K vs H Q E) : t_World_begin_hour K E (endsR Q) (start n_World_begin_hour vs) H := by
  obtain ⟨x, w, cx, bx, sx, rfl, ⟨a, dx, pl, cl, bl, sl, rfl, h1, h2, h3, h4, h5, h6, h7, h8⟩, q⟩ := h
  exact ⟨.int w.beg, fldW Z h1, q⟩
theorem r_ports (Z : Kf K) {vs : List V} {H : Hp} {Q : VK} {E : XK} (h : sp_ports K vs H Q E) : t_World_ports K E (endsR Q) (start n_World_ports vs) H := by
  obtain ⟨x, w, cx, bx, sx, rfl, ⟨a, dx, pl, cl, bl, sl, rfl, h1, h2, h3, h4, h5, h6, h7, h8⟩, q⟩ := h
  exact ⟨.ref pl, fldW Z h1, _, .inl (.inl (.inl h2)), q⟩
theorem r_channels (Z : Kf K) {vs : List V} {H : Hp} {Q : VK} {E : XK} (h : sp_channels K vs H Q E) : t_World_channels K E (endsR Q) (start n_World_channels vs) H := by
  obtain ⟨x, w, cx, bx, sx, rfl, ⟨a, dx, pl, cl, bl, sl, rfl, h1, h2, h3, h4, h5, h6, h7, h8⟩, q⟩ := h
  exact ⟨.ref cl, fldW Z h1, _, .inl (.inl (.inl h3)), q⟩
theorem r_breakers (Z : Kf K) {vs : List V} {H : Hp} {Q : VK} {E : XK} (h : sp_breakers K vs H Q E) : t_World_breakers K E (endsR Q) (start n_World_breakers vs) H := by
  obtain ⟨x, w, cx, bx, sx, rfl, ⟨a, dx, pl, cl, bl, sl, rfl, h1, h2, h3, h4, h5, h6, h7, h8⟩, q⟩ := h
  exact ⟨.ref bl, fldW Z h1, _, .inl (.inl (.inl h4)), q⟩
theorem r_ships (Z : Kf K) {vs : List V} {H : Hp} {Q : VK} {E : XK} (h : sp_ships K vs H Q E) : t_World_ships K E (endsR Q) (start n_World_ships vs) H := by
  obtain ⟨x, w, cx, bx, sx, rfl, ⟨a, dx, pl, cl, bl, sl, rfl, h1, h2, h3, h4, h5, h6, h7, h8⟩, q⟩ := h
  exact ⟨.ref sl, fldW Z h1, _, .inl (.inl (.inl h5)), q⟩
theorem r_vessels (Z : Kf K) {vs : List V} {H : Hp} {Q : VK} {E : XK} (h : sp_vessels K vs H Q E) : t_World_vessels K E (endsR Q) (start n_World_vessels vs) H := by
  obtain ⟨x, w, cx, bx, sx, rfl, ⟨a, dx, pl, cl, bl, sl, rfl, h1, h2, h3, h4, h5, h6, h7, h8⟩, hl, q⟩ := h
  exact ⟨.ref bl, fldW Z h1, .ref sl, fldW Z h1, .inr ⟨bx, sx, h4, h5, len_ok (by omega), q⟩⟩
def okW (s : PySem.W.Frag → Sp) (K : PySem.W.Frag) (C : Addr) (sp : Sp) : Prop := C = ga K "World" ∧ sp = s K
/-- the vessels, with their names -/
def VsAt (K : PySem.W.Frag) (H : Hp) (x : V) (n : Str) : Prop := Fld K H x "name" (.str n)
theorem vsAt (Z : Kf K) {H : Hp} {w : Wo} {bx sx : List V} (h7 : Paired (BrAt K H) bx w.brs) (h8 : Paired (ShAt K H) sx w.shs) : Paired (VsAt K H) (bx ++ sx) w.vnames := by
  refine papp (pix (by rw [List.length_map]; exact plen h7) fun i x y hx hy => ?_) (pix (by rw [List.length_map]; exact plen h8) fun i x y hx hy => ?_)
  · obtain ⟨b, hb, hh⟩ := pget h7 hx
    rw [List.getElem?_map, hb] at hy
    cases hy
    exact hh.fld Z
  · obtain ⟨b, hb, hh⟩ := pget h8 hx
    rw [List.getElem?_map, hb] at hy
    cases hy
    exact hh.fld Z
theorem fld_mono {H H' : Hp} {x : V} {f : Str} {v : V} (h : Fld K H x f v) (e : Same H H') : Fld K H' x f v := let ⟨a, C, dx, fs, ex, ha, r⟩ := h; ⟨a, C, dx, fs, ex, e _ _ ha, r⟩
def sp_vessel (K : PySem.W.Frag) : Sp := fun vs H Q _ => ∃ x w cx bx sx, ∃ (n : Str) (i : Nat) (y : V), vs = [x, .str n] ∧ WoAt K H x w cx bx sx ∧ bx.length + sx.length ≤ 1000 ∧ (bx ++ sx)[i]? = some y ∧ w.vnames[i]? = some n ∧ (∀ (j : Nat) m, j < i → w.vnames[j]? = some m → m ≠ n) ∧ ∀ H', Same H H' → Q y H'
theorem r_vessel (Z : Kf K) {vs : List V} {H : Hp} {Q : VK} {E : XK} (h : sp_vessel K vs H Q E) : t_World_vessel K (okW sp_vessels K) E (endsR Q) (start n_World_vessel vs) H := by
  obtain ⟨x, w, cx, bx, sx, n, i, y, rfl, hW, hl, hy, hn, hne, q⟩ := h
  obtain ⟨a, dx, pl, cl, bl, sl, rfl, h1, h2, h3, h4, h5, h6, h7, h8⟩ := id hW
  refine ⟨a, _, dx, _, _, rfl, h1, rfl, ⟨rfl, rfl⟩, _, w, cx, bx, sx, rfl, hW, hl, fun l hl' => ?_⟩
  have e0 := Same.new (o := .lst (bx ++ sx)) hl'
  have pv := vsAt Z h7 h8
  refine ⟨_, _, _, .lst, .inl (.inl upd_same), ?_⟩
  refine for_wk wk_list (fun j σ H' => (∃ v, σ = [some (.ref a), some (.str n), v]) ∧ Same (upd H l (.lst (bx ++ sx))) H' ∧ j ≤ i) ⟨⟨none, rfl⟩, Same.refl _, Nat.zero_le _⟩ (fun j σ H' _ P => sameL P.2.1 (.inl (.inl upd_same))) ?_ ?_
  · rintro j z _ H' hz ⟨⟨v, rfl⟩, e, hj⟩
    obtain ⟨m, hm, f⟩ := pget pv hz
    have e1 := e0.trans e
    refine ⟨.str m, fld_mono f e1, _, rfl, ?_⟩
    by_cases hij : j = i
    · subst hij
      rw [hm] at hn
      cases hn
      rw [hz] at hy
      cases hy
      exact iteT (by simp) (q H' e1)
    · have lt : j < i := by omega
      refine iteF (by simp [hne j m lt hm]) ⟨⟨_, rfl⟩, e, lt⟩
  · rintro σ H' ⟨_, _, hj⟩
    have := (List.getElem?_eq_some_iff.mp hy).1
    omega
/-! ### told -/
def RowAt (K : PySem.W.Frag) (H : Hp) (x : V) (row : List V) : Prop := ∃ a, x = .ref a ∧ SqT K H a row
theorem sqtN {X : Addr → Prop} (hX : ∀ b, ¬ X b) {H H' : Hp} {a : Addr} {xs : List V} (e : SameN X H H') (h : SqT K H a xs) : SqT K H' a xs := by
  rcases h with (h | ⟨o, h⟩) | h
  · exact .inl (.inl (e _ _ (hX _) (fun _ z => by cases z) h))
  · exact .inl (.inr ⟨o, e _ _ (hX _) (fun _ z => by cases z) h⟩)
  · exact .inr h
theorem RowAt.mono {H H' : Hp} {x : V} {row : List V} (h : RowAt K H x row) (e : Same H H') : RowAt K H' x row := let ⟨a, ex, ha⟩ := h; ⟨a, ex, sameT e ha⟩
def ToldAt (K : PySem.W.Frag) (H : Hp) (p : Addr) (w : Wo) : Prop := ∃ pa ca ba sa ct bt st, SqT K H p [.int w.beg, .ref pa, .ref ca, .ref ba, .ref sa] ∧ SqT K H pa (w.ports.map V.str) ∧ SqT K H ca ct ∧ SqT K H ba bt ∧ SqT K H sa st ∧
  Paired (RowAt K H) ct (w.chs.map Ch.row) ∧ Paired (RowAt K H) bt (w.brs.map Br.row) ∧ Paired (RowAt K H) st (w.shs.map Sh.row)
theorem ToldAt.mono {H H' : Hp} {p : Addr} {w : Wo} (h : ToldAt K H p w) (e : Same H H') : ToldAt K H' p w := by
  obtain ⟨pa, ca, ba, sa, ct, bt, st, h1, h2, h3, h4, h5, h6, h7, h8⟩ := h
  exact ⟨pa, ca, ba, sa, ct, bt, st, sameT e h1, sameT e h2, sameT e h3, sameT e h4, sameT e h5, pimp (fun _ _ h => h.mono e) h6, pimp (fun _ _ h => h.mono e) h7, pimp (fun _ _ h => h.mono e) h8⟩
def sp_told (K : PySem.W.Frag) : Sp := fun vs H Q _ => ∃ x w cx bx sx, vs = [x] ∧ WoAt K H x w cx bx sx ∧ cx.length ≤ 1000 ∧ bx.length ≤ 1000 ∧ sx.length ≤ 1000 ∧ ∀ p H', Same H H' → ToldAt K H' p w → Q (.ref p) H'
def ok_row (K : PySem.W.Frag) (C : Addr) (sp : Sp) : Prop := (C = ga K "Channel" ∧ sp = sp_Channel_row K) ∨ (C = ga K "Breaker" ∧ sp = sp_Breaker_row K) ∨ (C = ga K "Ship" ∧ sp = sp_Ship_row K)
theorem x0 : ∀ b, ¬ X0 b := fun _ z => z
/-- [x.row() for x in xs] -/
theorem lc_rows {α : Type} {J : It} {S : Hp → Prop} {xs : List V} {cs : List α} {F : Hp → V → α → Prop} {g : TG} {te : TE} {vs : List Nat} {σ : L2.St} {H : Hp} {Qd : Addr → Hp → Prop} (n : α → List V) (w : Wk J S xs) (sz : xs.length ≤ 100000) (st : ∀ H', Same H H' → S H') (pr : Paired (F H) xs cs)
    (hs : ∀ x c H' (Q' : VK), F H x c → Same H H' → (∀ y H'', Same H' H'' → RowAt K H'' y (n c) → Q' y H'') → g x (wipe σ vs) H' fun σ2 H2 => wipe σ2 vs = wipe σ vs ∧ te σ2 H2 Q')
    (hd : ∀ D H' ys, H D = none → Same H H' → H' D = some (.lst ys) → Paired (RowAt K H') ys (cs.map n) → Qd D H') :
    ∀ D, H D = none → ∃ W : Nat → Nat → Hp → Prop, (∃ m, W 0 m (upd H D (.lst []))) ∧ ∀ i m H, W i m H →
      (J.stop i H ∧ Qd D H) ∨ (J.go i H ∧ ∃ Nx : Hp → Prop, (∀ H', Nx H' → ∃ m', m' < m ∧ W (i + 1) m' H') ∧ ∀ x H', J.yld i H x H' → g x (wipe σ vs) H' fun σ2 H2 => wipe σ2 vs = wipe σ vs ∧ tYes σ2 H2 fun b H3 =>
        if b = true then te σ2 H3 fun y H4 => ∃ acc, H4 D = some (.lst acc) ∧ acc.length < sizeLine ∧ Nx (upd H4 D (.lst (acc ++ [y]))) else Nx H3) :=
  lc_new (Qd := Qd) X0 (fun _ _ => True) (fun H y c => RowAt K H y (n c)) cs w (plen pr) sz (fun _ z => z.elim) True.intro (fun _ _ _ _ _ => True.intro) (fun H1 H2 y c h e => let ⟨a, ex, ha⟩ := h; ⟨a, ex, sqtN x0 e ha⟩) (fun H' e => st H' e.same)
    (fun i x c H' Q' hx hc e _ q => by
      obtain ⟨c2, hc2, f⟩ := pget pr hx
      rw [hc] at hc2
      cases hc2
      exact hs x c H' Q' f e.same fun y H'' e2 r => q y H'' (SameX.of e2) True.intro r)
    fun D H' ys hD e _ hy pr' => hd D H' ys hD e.same hy (by
      refine pix (by rw [List.length_map]; exact plen pr') fun i a b ha hb => ?_
      obtain ⟨c, hc, r⟩ := pget pr' ha
      rw [List.getElem?_map, hc] at hb
      cases hb
      exact r)
theorem r_told (Z : Kf K) {vs : List V} {H : Hp} {Q : VK} {E : XK} (h : sp_told K vs H Q E) : t_World_told K (ok_row K) E (endsR Q) (start n_World_told vs) H := by
  obtain ⟨x, w, cx, bx, sx, rfl, ⟨a, dx, pl, cl, bl, sl, rfl, h1, h2, h3, h4, h5, h6, h7, h8⟩, l1, l2, l3, q⟩ := h
  refine ⟨.ref cl, fldW Z h1, _, _, _, .lst, .inl (.inl h3), ?_⟩
  refine lc_rows (K := K) (F := ChAt K) Ch.row wk_list (by omega) (fun H' e => .inl (.inl (e _ _ h3))) h6 (fun x c H' Q' hx e q' => ?_) fun D1 H1 ct _ e1 hD1 p1 => ?_
  · obtain ⟨b, db, rfl, hb⟩ := hx.mono e
    exact ⟨rfl, b, _, db, _, _, rfl, hb, rfl, .inl ⟨rfl, rfl⟩, _, c, rfl, ⟨b, db, rfl, hb⟩, fun p H'' e2 hp => q' _ H'' e2 ⟨p, rfl, hp⟩⟩
  refine ⟨ct, .inl (.inl (.inl hD1)), fun ca H2 e2 hca => ?_⟩
  have e2' := e1.trans e2
  refine ⟨.ref bl, fldW Z (e2' _ _ h1), _, _, _, .lst, .inl (.inl (e2' _ _ h4)), ?_⟩
  refine lc_rows (K := K) (F := BrAt K) Br.row wk_list (by omega) (fun H' e => .inl (.inl ((e2'.trans e) _ _ h4))) (pimp (fun _ _ h => BrAt.mono h e2') h7) (fun x c H' Q' hx e q' => ?_) fun D2 H3 bt _ e3 hD2 p2 => ?_
  · obtain ⟨b, db, rfl, hb⟩ := hx.mono e
    exact ⟨rfl, b, _, db, _, _, rfl, hb, rfl, .inr (.inl ⟨rfl, rfl⟩), _, c, rfl, ⟨b, db, rfl, hb⟩, fun p H'' e2 hp => q' _ H'' e2 ⟨p, rfl, hp⟩⟩
  refine ⟨bt, .inl (.inl (.inl hD2)), fun ba H4 e4 hba => ?_⟩
  have e4' := (e2'.trans e3).trans e4
  refine ⟨.ref sl, fldW Z (e4' _ _ h1), _, _, _, .lst, .inl (.inl (e4' _ _ h5)), ?_⟩
  refine lc_rows (K := K) (F := ShAt K) Sh.row wk_list (by omega) (fun H' e => .inl (.inl ((e4'.trans e) _ _ h5))) (pimp (fun _ _ h => ShAt.mono h e4') h8) (fun x c H' Q' hx e q' => ?_) fun D3 H5 st _ e5 hD3 p3 => ?_
  · obtain ⟨b, db, rfl, hb⟩ := hx.mono e
    exact ⟨rfl, b, _, db, _, _, rfl, hb, rfl, .inr (.inr ⟨rfl, rfl⟩), _, c, rfl, ⟨b, db, rfl, hb⟩, fun p H'' e2 hp => q' _ H'' e2 ⟨p, rfl, hp⟩⟩
  refine ⟨st, .inl (.inl (.inl hD3)), fun sa H6 e6 hsa => ?_⟩
  have e6' := (e4'.trans e5).trans e6
  refine ⟨.int w.beg, fldW Z (e6' _ _ h1), .ref pl, fldW Z (e6' _ _ h1), _, .inl (.inl (.inl (e6' _ _ h2))), fun pa H7 e7 hpa => ⟨sz rfl, fun p hp => ?_⟩⟩
  have e8 := Same.new (o := .tup [.int w.beg, .ref pa, .ref ca, .ref ba, .ref sa]) hp
  refine q p _ ((e6'.trans e7).trans e8) ⟨pa, ca, ba, sa, ct, bt, st, .inl (.inl upd_same), sameT e8 hpa, sameT (((((e3.trans e4).trans e5).trans e6).trans e7).trans e8) hca, sameT (((e5.trans e6).trans e7).trans e8) hba, sameT (e7.trans e8) hsa, ?_, ?_, ?_⟩
  · exact pimp (fun _ _ h => h.mono ((((((e2.trans e3).trans e4).trans e5).trans e6).trans e7).trans e8)) p1
  · exact pimp (fun _ _ h => h.mono ((((e4.trans e5).trans e6).trans e7).trans e8)) p2
  · exact pimp (fun _ _ h => h.mono ((e6.trans e7).trans e8)) p3
end K76
/-! readings: worlds made anew, turned, with a ship, without a vessel -/
namespace K76
open PySem PySem.Spec PyProof.Rows L2 SX
open He (ga ma fAd)
variable {K : PySem.W.Frag}
structure Wo.Fine (w : Wo) : Prop where
  pre : w.Pre
  ok : w.Ok
  cok : ∀ c ∈ w.chs, c.Ok
  bok : ∀ c ∈ w.brs, c.Ok
  sok : ∀ c ∈ w.shs, c.Ok
def sp_channel_anew (K : PySem.W.Frag) : Sp := fun vs H Q _ => ∃ (p : Addr) (c : Ch), vs = [.ref p] ∧ SqT K H p c.row ∧ c.Ok ∧ ∀ x H', Same H H' → ChAt K H' x c → Q x H'
def sp_breaker_anew (K : PySem.W.Frag) : Sp := fun vs H Q _ => ∃ (p : Addr) (c : Br), vs = [.ref p] ∧ SqT K H p c.row ∧ c.Ok ∧ ∀ x H', Same H H' → BrAt K H' x c → Q x H'
def sp_ship_anew (K : PySem.W.Frag) : Sp := fun vs H Q _ => ∃ (p : Addr) (c : Sh), vs = [.ref p] ∧ SqT K H p c.row ∧ c.Ok ∧ ∀ x H', Same H H' → ShAt K H' x c → Q x H'
theorem r_channel_anew {vs : List V} {H : Hp} {Q : VK} {E : XK} (h : sp_channel_anew K vs H Q E) : t_channel_anew K (sp_Channel___init__ K) E (endsR Q) (start n_channel_anew vs) H := by
  obtain ⟨p, c, rfl, hp, ok, q⟩ := h
  exact ⟨_, .str c.name, .inr hp, rfl, _, .str c.one, .inr hp, rfl, _, .str c.other, .inr hp, rfl, _, .int c.hours, .inr hp, rfl, _, .int c.depth, .inr hp, rfl, _, .int c.first, .inr hp, rfl, _, .int c.growth, .inr hp, rfl, _, .int c.most, .inr hp, rfl,
    fun x dx hx hd hne => ⟨x, dx, c, rfl, ok, upd_same, fun H' e h => ⟨rfl, q (.ref x) H' (e.new hx hd hne) ⟨x, dx, rfl, h⟩⟩⟩⟩
theorem r_breaker_anew {vs : List V} {H : Hp} {Q : VK} {E : XK} (h : sp_breaker_anew K vs H Q E) : t_breaker_anew K (sp_Breaker___init__ K) E (endsR Q) (start n_breaker_anew vs) H := by
  obtain ⟨p, c, rfl, hp, ok, q⟩ := h
  exact ⟨_, .str c.name, .inr hp, rfl, _, .str c.port, .inr hp, rfl, _, .int c.hour, .inr hp, rfl, _, .int c.strength, .inr hp, rfl, _, .int c.draught, .inr hp, rfl, _, .int c.cut, .inr hp, rfl,
    fun x dx hx hd hne => ⟨x, dx, c, rfl, ok, upd_same, fun H' e h => ⟨rfl, q (.ref x) H' (e.new hx hd hne) ⟨x, dx, rfl, h⟩⟩⟩⟩
theorem r_ship_anew {vs : List V} {H : Hp} {Q : VK} {E : XK} (h : sp_ship_anew K vs H Q E) : t_ship_anew K (sp_Ship___init__ K) E (endsR Q) (start n_ship_anew vs) H := by
  obtain ⟨p, c, rfl, hp, ok, q⟩ := h
  exact ⟨_, .str c.name, .inr hp, rfl, _, .str c.port, .inr hp, rfl, _, .str c.goal, .inr hp, rfl, _, .int c.hour, .inr hp, rfl, _, .int c.strength, .inr hp, rfl, _, .int c.draught, .inr hp, rfl,
    fun x dx hx hd hne => ⟨x, dx, c, rfl, ok, upd_same, fun H' e h => ⟨rfl, q (.ref x) H' (e.new hx hd hne) ⟨x, dx, rfl, h⟩⟩⟩⟩
/-- [make(row) for row in rows] -/
theorem lc_make {α : Type} {J : It} {S : Hp → Prop} {xs : List V} {cs : List α} {F : Hp → V → α → Prop} {g : TG} {te : TE} {vs : List Nat} {σ : L2.St} {H : Hp} {Qd : Addr → Hp → Prop} (n : α → List V) (fm : ∀ H1 H2 y c, F H1 y c → SameN X0 H1 H2 → F H2 y c) (w : Wk J S xs) (sz : xs.length ≤ 100000) (st : ∀ H', Same H H' → S H') (pr : Paired (RowAt K H) xs (cs.map n))
    (hs : ∀ x c H' (Q' : VK), c ∈ cs → RowAt K H' x (n c) → (∀ y H'', Same H' H'' → F H'' y c → Q' y H'') → g x (wipe σ vs) H' fun σ2 H2 => wipe σ2 vs = wipe σ vs ∧ te σ2 H2 Q')
    (hd : ∀ D H' ys, H D = none → Same H H' → H' D = some (.lst ys) → Paired (F H') ys cs → Qd D H') :
    ∀ D, H D = none → ∃ W : Nat → Nat → Hp → Prop, (∃ m, W 0 m (upd H D (.lst []))) ∧ ∀ i m H, W i m H →
      (J.stop i H ∧ Qd D H) ∨ (J.go i H ∧ ∃ Nx : Hp → Prop, (∀ H', Nx H' → ∃ m', m' < m ∧ W (i + 1) m' H') ∧ ∀ x H', J.yld i H x H' → g x (wipe σ vs) H' fun σ2 H2 => wipe σ2 vs = wipe σ vs ∧ tYes σ2 H2 fun b H3 =>
        if b = true then te σ2 H3 fun y H4 => ∃ acc, H4 D = some (.lst acc) ∧ acc.length < sizeLine ∧ Nx (upd H4 D (.lst (acc ++ [y]))) else Nx H3) :=
  lc_new (Qd := Qd) X0 (fun _ _ => True) F cs w (by have := plen pr; rw [List.length_map] at this; exact this) sz (fun _ z => z.elim) True.intro (fun _ _ _ _ _ => True.intro) fm (fun H' e => st H' e.same)
    (fun i x c H' Q' hx hc e _ q => by
      obtain ⟨r, hr, f⟩ := pget pr hx
      rw [List.getElem?_map, hc] at hr
      cases hr
      exact hs x c H' Q' (List.mem_of_getElem? hc) (f.mono e.same) fun y H'' e2 r => q y H'' (SameX.of e2) True.intro r)
    fun D H' ys hD e _ hy pr' => hd D H' ys hD e.same hy pr'
theorem chN {H1 H2 : Hp} {y : V} {c : Ch} (h : ChAt K H1 y c) (e : SameN X0 H1 H2) : ChAt K H2 y c := let ⟨a, dx, ex, ha⟩ := h; ⟨a, dx, ex, e _ _ (fun z => z) (fun _ z => by cases z) ha⟩
theorem brN {H1 H2 : Hp} {y : V} {c : Br} (h : BrAt K H1 y c) (e : SameN X0 H1 H2) : BrAt K H2 y c := let ⟨a, dx, ex, ha⟩ := h; ⟨a, dx, ex, e _ _ (fun z => z) (fun _ z => by cases z) ha⟩
theorem shN {H1 H2 : Hp} {y : V} {c : Sh} (h : ShAt K H1 y c) (e : SameN X0 H1 H2) : ShAt K H2 y c := let ⟨a, dx, ex, ha⟩ := h; ⟨a, dx, ex, e _ _ (fun z => z) (fun _ z => by cases z) ha⟩
/-- what a made world is: no exception -/
theorem Wo.Fine.no {w : Wo} (f : w.Fine) {E : XK} {H : Hp} : (6 < w.shs.length → ∀ H', Same H H' → Rz K E H' "NoWorld" "found" (.str "ships")) ∧
  (w.shs.length ≤ 6 → ∀ l x r, w.vnames = l ++ x :: r → l.Nodup → x ∈ l → ∀ H', Same H H' → Rz K E H' "Doubled" "name" (.str x)) ∧
  (w.shs.length ≤ 6 → w.vnames.Nodup → ∀ l s r, w.shs = l ++ s :: r → (∀ t ∈ l, t.port ∈ w.ports ∧ t.goal ∈ w.ports) →
    (s.port ∉ w.ports → ∀ H', Same H H' → Rz K E H' "NoPort" "found" (.str s.port)) ∧ (s.port ∈ w.ports → s.goal ∉ w.ports → ∀ H', Same H H' → Rz K E H' "NoPort" "found" (.str s.goal))) := by
  refine ⟨fun h => absurd f.ok.ns (by omega), fun _ l x r e _ hx => (nodup_no f.ok.vnd e hx).elim, fun _ _ l s r e _ => ?_⟩
  have hs := f.ok.sp s (by rw [e]; simp)
  exact ⟨fun h => absurd hs.1 h, fun _ h => absurd hs.2 h⟩
theorem q1 {H : Hp} {a : Addr} {xs : List V} (h : H a = some (.lst xs)) : Sq K H a xs := .inl (.inl (.inl h))
def sp_world_anew (K : PySem.W.Frag) : Sp := fun vs H Q _ => ∃ (p pa ca ba sa : Addr) (w : Wo) (ct bt st : List V), vs = [.ref p] ∧ SqT K H p [.int w.beg, .ref pa, .ref ca, .ref ba, .ref sa] ∧ Sq K H pa (w.ports.map V.str) ∧ Sq K H ca ct ∧ Sq K H ba bt ∧ Sq K H sa st ∧
  Paired (RowAt K H) ct (w.chs.map Ch.row) ∧ Paired (RowAt K H) bt (w.brs.map Br.row) ∧ Paired (RowAt K H) st (w.shs.map Sh.row) ∧ w.Fine ∧ ∀ y H' cx bx sx, Same H H' → WoAt K H' y w cx bx sx → Q y H'
theorem r_world_anew {vs : List V} {H : Hp} {Q : VK} {E : XK} (h : sp_world_anew K vs H Q E) : t_world_anew K (sp_channel_anew K) (sp_World___init__ K) (sp_ship_anew K) (sp_breaker_anew K) E (endsR Q) (start n_world_anew vs) H := by
  obtain ⟨p, pa, ca, ba, sa, w, ct, bt, st, rfl, h1, h2, h3, h4, h5, p1, p2, p3, f, q⟩ := h
  have lc := f.pre.nc
  have lb := f.pre.nb
  have ls := f.ok.ns
  have c1 := plen p1
  have c2 := plen p2
  have c3 := plen p3
  rw [List.length_map] at c1 c2 c3
  refine ⟨p, _, rfl, h1, rfl, _, _, rfl, _, _, rfl, _, _, rfl, _, _, rfl, _, _, rfl, rfl, ?_⟩
  obtain ⟨J, S, src, st1, keep⟩ := Src.of h3
  refine ⟨J, S, _, src, st1, ?_⟩
  refine lc_make (K := K) (F := ChAt K) Ch.row (fun _ _ _ _ h e => chN h e) src.wk (by omega) keep p1 (fun x c H' Q' hc hx q' => ?_) fun D1 H1 cx _ e1 hD1 k1 => ?_
  · obtain ⟨a, rfl, ha⟩ := hx
    exact ⟨rfl, a, c, rfl, ha, f.cok c hc, q'⟩
  obtain ⟨J2, S2, src2, st2, keep2⟩ := Src.of (sameS e1 h4)
  refine ⟨J2, S2, _, src2, st2, ?_⟩
  refine lc_make (K := K) (F := BrAt K) Br.row (fun _ _ _ _ h e => brN h e) src2.wk (by omega) keep2 (pimp (fun _ _ h => h.mono e1) p2) (fun x c H' Q' hc hx q' => ?_) fun D2 H2 bx _ e2 hD2 k2 => ?_
  · obtain ⟨a, rfl, ha⟩ := hx
    exact ⟨rfl, a, c, rfl, ha, f.bok c hc, q'⟩
  have e2' := e1.trans e2
  obtain ⟨J3, S3, src3, st3, keep3⟩ := Src.of (sameS e2' h5)
  refine ⟨J3, S3, _, src3, st3, ?_⟩
  refine lc_make (K := K) (F := ShAt K) Sh.row (fun _ _ _ _ h e => shN h e) src3.wk (by omega) keep3 (pimp (fun _ _ h => h.mono e2') p3) (fun x c H' Q' hc hx q' => ?_) fun D3 H3 sx _ e3 hD3 k3 => ?_
  · obtain ⟨a, rfl, ha⟩ := hx
    exact ⟨rfl, a, c, rfl, ha, f.sok c hc, q'⟩
  have e3' := e2'.trans e3
  intro x dx hx hd hne
  have en := Same.new (o := .own x) hd
  have en2 : Same H3 (upd (upd H3 dx (.own x)) x (.ins (ga K "World") dx [])) := en.trans (Same.new (by rw [upd_ne (Ne.symm hne)]; exact hx))
  obtain ⟨n1, n2, n3⟩ := f.no (K := K) (E := fun c d H' => WD E c d [] H') (H := upd (upd H3 dx (.own x)) x (.ins (ga K "World") dx []))
  refine ⟨x, dx, pa, D1, D2, D3, w, cx, bx, sx, rfl, upd_same, sameS (e3'.trans en2) h2, .inl (.inl (.inl (en2 _ _ (e3 _ _ (e2 _ _ hD1))))), q1 (en2 _ _ (e3 _ _ hD2)), q1 (en2 _ _ hD3),
    pimp (fun _ _ h => ChAt.mono h ((e2.trans e3).trans en2)) k1, pimp (fun _ _ h => BrAt.mono h (e3.trans en2)) k2, pimp (fun _ _ h => ShAt.mono h en2) k3, f.pre, by omega, fun _ H' e hW _ => ⟨rfl, q _ H' cx bx sx ?_ hW⟩, n1, n2, n3⟩
  exact e3'.trans (e.new hx hd hne)
/-! ### turned -/
def Ch.flip (c : Ch) : Ch := { c with one := c.other, other := c.one }
def Wo.turn (w : Wo) : Wo := { w with chs := w.chs.map Ch.flip }
theorem Ch.flip_flip (c : Ch) : c.flip.flip = c := rfl
theorem Wo.turn_turn (w : Wo) : w.turn.turn = w := by
  obtain ⟨b, p, c, br, sh⟩ := w
  unfold Wo.turn
  simp only [List.map_map]
  rw [show Ch.flip ∘ Ch.flip = id from funext Ch.flip_flip, List.map_id]
theorem Wo.Fine.turn {w : Wo} (f : w.Fine) : w.turn.Fine := by
  obtain ⟨pre, ok, cok, bok, sok⟩ := f
  refine ⟨⟨pre.beg, pre.np, pre.ports, pre.pnd, ?_, ?_, ?_, pre.nb, pre.bp⟩, ⟨ok.ns, ok.vnd, ok.sp⟩, ?_, bok, sok⟩
  · show (w.chs.map Ch.flip).length ≤ 12
    rw [List.length_map]
    exact pre.nc
  · show ((w.chs.map Ch.flip).map (·.name)).Nodup
    rw [List.map_map]
    exact pre.cnd
  · intro c hc
    obtain ⟨d, hd, rfl⟩ := List.mem_map.mp hc
    exact ⟨(pre.cp d hd).2, (pre.cp d hd).1⟩
  · intro c hc
    obtain ⟨d, hd, rfl⟩ := List.mem_map.mp hc
    have k := cok d hd
    exact ⟨k.name, k.other, k.one, Ne.symm k.ne, k.hours, k.depth, k.first, k.growth, k.most⟩
def sp_turned (K : PySem.W.Frag) : Sp := fun vs H Q _ => ∃ x w cx bx sx, vs = [x] ∧ WoAt K H x w cx bx sx ∧ w.Fine ∧ ∀ y H' cx bx sx, Same H H' → WoAt K H' y w.turn cx bx sx → Q y H'
/-- row[:1] + (row[2], row[1]) + row[3:] -/
theorem flip_row {σ : L2.St} {H : Hp} {i : Nat} {a : Addr} {c : Ch} {Q : VK} (hσ : σ[i]? = some (some (.ref a))) (ha : SqT K H a c.row) (q : ∀ p H', Same H H' → SqT K H' p c.flip.row → Q (.ref p) H') :
    (tOp (mAdd K) (tOp (mAdd K) (tSl (mSl K) (mV i) tNoPart (tPart (tC (.int 1)))) (tTup (tCons (tOp (mIx K) (mV i) (tC (.int 2))) (tCons (tOp (mIx K) (mV i) (tC (.int 1))) tNil)))) (tSl (mSl K) (mV i) (tPart (tC (.int 3))) tNoPart)) σ H Q := by
  unfold tOp tSl tTup tCons mV tNil
  simp only [hσ]
  refine ⟨_, rfl, .inr ⟨_, ha, fun p1 H1 e1 h1 => ⟨_, .str c.other, .inr (sameT e1 ha), rfl, _, .str c.one, .inr (sameT e1 ha), rfl, sz rfl, fun p2 hp2 => .inl ⟨_, _, sameT (Same.new hp2) h1, .inl (.inl upd_same), sz rfl, fun p3 H3 e3 h3 => ?_⟩⟩⟩⟩
  have e3' := (e1.trans (Same.new hp2)).trans e3
  refine ⟨_, rfl, .inr ⟨_, sameT e3' ha, fun p4 H4 e4 h4 => .inl ⟨_, _, sameT e4 h3, h4, sz rfl, fun p5 H5 e5 h5 => ?_⟩⟩⟩
  exact q p5 H5 ((e3'.trans e4).trans e5) h5
theorem sqt_row {H : Hp} {x : V} {row : List V} (h : RowAt K H x row) : ∃ a, x = .ref a ∧ SqT K H a row := h
theorem r_turned {vs : List V} {H : Hp} {Q : VK} {E : XK} (h : sp_turned K vs H Q E) : t_turned K (okW sp_told K) (sp_world_anew K) E (endsR Q) (start n_turned vs) H := by
  obtain ⟨x, w, cx, bx, sx, rfl, hW, f, q⟩ := h
  obtain ⟨a, dx, pl, cl, bl, sl, rfl, h1, h2, h3, h4, h5, h6, h7, h8⟩ := id hW
  have lc := f.pre.nc
  have lb := f.pre.nb
  have ls := f.ok.ns
  have c1 := plen h6
  have c2 := plen h7
  have c3 := plen h8
  refine ⟨a, _, dx, _, _, rfl, h1, rfl, ⟨rfl, rfl⟩, _, w, cx, bx, sx, rfl, hW, by omega, by omega, by omega, fun p H1 e1 ht => ?_⟩
  obtain ⟨pa, ca, ba, sa, ct, bt, st, t1, t2, t3, t4, t5, t6, t7, t8⟩ := ht
  have d1 := plen t6
  rw [List.length_map] at d1
  refine ⟨p, _, rfl, t1, rfl, _, _, rfl, _, _, rfl, _, _, rfl, _, _, rfl, _, _, rfl, rfl, ?_⟩
  refine ⟨_, _, _, .tup, t3, ?_⟩
  refine lc_rows (K := K) (F := fun H x c => RowAt K H x (Ch.row c)) (cs := w.chs) (fun c => c.flip.row) wk_tup (by omega) (fun H' e => sameT e t3) ?_ (fun x c H' Q' hx e q' => ?_) fun D2 H2 ct2 _ e2 hD2 k2 => ?_
  · refine pix (by omega) fun i x c hx hc => ?_
    obtain ⟨r, hr, hh⟩ := pget t6 hx
    rw [List.getElem?_map, hc] at hr
    cases hr
    exact hh
  · obtain ⟨b, rfl, hb⟩ := hx.mono e
    exact ⟨rfl, flip_row rfl hb fun p H'' e2 hp => q' _ H'' e2 ⟨p, rfl, hp⟩⟩
  refine ⟨sz rfl, fun p3 hp3 => ?_⟩
  have e3 := Same.new (o := .tup [.int w.beg, .ref pa, .ref D2, .ref ba, .ref sa]) hp3
  have e23 := e2.trans e3
  refine ⟨p3, pa, D2, ba, sa, w.turn, ct2, bt, st, rfl, .inl (.inl upd_same), .inr (sameT e23 t2), .inl (.inl (.inl (e3 _ _ hD2))), .inr (sameT e23 t4), .inr (sameT e23 t5), ?_, pimp (fun _ _ h => h.mono e23) t7, pimp (fun _ _ h => h.mono e23) t8, f.turn, fun y H' cx bx sx e hW' => q y H' cx bx sx ((e1.trans e23).trans e) hW'⟩
  show Paired _ _ ((w.chs.map Ch.flip).map Ch.row)
  rw [List.map_map]
  exact pimp (fun _ _ h => h.mono e3) k2
end K76
/-! readings: with a ship, without a vessel -/
namespace K76
open PySem PySem.Spec PyProof.Rows L2 SX
open He (ga ma fAd)
variable {K : PySem.W.Frag}
def Wo.more (w : Wo) (s : Sh) : Wo := { w with shs := w.shs ++ [s] }
theorem last_one {α : Type} {zs l r : List α} {z x : α} (e : zs ++ [z] = l ++ x :: r) : (r = [] ∧ zs = l ∧ z = x) ∨ ∃ r', r = r' ++ [z] ∧ zs = l ++ x :: r' := by
  rcases List.eq_nil_or_concat r with rfl | ⟨r', y, rfl⟩
  · have h := List.append_inj' e rfl
    exact .inl ⟨rfl, h.1, List.singleton_inj.mp h.2⟩
  · rw [List.concat_eq_append] at e ⊢
    rw [← List.cons_append, ← List.append_assoc] at e
    have h := List.append_inj' e rfl
    have hz := List.singleton_inj.mp h.2
    subst hz
    exact .inr ⟨r', rfl, h.1⟩
theorem Same.obj {H : Hp} {x dx C : Addr} (hx : H x = none) (hd : H dx = none) (hne : dx ≠ x) : Same H (upd (upd H dx (.own x)) x (.ins C dx [])) := (Same.new hd).trans (Same.new (by rw [upd_ne (Ne.symm hne)]; exact hx))
def sp_with_ship (K : PySem.W.Frag) : Sp := fun vs H Q E => ∃ x w cx bx sx y s, vs = [x, y] ∧ WoAt K H x w cx bx sx ∧ w.Fine ∧ ShAt K H y s ∧
  ((w.more s).Ok → ∀ z H', Same H H' → WoAt K H' z (w.more s) cx bx (sx ++ [y]) → Q z H') ∧
  (6 ≤ w.shs.length → ∀ H', Same H H' → Rz K E H' "NoWorld" "found" (.str "ships")) ∧
  (w.shs.length ≤ 5 → s.name ∈ w.vnames → ∀ H', Same H H' → Rz K E H' "Doubled" "name" (.str s.name)) ∧
  (w.shs.length ≤ 5 → s.name ∉ w.vnames → s.port ∉ w.ports → ∀ H', Same H H' → Rz K E H' "NoPort" "found" (.str s.port)) ∧
  (w.shs.length ≤ 5 → s.name ∉ w.vnames → s.port ∈ w.ports → s.goal ∉ w.ports → ∀ H', Same H H' → Rz K E H' "NoPort" "found" (.str s.goal))
theorem r_with_ship (Kx : Kk K) (Z : Kf K) {vs : List V} {H : Hp} {Q : VK} {E : XK} (h : sp_with_ship K vs H Q E) : t_with_ship K (sp_World___init__ K) (okW sp_ships K) (okW sp_breakers K) (okW sp_channels K) (okW sp_ports K) (okW sp_begin K) E (endsR Q) (start n_with_ship vs) H := by
  obtain ⟨x, w, cx, bx, sx, y, s, rfl, hW, f, hy, q, q1, q2, q3, q4⟩ := h
  obtain ⟨a, dx, pl, cl, bl, sl, rfl, h1, h2, h3, h4, h5, h6, h7, h8⟩ := id hW
  obtain ⟨b, db, rfl, hb⟩ := id hy
  have c3 := plen h8
  have ls := f.ok.ns
  refine ⟨_, true, Kx.ks.ty Z.sh hb, Kx.ss, true, rfl, iteF rfl ?_⟩
  refine ⟨a, _, dx, _, _, rfl, h1, rfl, ⟨rfl, rfl⟩, _, w, cx, bx, sx, rfl, hW, ?_⟩
  refine ⟨a, _, dx, _, _, rfl, h1, rfl, ⟨rfl, rfl⟩, _, w, cx, bx, sx, rfl, hW, fun l1 hl1 => ?_⟩
  have e1 := Same.new (o := .lst (w.ports.map V.str)) hl1
  refine ⟨a, _, dx, _, _, rfl, e1 _ _ h1, rfl, ⟨rfl, rfl⟩, _, w, cx, bx, sx, rfl, hW.mono e1, fun l2 hl2 => ?_⟩
  have e2 := Same.new (o := .lst cx) hl2
  refine ⟨a, _, dx, _, _, rfl, e2 _ _ (e1 _ _ h1), rfl, ⟨rfl, rfl⟩, _, w, cx, bx, sx, rfl, (hW.mono e1).mono e2, fun l3 hl3 => ?_⟩
  have e3 := Same.new (o := .lst bx) hl3
  refine ⟨a, _, dx, _, _, rfl, e3 _ _ (e2 _ _ (e1 _ _ h1)), rfl, ⟨rfl, rfl⟩, _, w, cx, bx, sx, rfl, ((hW.mono e1).mono e2).mono e3, fun l4 hl4 => ?_⟩
  have e4 := Same.new (o := .lst sx) hl4
  refine ⟨sz rfl, fun l5 hl5 => .inr ⟨sx, [.ref b], Same.new hl5 _ _ upd_same, upd_same, len_ok (by simp only [List.length_cons, List.length_nil]; omega), fun l6 hl6 => ?_⟩⟩
  have e5 := Same.new (o := .lst [.ref b]) hl5
  have e6 := Same.new (o := .lst (sx ++ [.ref b])) hl6
  intro z dz hz hd hne
  have e8 := Same.obj (C := ga K "World") hz hd hne
  have k1 := ((((((e1.trans e2).trans e3).trans e4).trans e5).trans e6)).trans e8
  refine ⟨z, dz, l1, l2, l3, l6, w.more s, cx, bx, sx ++ [.ref b], rfl, upd_same, .inl (.inl (.inl (((((e2.trans e3).trans e4).trans e5).trans e6).trans e8 _ _ upd_same))), .inl (.inl (.inl ((((e3.trans e4).trans e5).trans e6).trans e8 _ _ upd_same))),
    K76.q1 ((((e4.trans e5).trans e6).trans e8) _ _ upd_same), K76.q1 (e8 _ _ upd_same), pimp (fun _ _ h => ChAt.mono h k1) h6, pimp (fun _ _ h => BrAt.mono h k1) h7, psnoc (pimp (fun _ _ h => ShAt.mono h k1) h8) (hy.mono k1), ?_, ?_, fun ok H' e hW' _ => ⟨rfl, q ok (.ref z) H' ?_ hW'⟩, ?_, ?_, ?_⟩
  · exact ⟨f.pre.beg, f.pre.np, f.pre.ports, f.pre.pnd, f.pre.nc, f.pre.cnd, f.pre.cp, f.pre.nb, f.pre.bp⟩
  · show (w.shs ++ [s]).length ≤ 900
    rw [List.length_append]
    simp only [List.length_cons, List.length_nil]
    omega
  · exact ((((((e1.trans e2).trans e3).trans e4).trans e5).trans e6)).trans (e.new hz hd hne)
  · intro h H' e
    refine q1 ?_ H' (k1.trans e)
    have : (w.shs ++ [s]).length = w.shs.length + 1 := by rw [List.length_append]; rfl
    have h' : 6 < (w.shs ++ [s]).length := h
    omega
  · intro h l x r ev nd hx H' e
    have hl : (w.shs ++ [s]).length ≤ 6 := h
    rw [List.length_append] at hl
    simp only [List.length_cons, List.length_nil] at hl
    have ev' : w.vnames ++ [s.name] = l ++ x :: r := by
      have e0 : (w.more s).vnames = w.vnames ++ [s.name] := by
        show w.brs.map (·.name) ++ (w.shs ++ [s]).map (·.name) = (w.brs.map (·.name) ++ w.shs.map (·.name)) ++ [s.name]
        rw [List.map_append, List.append_assoc]
        rfl
      rw [← e0]
      exact ev
    rcases last_one ev' with ⟨_, rfl, rfl⟩ | ⟨r', _, e9⟩
    · exact q2 (by omega) hx H' (k1.trans e)
    · exact (nodup_no f.ok.vnd e9 hx).elim
  · intro h nd l t r ev hall
    have hl : (w.shs ++ [s]).length ≤ 6 := h
    rw [List.length_append] at hl
    simp only [List.length_cons, List.length_nil] at hl
    have nd' : s.name ∉ w.vnames := fun hx => by
      have e0 : (w.more s).vnames = w.vnames ++ [s.name] := by
        show w.brs.map (·.name) ++ (w.shs ++ [s]).map (·.name) = (w.brs.map (·.name) ++ w.shs.map (·.name)) ++ [s.name]
        rw [List.map_append, List.append_assoc]
        rfl
      exact nodup_no nd e0 hx
    rcases last_one (show w.shs ++ [s] = l ++ t :: r from ev) with ⟨_, rfl, rfl⟩ | ⟨r', _, e9⟩
    · exact ⟨fun hp H' e => q3 (by omega) nd' hp H' (k1.trans e), fun hp hg H' e => q4 (by omega) nd' hp hg H' (k1.trans e)⟩
    · have hs := f.ok.sp t (by rw [e9]; simp)
      exact ⟨fun h => absurd hs.1 h, fun _ h => absurd hs.2 h⟩
/-! ### without -/
def Wo.less (w : Wo) (n : Str) : Wo := { w with brs := w.brs.filter (fun c => !decide (c.name = n)), shs := w.shs.filter (fun c => !decide (c.name = n)) }
/-- those of xs whose partner pleases -/
def cut {α : Type} (xs : List V) (cs : List α) (P : α → Bool) : List V := given xs.length (fun i => ((cs[i]?).map P).getD false) (fun i => xs.getD i .non)
theorem pcut {α : Type} {F : V → α → Prop} {xs : List V} {cs : List α} (P : α → Bool) (h : Paired F xs cs) : Paired F (cut xs cs P) (cs.filter P) := by
  have key : ∀ n, n ≤ xs.length → Paired F (given n (fun i => ((cs[i]?).map P).getD false) (fun i => xs.getD i .non)) ((cs.take n).filter P) := by
    intro n
    induction n with
    | zero => intro _; simpa [given] using Paired.nil
    | succ n ih =>
      intro hn
      have hx := List.getElem?_eq_getElem (l := xs) (i := n) (by omega)
      obtain ⟨c, hc, f⟩ := pget h hx
      rw [given_more, take_snoc hc, List.filter_append]
      refine papp (ih (by omega)) ?_
      rw [hc]
      show Paired F (if (P c) = true then [xs.getD n .non] else []) ([c].filter P)
      rw [List.getD_eq_getElem?_getD, hx]
      cases e : P c with
      | true => simpa [e] using Paired.cons f .nil
      | false => simpa [e] using Paired.nil
  have := key xs.length (Nat.le_refl _)
  rw [show cs.take xs.length = cs by rw [plen h, List.take_length]] at this
  exact this
theorem cut_mem {α : Type} {xs : List V} {cs : List α} {P : α → Bool} {y : V} (h : y ∈ cut xs cs P) : y ∈ xs := by
  unfold cut given at h
  obtain ⟨i, hi, rfl⟩ := List.mem_map.mp h
  have hi := (List.mem_filter.mp hi).1
  rw [List.mem_range] at hi
  rw [List.getD_eq_getElem?_getD, List.getElem?_eq_getElem hi]
  exact List.getElem_mem _
theorem cut_len {α : Type} {xs : List V} {cs : List α} {P : α → Bool} : (cut xs cs P).length ≤ xs.length := given_len _ _ _
theorem Wo.Fine.less {w : Wo} (f : w.Fine) (n : Str) : (w.less n).Fine := by
  obtain ⟨pre, ok, cok, bok, sok⟩ := f
  refine ⟨⟨pre.beg, pre.np, pre.ports, pre.pnd, pre.nc, pre.cnd, pre.cp, Nat.le_trans (List.length_filter_le _ _) pre.nb, fun b hb => pre.bp b (List.mem_filter.mp hb).1⟩,
    ⟨Nat.le_trans (List.length_filter_le _ _) ok.ns, ?_, fun s hs => ok.sp s (List.mem_filter.mp hs).1⟩, cok, fun b hb => bok b (List.mem_filter.mp hb).1, fun b hb => sok b (List.mem_filter.mp hb).1⟩
  have sub : (w.less n).vnames.Sublist w.vnames := List.Sublist.append ((List.filter_sublist (p := fun c : Br => !decide (c.name = n))).map _) ((List.filter_sublist (p := fun c : Sh => !decide (c.name = n))).map _)
  exact ok.vnd.sublist sub
def sp_without (K : PySem.W.Frag) : Sp := fun vs H Q _ => ∃ x w cx bx sx, ∃ n : Str, vs = [x, .str n] ∧ WoAt K H x w cx bx sx ∧ w.Fine ∧ n ∈ w.vnames ∧
  ∀ z H', Same H H' → WoAt K H' z (w.less n) cx (cut bx w.brs fun c => !decide (c.name = n)) (cut sx w.shs fun c => !decide (c.name = n)) → Q z H'
theorem first_at {α : Type} [DecidableEq α] {zs : List α} {z : α} (h : z ∈ zs) : ∃ i : Nat, zs[i]? = some z ∧ ∀ (j : Nat) m, j < i → zs[j]? = some m → m ≠ z := by
  induction zs with
  | nil => cases h
  | cons y zs ih =>
    by_cases e : y = z
    · exact ⟨0, by rw [e]; rfl, fun j m hj => by omega⟩
    · rcases List.mem_cons.mp h with h | h
      · exact absurd h.symm e
      · obtain ⟨i, h1, h2⟩ := ih h
        refine ⟨i + 1, by simpa using h1, fun j m hj hm => ?_⟩
        cases j with
        | zero =>
          have : y = m := by simpa using hm
          exact this ▸ e
        | succ j => exact h2 j m (by omega) (by simpa using hm)
theorem r_without (Kx : Kk K) (Z : Kf K) {vs : List V} {H : Hp} {Q : VK} {E : XK} (h : sp_without K vs H Q E) : t_without K (okW sp_vessel K) (okW sp_breakers K) (okW sp_ships K) (sp_World___init__ K) (okW sp_channels K) (okW sp_ports K) (okW sp_begin K) E (endsR Q) (start n_without vs) H := by
  obtain ⟨x, w, cx, bx, sx, n, rfl, hW, f, hn, q⟩ := h
  obtain ⟨a, dx, pl, cl, bl, sl, rfl, h1, h2, h3, h4, h5, h6, h7, h8⟩ := id hW
  have c2 := plen h7
  have c3 := plen h8
  have ls := f.ok.ns
  have lb := f.pre.nb
  obtain ⟨i, hi, hne⟩ := first_at hn
  obtain ⟨y, hy, fy⟩ := pget' (vsAt Z h7 h8) hi
  refine ⟨a, _, dx, _, _, rfl, h1, rfl, ⟨rfl, rfl⟩, _, w, cx, bx, sx, n, i, y, rfl, hW, by omega, hy, hi, hne, fun H1 e1 => ?_⟩
  refine ⟨a, _, dx, _, _, rfl, e1 _ _ h1, rfl, ⟨rfl, rfl⟩, _, w, cx, bx, sx, rfl, hW.mono e1, fun l1 hl1 => ?_⟩
  have e2 := e1.trans (Same.new (o := .lst bx) hl1)
  refine ⟨_, _, bx, .lst, .inl (.inl upd_same), ?_⟩
  refine lc_pure wk_list (fun i => ((w.brs[i]?).map fun c => !decide (c.name = n)).getD false) (fun i => bx.getD i .non) (by omega) (fun H' e => .inl (.inl (e _ _ upd_same))) (fun i x H' Q' R' hx e qy qn => ?_) fun D1 H2 _ e3 hD1 => ?_
  · obtain ⟨c, hc, hh⟩ := pget h7 hx
    have e4 := e2.trans e
    rw [hc] at qy qn
    refine ⟨rfl, .str c.name, (hh.mono e4).fld Z, .str n, fld_mono fy e4, _, rfl, ?_⟩
    have qy : (!decide (c.name = n)) = true → ∀ H'', Same H' H'' → Q' (bx.getD i .non) H'' := qy
    have qn : (!decide (c.name = n)) = false → ∀ H'', Same H' H'' → R' H'' := qn
    cases ec : decide (c.name = n) with
    | true => exact qn (by rw [ec]; rfl) H' (Same.refl _)
    | false =>
      have := qy (by rw [ec]; rfl) H' (Same.refl _)
      rw [List.getD_eq_getElem?_getD, hx] at this
      exact this
  have e3 := e2.trans e3
  refine ⟨a, _, dx, _, _, rfl, e3 _ _ h1, rfl, ⟨rfl, rfl⟩, _, w, cx, bx, sx, rfl, hW.mono e3, fun l2 hl2 => ?_⟩
  have e4 := Same.new (o := .lst sx) hl2
  have e34 := e3.trans e4
  refine ⟨_, _, sx, .lst, .inl (.inl upd_same), ?_⟩
  refine lc_pure wk_list (fun i => ((w.shs[i]?).map fun c => !decide (c.name = n)).getD false) (fun i => sx.getD i .non) (by omega) (fun H' e => .inl (.inl (e _ _ upd_same))) (fun i x H' Q' R' hx e qy qn => ?_) fun D2 H3 _ e5 hD2 => ?_
  · obtain ⟨c, hc, hh⟩ := pget h8 hx
    have e6 := e34.trans e
    rw [hc] at qy qn
    refine ⟨rfl, .str c.name, (hh.mono e6).fld Z, .str n, fld_mono fy e6, _, rfl, ?_⟩
    have qy : (!decide (c.name = n)) = true → ∀ H'', Same H' H'' → Q' (sx.getD i .non) H'' := qy
    have qn : (!decide (c.name = n)) = false → ∀ H'', Same H' H'' → R' H'' := qn
    cases ec : decide (c.name = n) with
    | true => exact qn (by rw [ec]; rfl) H' (Same.refl _)
    | false =>
      have := qy (by rw [ec]; rfl) H' (Same.refl _)
      rw [List.getD_eq_getElem?_getD, hx] at this
      exact this
  have e6 := e34.trans e5
  have hD1 := e5 _ _ (e4 _ _ hD1)
  refine ⟨a, _, dx, _, _, rfl, e6 _ _ h1, rfl, ⟨rfl, rfl⟩, _, w, cx, bx, sx, rfl, hW.mono e6, ?_⟩
  refine ⟨a, _, dx, _, _, rfl, e6 _ _ h1, rfl, ⟨rfl, rfl⟩, _, w, cx, bx, sx, rfl, hW.mono e6, fun l3 hl3 => ?_⟩
  have e7 := Same.new (o := .lst (w.ports.map V.str)) hl3
  refine ⟨a, _, dx, _, _, rfl, (e6.trans e7) _ _ h1, rfl, ⟨rfl, rfl⟩, _, w, cx, bx, sx, rfl, hW.mono (e6.trans e7), fun l4 hl4 => ?_⟩
  have e8 := Same.new (o := .lst cx) hl4
  intro z dz hz hd hne
  have e10 := Same.obj (C := ga K "World") hz hd hne
  have k1 := ((e6.trans e7).trans e8).trans e10
  have ff := f.less n
  obtain ⟨n1, n2, n3⟩ := ff.no (K := K) (E := fun c d H' => WD E c d [] H') (H := upd (upd (upd (upd H3 l3 (.lst (w.ports.map V.str))) l4 (.lst cx)) dz (.own z)) z (.ins (ga K "World") dz []))
  refine ⟨z, dz, l3, l4, D1, D2, w.less n, cx, cut bx w.brs fun c => !decide (c.name = n), cut sx w.shs fun c => !decide (c.name = n), rfl, upd_same, .inl (.inl (.inl (e8.trans e10 _ _ upd_same))), .inl (.inl (.inl (e10 _ _ upd_same))),
    q1 (((e7.trans e8).trans e10) _ _ hD1), q1 (((e7.trans e8).trans e10) _ _ hD2), pimp (fun _ _ h => ChAt.mono h k1) h6, pcut _ (pimp (fun _ _ h => BrAt.mono h k1) h7), pcut _ (pimp (fun _ _ h => ShAt.mono h k1) h8), ff.pre, ?_, fun ok H' e hW' _ => ⟨rfl, q (.ref z) H' ?_ hW'⟩, n1, n2, n3⟩
  · have := ff.ok.ns
    omega
  · exact ((e6.trans e7).trans e8).trans (e.new hz hd hne)
end K76
/-! readings: cells, boxes, draws -/
namespace K76
open PySem PySem.Spec PyProof.Rows L2 SX
open He (ga ma fAd)
variable {K : PySem.W.Frag}
def BoxB (H : Hp) (b : Addr) (n : Nat) : Prop := ∃ b0 b1 b2 : Int, H b = some (.lst [.int b0, .int b1, .int b2]) ∧ 0 ≤ b0 ∧ 0 ≤ b1 ∧ b1 < 2147483629 ∧ 0 ≤ b2 ∧ b2 ≤ n
theorem BoxB.le {H : Hp} {b : Addr} {n m : Nat} (h : BoxB H b n) (e : n ≤ m) : BoxB H b m := by
  obtain ⟨b0, b1, b2, h1, h2, h3, h4, h5, h6⟩ := h
  exact ⟨b0, b1, b2, h1, h2, h3, h4, h5, by omega⟩
theorem BoxB.at_ {H H' : Hp} {b : Addr} {n : Nat} (h : BoxB H b n) (e : H' b = H b) : BoxB H' b n := by
  obtain ⟨b0, b1, b2, h1, h2⟩ := h
  exact ⟨b0, b1, b2, by rw [e, h1], h2⟩
theorem BoxB.same {H H' : Hp} {b : Addr} {n : Nat} (h : BoxB H b n) (e : Same H H') : BoxB H' b n := by
  obtain ⟨b0, b1, b2, h1, h2⟩ := h
  exact ⟨b0, b1, b2, e _ _ h1, h2⟩
/-- all but the box -/
abbrev Xb (b : Addr) : Addr → Prop := fun a => a = b
def sp__law_cell (K : PySem.W.Frag) : Sp := fun vs H Q _ => ∃ (p : Addr) (ns : List Int) (k : Nat), vs = [.ref p, .int k] ∧ SqL K H p (ns.map V.int) ∧ ∀ i : Int, Q (.int i) H
theorem r__law_cell {vs : List V} {H : Hp} {Q : VK} {E : XK} (h : sp__law_cell K vs H Q E) : t__law_cell K E (endsR Q) (start n__law_cell vs) H := by
  obtain ⟨p, ns, k, rfl, hp, q⟩ := h
  refine ⟨_, .inl hp, _, rfl, ?_⟩
  rw [List.length_map]
  by_cases hk : k < ns.length
  · refine iteT (decide_eq_true (by omega)) ?_
    refine ⟨_, .int ns[k], .inl hp, atI_nat ?_, q _⟩
    rw [List.getElem?_map, List.getElem?_eq_getElem hk]
    rfl
  · refine iteF (decide_eq_false (by omega)) ?_
    exact ⟨.inl (by decide), q _⟩
def sp__law_box : Sp := fun vs H Q _ => ∃ i : Int, vs = [.int i] ∧ ∀ l, H l = none → ∀ H', Same H H' → BoxB H' l 0 → Q (.ref l) H'
theorem r__law_box {vs : List V} {H : Hp} {Q : VK} {E : XK} (h : sp__law_box vs H Q E) : t__law_box K E (endsR Q) (start n__law_box vs) H := by
  obtain ⟨i, rfl, q⟩ := h
  refine ⟨⟨by decide, by decide, by decide⟩, (by decide : (0 : Int) < 2147483629), sz rfl, fun l hl => q l hl _ (Same.new hl) ⟨_, _, _, upd_same, ?_, Int.emod_nonneg _ (by decide), Int.emod_lt_of_pos _ (by decide), by decide, by decide⟩⟩
  split <;> omega
def sp__law_take : Sp := fun vs H Q _ => ∃ (b : Addr) (m : Int) (n : Nat), vs = [.ref b, .int m] ∧ 0 < m ∧ m < 1073741824 ∧ BoxB H b n ∧ n ≤ 1000000 ∧ ∀ (d : Int) H', 0 ≤ d → d < m → SameX (Xb b) H H' → BoxB H' b (n + 1) → Q (.int d) H'
theorem sx_upd {b : Addr} {H H' : Hp} {o : HO} (h : SameX (Xb b) H H') : SameX (Xb b) H (upd H' b o) := fun a u n e => by
  rw [upd_ne n]
  exact h a u n e
theorem r__law_take {vs : List V} {H : Hp} {Q : VK} {E : XK} (h : sp__law_take vs H Q E) : t__law_take K E (endsR Q) (start n__law_take vs) H := by
  obtain ⟨b, m, n, rfl, hm, hm2, ⟨b0, b1, b2, hb, h0, h1, h1', h2, h2'⟩, hn, q⟩ := h
  have hs : Sq K H b [.int b0, .int b1, .int b2] := .inl (.inl (.inl hb))
  refine ⟨_, .int b0, hs, rfl, _, rfl, ?_⟩
  by_cases hp : 0 < b0
  · refine iteT (decide_eq_true hp) ?_
    refine ⟨_, .int b0, hs, rfl, hm, ?_⟩
    refine ⟨_, .int b0, hs, rfl, ⟨hm, hm2⟩, .inl ⟨_, 0, hb, rfl, ?_⟩⟩
    refine q (b0 % m) _ (Int.emod_nonneg _ (by omega)) (Int.emod_lt_of_pos _ hm) (sx_upd (SameX.refl H)) ⟨_, b1, b2, upd_same, Int.ediv_nonneg h0 (by omega), h1, h1', h2, by omega⟩
  · refine iteF (decide_eq_false hp) ?_
    refine ⟨_, .int b2, hs, rfl, .inl ⟨_, 2, hb, rfl, ?_⟩⟩
    have hs2 : Sq K (upd H b (.lst [.int b0, .int b1, .int (b2 + 1)])) b [.int b0, .int b1, .int (b2 + 1)] := .inl (.inl (.inl upd_same))
    refine ⟨_, .int b1, hs2, rfl, _, .int (b2 + 1), hs2, rfl, .inl (by decide), ⟨by decide, by decide, by show (b1 + 7919 * (b2 + 1) + 76).natAbs < 2 ^ 64; omega⟩, (by decide : (0 : Int) < 2147483647), ?_⟩
    refine ⟨(by decide : (0 : Int) < 8 ∧ (8 : Int) < 1073741824), _, .int (b2 + 1), hs2, rfl, .inl (by decide), ⟨by decide, by decide, ?_⟩, (by decide : (0 : Int) < 2147483629), ?_⟩
    · show ((b1 + 7919 * (b2 + 1) + 76) ^ 5 % 2147483647 / 8 + 104729 * (b2 + 1) + 3).natAbs < 2 ^ 64
      have g1 : 0 ≤ (b1 + 7919 * (b2 + 1) + 76) ^ 5 % 2147483647 := Int.emod_nonneg _ (by decide)
      have g2 : (b1 + 7919 * (b2 + 1) + 76) ^ 5 % 2147483647 < 2147483647 := Int.emod_lt_of_pos _ (by decide)
      generalize (b1 + 7919 * (b2 + 1) + 76) ^ 5 % 2147483647 = one at g1 g2 ⊢
      omega
    refine ⟨(by decide : (0 : Int) < 4 ∧ (4 : Int) < 1073741824), (by decide : (0 : Int) < 4 ∧ (4 : Int) < 1073741824), .inl (by decide), hm, ?_⟩
    exact q _ _ (Int.emod_nonneg _ (by omega)) (Int.emod_lt_of_pos _ hm) (sx_upd (SameX.refl H)) ⟨b0, b1, b2 + 1, upd_same, h0, h1, h1', by omega, by omega⟩
end K76
/-! readings: drawn names -/
namespace K76
open PySem PySem.Spec PyProof.Rows L2 SX
open He (ga ma fAd)
variable {K : PySem.W.Frag}
theorem lets_list : lets.cps.toList = (List.range 26).map (· + 97) := by decide +kernel
def words : Str := "begin ports channel breaker ship a ab abc none port train hour ice"
def wordL : List Str := ["begin", "ports", "channel", "breaker", "ship", "a", "ab", "abc", "none", "port", "train", "hour", "ice"]
theorem words_split : Txt.split words " " = wordL := by decide +kernel
def Nm (l : List Nat) : Str := ⟨l.toArray⟩
theorem Nm_inj {l m : List Nat} (h : Nm l = Nm m) : l = m := by
  have := congrArg (fun z : Str => z.cps.toList) h
  simpa [Nm] using this
theorem Nm_app (l m : List Nat) : Nm l ++ Nm m = Nm (l ++ m) := by
  show (⟨(Nm l).cps ++ (Nm m).cps⟩ : Str) = _
  unfold Nm
  congr 1
  simp
theorem Nm_cut (l : List Nat) (lo hi : Option Int) : cutS (Nm l) lo hi = Nm ((l.drop (HT.sIx l.length 0 lo)).take (HT.sIx l.length l.length hi - HT.sIx l.length 0 lo)) := by
  unfold cutS
  have : (Nm l).length = l.length := by
    show l.toArray.size = _
    simp
  rw [this]
  rfl
theorem Nm_len (l : List Nat) : (Nm l).length = l.length := by
  show l.toArray.size = _
  simp
def Let (c : Nat) : Prop := c ∈ lets.cps.toList
theorem Nm_name {l : List Nat} (h1 : 1 ≤ l.length) (h2 : l.length ≤ 8) (h3 : ∀ c ∈ l, Let c) : IsName (Nm l) := by
  show (decide (1 ≤ (Nm l).length) && (decide ((Nm l).length ≤ 8) && (Nm l).cps.toList.all fun c => decide (c ∈ lets.cps.toList))) = true
  rw [Nm_len, decide_eq_true h1, decide_eq_true h2]
  simp only [Bool.true_and, List.all_eq_true, decide_eq_true_eq]
  intro c hc
  exact h3 c (by simpa [Nm] using hc)
theorem let_at {j : Int} (h0 : 0 ≤ j) (h : j < 26) : atI lets.cps.toList j = some (j.toNat + 97) ∧ Let (j.toNat + 97) := by
  obtain ⟨n, rfl⟩ := Int.eq_ofNat_of_zero_le h0
  have hn : n < 26 := by omega
  have e : lets.cps.toList[n]? = some (n + 97) := by
    rw [lets_list, List.getElem?_map, List.getElem?_range hn]
    rfl
  exact ⟨atI_nat e, List.mem_of_getElem? e⟩
theorem step_at {d : Int} (h0 : 0 ≤ d) (h : d < 6) : ∃ s : Int, (s = 1 ∨ s = 3 ∨ s = 5 ∨ s = 7 ∨ s = 9 ∨ s = 11) ∧ atI [V.int 1, V.int 3, V.int 5, V.int 7, V.int 9, V.int 11] d = some (.int s) := by
  have : d = 0 ∨ d = 1 ∨ d = 2 ∨ d = 3 ∨ d = 4 ∨ d = 5 := by omega
  rcases this with rfl | rfl | rfl | rfl | rfl | rfl
  · exact ⟨1, by simp, rfl⟩
  · exact ⟨3, by simp, rfl⟩
  · exact ⟨5, by simp, rfl⟩
  · exact ⟨7, by simp, rfl⟩
  · exact ⟨9, by simp, rfl⟩
  · exact ⟨11, by simp, rfl⟩
theorem step13 {f s : Int} (hs : s = 1 ∨ s = 3 ∨ s = 5 ∨ s = 7 ∨ s = 9 ∨ s = 11) {i j : Nat} (hi : i < 13) (hj : j < 13) (e : (f + s * i) % 13 = (f + s * j) % 13) : i = j := by
  rcases hs with rfl | rfl | rfl | rfl | rfl | rfl <;> omega
theorem step26 {f s : Int} (hs : s = 1 ∨ s = 3 ∨ s = 5 ∨ s = 7 ∨ s = 9 ∨ s = 11) {i j : Nat} (hi : i < 13) (hj : j < 13) (e : (f + s * i) % 26 = (f + s * j) % 26) : i = j := by
  rcases hs with rfl | rfl | rfl | rfl | rfl | rfl <;> omega
theorem nodup_by {α : Type} {n : Nat} {f : Nat → α} (h : ∀ i j, i < n → j < n → f i = f j → i = j) : ((List.range n).map f).Nodup := by
  show List.Pairwise (· ≠ ·) _
  rw [List.pairwise_map]
  refine (List.pairwise_lt_range (n := n)).imp_of_mem fun {a b} ha hb lt e => ?_
  have := h a b (List.mem_range.mp ha) (List.mem_range.mp hb) e
  omega
/-- m names, unlike -/
def Names (m : Nat) (zs : List Str) : Prop := zs.length = m ∧ (∀ z ∈ zs, IsName z) ∧ zs.Nodup
theorem names_by {n : Nat} {f : Nat → Str} (h : ∀ i, i < n → IsName (f i)) (h2 : ∀ i j, i < n → j < n → f i = f j → i = j) : Names n ((List.range n).map f) := by
  refine ⟨by rw [List.length_map, List.length_range], fun z hz => ?_, nodup_by h2⟩
  obtain ⟨i, hi, rfl⟩ := List.mem_map.mp hz
  exact h i (List.mem_range.mp hi)
theorem Names.perm {n : Nat} {zs ws : List Str} (h : Names n zs) (p : ws.Perm zs) : Names n ws := ⟨p.length_eq.trans h.1, fun z hz => h.2.1 z (p.mem_iff.mp hz), p.nodup_iff.mpr h.2.2⟩
theorem wordL_ok : ∀ i, i < 13 → IsName (wordL.getD i "") := by
  unfold IsName
  decide +kernel
theorem wordL_inj : ∀ i, i < 13 → ∀ j, j < 13 → wordL.getD i "" = wordL.getD j "" → i = j := by decide +kernel
def sp__law_names (K : PySem.W.Frag) : Sp := fun vs H Q _ => ∃ (b : Addr) (m n : Nat), vs = [.ref b, .int m] ∧ m ≤ 13 ∧ BoxB H b n ∧ n ≤ 900000 ∧ ∀ l H' zs, Names m zs → SameX (Xb b) H H' → BoxB H' b (n + 13) → l ≠ b → H' l = some (.lst (zs.map V.str)) → Q (.ref l) H'
theorem upto_strs {n : Nat} {f : Nat → Str} : upto n (fun i => V.str (f i)) = ((List.range n).map f).map V.str := by
  unfold upto
  rw [List.map_map]
  rfl
theorem join_one : ∀ cs : List Nat, Txt.join "" (cs.map fun c => Nm [c]) = Nm cs := by
  intro cs
  show Builtin.Str.glued "" _ = _
  rw [PySem.StrLaws.glued_eq_join]
  induction cs with
  | nil => rfl
  | cons c cs ih =>
    cases cs with
    | nil => rfl
    | cons d ds =>
      show Nm [c] ++ "" ++ Str.join "" ((d :: ds).map fun c => Nm [c]) = _
      rw [ih]
      have e : Nm [c] ++ ("" : Str) = Nm [c] := by
        show Nm [c] ++ Nm [] = _
        rw [Nm_app]
        rfl
      rw [e, Nm_app]
      rfl
theorem stem_of {ys : List V} {n : Nat} {xs : List V} (hn : xs.length = n) (pr : Paired (fun y (_ : V) => ∃ c, Let c ∧ y = .str (Nm [c])) ys xs) : ∃ cs : List Nat, cs.length = n ∧ (∀ c ∈ cs, Let c) ∧ ys = (cs.map fun c => Nm [c]).map V.str := by
  subst hn
  induction pr with
  | nil => exact ⟨[], rfl, (fun _ h => by cases h), rfl⟩
  | cons h _ ih =>
    obtain ⟨c, hc, rfl⟩ := h
    obtain ⟨cs, h1, h2, h3⟩ := ih
    refine ⟨c :: cs, by simp [h1], fun d hd => ?_, by rw [h3]; rfl⟩
    rcases List.mem_cons.mp hd with rfl | hd
    · exact hc
    · exact h2 d hd
theorem sum_one (cs : List Nat) : ((cs.map fun c => Nm [c]).map (·.length)).sum = cs.length := by
  induction cs with
  | nil => rfl
  | cons c cs ih =>
    rw [List.map_cons, List.map_cons, List.sum_cons, ih, List.length_cons, Nm_len]
    simp
    omega
end K76
/-! readings: drawn names, the walk of their def -/
namespace K76
open PySem PySem.Spec PyProof.Rows L2 SX
open He (ga ma fAd)
variable {K : PySem.W.Frag}
theorem cut_drop {zs : List Str} {k : Nat} (h : k ≤ zs.length) : cutV (zs.map V.str) (some (k : Int)) none = (zs.drop k).map V.str := by
  unfold cutV
  rw [HT.sIx_nat, HT.sIx_none, List.length_map, Nat.min_eq_left h, ← List.map_drop, List.take_of_length_le (by rw [List.length_map, List.length_drop]; omega)]
theorem cut_take {zs : List Str} {k : Nat} (h : k ≤ zs.length) : cutV (zs.map V.str) none (some (k : Int)) = (zs.take k).map V.str := by
  unfold cutV
  rw [HT.sIx_nat, HT.sIx_none, List.length_map, Nat.min_eq_left h, Nat.sub_zero, List.drop_zero, ← List.map_take]
theorem ne_box {H : Hp} {b l : Addr} {n : Nat} (h : BoxB H b n) (hl : H l = none) : l ≠ b := fun z => by
  obtain ⟨_, _, _, h1, _⟩ := h
  rw [z, h1] at hl
  cases hl
theorem box_some {H : Hp} {b : Addr} {n : Nat} (h : BoxB H b n) : H b ≠ none := fun z => by
  obtain ⟨_, _, _, h1, _⟩ := h
  rw [h1] at z
  cases z
theorem mulS {s : Int} (hs : s = 1 ∨ s = 3 ∨ s = 5 ∨ s = 7 ∨ s = 9 ∨ s = 11) {i : Int} : CMul s i := .inl (by omega)
/-- letters[(f + ..) % 26] -/
theorem at_let {σ : L2.St} {H : Hp} {Q : VK} {t : TE} {j : Int} (hσ : σ[2]? = some (some (.str lets))) (h0 : 0 ≤ j) (h : j < 26) (ht : ∀ R : VK, R (.int j) H → t σ H R) (q : Q (.str (Nm [j.toNat + 97])) H) : tOp (mIx K) (mV 2) t σ H Q := by
  unfold tOp mV
  simp only [hσ]
  exact ht _ ⟨by decide +kernel, _, (let_at h0 h).1, q⟩
theorem r__law_names {vs : List V} {H : Hp} {Q : VK} {E : XK} (h : sp__law_names K vs H Q E) : t__law_names K sp__law_take E (endsR Q) (start n__law_names vs) H := by
  obtain ⟨b, m, n, rfl, hm, hB, hn, q⟩ := h
  refine ⟨b, 3, n, rfl, by decide, by decide, hB, by omega, fun way H1 w0 w1 e1 B1 => ⟨b, 26, n + 1, rfl, by decide, by decide, B1, by omega, fun first H2 f0 f1 e2 B2 => ?_⟩⟩
  refine ⟨sz rfl, fun p0 hp0 => ⟨b, 6, n + 2, rfl, by decide, by decide, B2.same (Same.new hp0), by omega, fun d H3 d0 d1 e3 B3 => ?_⟩⟩
  have np0 := ne_box B2 hp0
  obtain ⟨s, hs, hd⟩ := step_at d0 d1
  refine ⟨_, .int s, .inl (.inl (.inl (e3 _ _ np0 upd_same))), hd, ?_⟩
  have k3 : SameX (Xb b) H H3 := ((e1.trans e2).trans (SameX.of (Same.new hp0))).trans e3
  have B3 : BoxB H3 b (n + 3) := B3
  refine ⟨_, rfl, ?_⟩
  by_cases hw0 : way = 0
  · refine iteT (by rw [decide_eq_true hw0]; rfl) ?_
    refine ⟨⟨_, rfl⟩, rfl, (by decide +kernel : words.length + 2 ≤ sizeLine), fun p1 hp1 => ?_⟩
    rw [show Txt.split "begin ports channel breaker ship a ab abc none port train hour ice" " " = wordL from words_split]
    have e4 := Same.new (o := .lst (wordL.map V.str)) hp1
    refine ⟨(m : Int), rfl, by omega, by omega, ?_⟩
    refine lc_pure wk_range (fun _ => true) (fun i => V.str (wordL.getD ((first + s * i) % 13).toNat "")) (by rw [rangeV_len]; omega) (fun _ _ => True.intro) (fun i x H' Q' R' hx e qy _ => ?_) fun D H5 hD e5 h5 => ?_
    · obtain ⟨hi, hx⟩ := rangeV_get hx
      rw [Int.zero_add] at hx
      subst hx
      refine ⟨rfl, mulS hs, (by decide : (0 : Int) < 13), _, _, .inl (.inl (.inl (e _ _ upd_same))), ?_, qy rfl H' (Same.refl _)⟩
      show atI (wordL.map V.str) ((first + s * (i : Int)) % 13) = _
      have g0 : 0 ≤ (first + s * (i : Int)) % 13 := Int.emod_nonneg _ (by decide)
      have g1 : (first + s * (i : Int)) % 13 < 13 := Int.emod_lt_of_pos _ (by decide)
      generalize (first + s * (i : Int)) % 13 = j at g0 g1 ⊢
      obtain ⟨k, rfl⟩ := Int.eq_ofNat_of_zero_le g0
      have hk : k < wordL.length := by show k < 13; omega
      refine atI_nat ?_
      rw [List.getElem?_map, List.getElem?_eq_getElem hk, Int.toNat_natCast, List.getD_eq_getElem?_getD, List.getElem?_eq_getElem hk]
      rfl
    · have nm : Names m ((List.range m).map fun i : Nat => wordL.getD ((first + s * (i : Int)) % 13).toNat "") := by
        refine names_by (fun i hi => wordL_ok _ ?_) fun i j hi hj e => ?_
        · have g0 : 0 ≤ (first + s * (i : Int)) % 13 := Int.emod_nonneg _ (by decide)
          have g1 : (first + s * (i : Int)) % 13 < 13 := Int.emod_lt_of_pos _ (by decide)
          omega
        · have g0 : 0 ≤ (first + s * (i : Int)) % 13 := Int.emod_nonneg _ (by decide)
          have g1 : (first + s * (i : Int)) % 13 < 13 := Int.emod_lt_of_pos _ (by decide)
          have g2 : 0 ≤ (first + s * (j : Int)) % 13 := Int.emod_nonneg _ (by decide)
          have g3 : (first + s * (j : Int)) % 13 < 13 := Int.emod_lt_of_pos _ (by decide)
          have := wordL_inj _ (by omega) _ (by omega) e
          exact step13 (f := first) hs (by omega) (by omega) (by omega)
      refine q D H5 _ nm (k3.trans (SameX.of (e4.trans e5))) ((B3.same (e4.trans e5)).le (by omega)) (ne_box (B3.same e4) hD) ?_
      rw [h5, given_all, upto_strs, rangeV_len]
      rfl
  refine iteF (by rw [decide_eq_false hw0]; rfl) ?_
  refine ⟨⟨_, rfl⟩, 7, rfl, by decide, by decide, ?_⟩
  refine lc_new (α := V) (Xb b) (fun i H => BoxB H b (n + 3 + i)) (fun _ y _ => ∃ c, Let c ∧ y = .str (Nm [c])) (rangeV 0 7) wk_range rfl (by decide) (fun D hD => by rw [hD]; exact box_some B3) B3 (fun i H1 H2 hb he => hb.at_ (he b rfl)) (fun _ _ _ _ h _ => h) (fun _ _ => True.intro) (fun i x c H' Q' hx hc e Bi q' => ?_) fun D H4 ys hD e4 B4 h4 pr => ?_
  · have hi := (List.getElem?_eq_some_iff.mp hx).1
    have hi : i < 7 := hi
    refine ⟨rfl, b, 26, n + 3 + i, rfl, by decide, by decide, Bi, by omega, fun d H'' d0 d1 e2 B2 => ⟨by decide +kernel, _, (let_at d0 d1).1, ?_⟩⟩
    exact q' _ H'' e2 (B2.le (by omega)) ⟨_, (let_at d0 d1).2, rfl⟩
  obtain ⟨cs, lc, hc, rfl⟩ := stem_of (n := 7) rfl pr
  have B4 : BoxB H4 b (n + 10) := B4
  have k4 := k3.trans e4
  refine ⟨cs.map fun c => Nm [c], .inl (.inl (.inl h4)), by rw [sum_one, lc]; show 7 + _ * 0 ≤ 16777216; omega, ?_⟩
  rw [join_one]
  refine ⟨_, rfl, ?_⟩
  by_cases hw1 : way = 1
  · refine iteT (by rw [decide_eq_true hw1]; rfl) ?_
    refine ⟨(m : Int), rfl, by omega, by omega, ?_⟩
    refine lc_pure wk_range (fun _ => true) (fun i => V.str (Nm ((((first + (i : Int) / 8) % 26).toNat + 97) :: cs.take (i % 8)))) (by rw [rangeV_len]; omega) (fun _ _ => True.intro) (fun i x H' Q' R' hx e qy _ => ?_) fun D1 H5 hD1 e5 h5 => ?_
    · obtain ⟨hi, hx⟩ := rangeV_get hx
      rw [Int.zero_add] at hx
      subst hx
      refine ⟨rfl, (by decide : (0 : Int) < 8 ∧ (8 : Int) < 1073741824), (by decide : (0 : Int) < 26), by decide +kernel, _, (let_at (Int.emod_nonneg _ (by decide)) (Int.emod_lt_of_pos _ (by decide))).1, (by decide : (0 : Int) < 8), _, rfl, ?_, ?_, ?_⟩
      · rw [Nm_len, lc]
        decide
      · rw [Nm_cut]
        refine len_ok ?_
        show (Nm [_]).length + (Nm _).length ≤ _
        rw [Nm_len, Nm_len, List.length_take, List.length_drop, lc]
        show 1 + _ ≤ _
        omega
      · rw [Nm_cut, HT.sIx_none]
        show Q' (.str (Nm [_] ++ _)) H'
        rw [Nm_app]
        have := qy rfl H' (Same.refl _)
        have em : ((i : Int) % 8) = ((i % 8 : Nat) : Int) := by omega
        show Q' (.str (Nm ([((first + (i : Int) / 8) % 26).toNat + 97] ++ List.take (HT.sIx cs.length cs.length (some ((i : Int) % 8)) - 0) (List.drop 0 cs)))) H'
        rw [em, HT.sIx_nat, lc, Nat.min_eq_left (by omega), List.drop_zero, Nat.sub_zero]
        exact this
    have nm : Names m ((List.range m).map fun i : Nat => Nm ((((first + (i : Int) / 8) % 26).toNat + 97) :: cs.take (i % 8))) := by
      refine names_by (fun i hi => Nm_name (by simp) (by rw [List.length_cons, List.length_take]; omega) fun c h => ?_) fun i j hi hj e => ?_
      · rcases List.mem_cons.mp h with rfl | h
        · exact (let_at (Int.emod_nonneg _ (by decide)) (Int.emod_lt_of_pos _ (by decide))).2
        · exact hc c (List.mem_of_mem_take h)
      · have e := Nm_inj e
        have e1 := congrArg List.length e
        rw [List.length_cons, List.length_cons, List.length_take, List.length_take, lc] at e1
        have e2 : ((first + (i : Int) / 8) % 26).toNat + 97 = ((first + (j : Int) / 8) % 26).toNat + 97 := (List.cons.inj e).1
        have g0 : 0 ≤ (first + (i : Int) / 8) % 26 := Int.emod_nonneg _ (by decide)
        have g2 : 0 ≤ (first + (j : Int) / 8) % 26 := Int.emod_nonneg _ (by decide)
        omega
    generalize hz : ((List.range m).map fun i : Nat => Nm ((((first + (i : Int) / 8) % 26).toNat + 97) :: cs.take (i % 8))) = zs at nm
    have h5 : H5 D1 = some (.lst (zs.map V.str)) := by
      rw [h5, given_all, upto_strs, rangeV_len, ← hz]
      rfl
    have B5 := B4.same e5
    refine ⟨b, (m : Int) + 1, n + 10, rfl, by omega, by omega, B5, by omega, fun at_ H6 a0 a1 e6 B6 => ?_⟩
    have nD1 := ne_box B4 hD1
    have h6 := e6 _ _ nD1 h5
    obtain ⟨k, rfl⟩ := Int.eq_ofNat_of_zero_le a0
    have hk : k ≤ zs.length := by rw [nm.1]; omega
    refine ⟨k, rfl, .inl ⟨_, .inl (.inl h6), fun p1 hp1 => ?_⟩⟩
    have e7 := Same.new (o := .lst (cutV (zs.map V.str) (some (k : Int)) none)) hp1
    refine ⟨k, rfl, .inl ⟨_, .inl (.inl (e7 _ _ h6)), fun p2 hp2 => ?_⟩⟩
    have e8 := Same.new (o := .lst (cutV (zs.map V.str) none (some (k : Int)))) hp2
    refine ⟨p2, _, rfl, .inl (.inl upd_same), fun p3 hp3 => ?_⟩
    have e9 := Same.new (o := .lst (cutV (zs.map V.str) none (some (k : Int))).reverse) hp3
    refine .inr ⟨_, _, e9 _ _ (e8 _ _ upd_same), upd_same, ?_, fun p4 hp4 => ?_⟩
    · rw [cut_drop hk, cut_take hk, List.length_map, List.length_reverse, List.length_map, List.length_drop, List.length_take]
      exact len_ok (by have := nm.1; omega)
    · have e10 := Same.new (o := .lst (cutV (zs.map V.str) (some (k : Int)) none ++ (cutV (zs.map V.str) none (some (k : Int))).reverse)) hp4
      have pm : (zs.drop k ++ (zs.take k).reverse).Perm zs := ((List.Perm.append_left _ (List.reverse_perm _)).trans List.perm_append_comm).trans (by rw [List.take_append_drop])
      have B10 := B6.same (((e7.trans e8).trans e9))
      refine q p4 _ _ (nm.perm pm) (((k4.trans (SameX.of e5)).trans e6).trans (SameX.of (((e7.trans e8).trans e9).trans e10))) ((B10.same e10).le (by omega)) (ne_box B10 hp4) ?_
      rw [upd_same, cut_drop hk, cut_take hk, ← List.map_reverse, ← List.map_append]
  refine iteF (by rw [decide_eq_false hw1]; rfl) ?_
  refine ⟨b, 8, n + 10, rfl, by decide, by decide, B4, by omega, fun at_ H5 a0 a1 e5 B5 => ⟨b, 8, n + 11, rfl, by decide, by decide, B5, by omega, fun lg H6 l0 l1 e6 B6 => ?_⟩⟩
  have B6 : BoxB H6 b (n + 12) := B6
  generalize hlong : (if lg > at_ then lg else at_) = long
  have hl1 : at_ ≤ long := by
    rw [← hlong]
    split <;> omega
  have hl2 : long < 8 := by
    rw [← hlong]
    split <;> omega
  obtain ⟨a, rfl⟩ := Int.eq_ofNat_of_zero_le a0
  obtain ⟨g, rfl⟩ := Int.eq_ofNat_of_zero_le (show 0 ≤ long by omega)
  have ha : a ≤ cs.length := by omega
  have hg : g ≤ cs.length := by omega
  refine ⟨(m : Int), rfl, by omega, by omega, ?_⟩
  refine lc_pure wk_range (fun _ => true) (fun i => V.str (Nm (cs.take a ++ [((first + s * (i : Int)) % 26).toNat + 97] ++ (cs.drop a).take (g - a)))) (by rw [rangeV_len]; omega) (fun _ _ => True.intro) (fun i x H' Q' R' hx e qy _ => ?_) fun D1 H7 hD1 e7 h7 => ?_
  · obtain ⟨hi, hx⟩ := rangeV_get hx
    rw [Int.zero_add] at hx
    subst hx
    have qy := qy rfl H' (Same.refl _)
    refine ⟨rfl, _, rfl, by rw [Nm_len, lc]; decide, mulS hs, (by decide : (0 : Int) < 26), by decide +kernel, _, (let_at (Int.emod_nonneg _ (by decide)) (Int.emod_lt_of_pos _ (by decide))).1, ?_, ?_⟩
    · rw [Nm_cut]
      refine len_ok ?_
      show (Nm _).length + (Nm [_]).length ≤ _
      rw [Nm_len, Nm_len, List.length_take, List.length_drop, lc]
      show _ + 1 ≤ _
      omega
    refine ⟨_, rfl, (g : Int), congrArg V.int hlong, by rw [Nm_len, lc]; decide, ?_⟩
    refine ⟨?_, ?_⟩
    · rw [Nm_cut, Nm_cut]
      refine len_ok ?_
      show (Nm _ ++ Nm [_]).length + _ ≤ _
      rw [Nm_app, Nm_len, Nm_len, List.length_append, List.length_take, List.length_drop, List.length_take, List.length_drop, lc]
      show _ + 1 + _ ≤ _
      omega
    · rw [Nm_cut, Nm_cut]
      show Q' (.str (Nm _ ++ Nm [((first + s * (i : Int)) % 26).toNat + 97] ++ Nm _)) H'
      rw [Nm_app, Nm_app, HT.sIx_none, HT.sIx_nat, HT.sIx_nat, HT.sIx_nat, Nat.min_eq_left ha, Nat.min_eq_left hg, List.drop_zero, Nat.sub_zero]
      exact qy
  · have nm : Names m ((List.range m).map fun i : Nat => Nm (cs.take a ++ [((first + s * (i : Int)) % 26).toNat + 97] ++ (cs.drop a).take (g - a))) := by
      refine names_by (fun i hi => Nm_name (by rw [List.length_append, List.length_append]; simp only [List.length_cons, List.length_nil]; omega) ?_ fun c h => ?_) fun i j hi hj e => ?_
      · rw [List.length_append, List.length_append, List.length_take, List.length_take, List.length_drop]
        simp only [List.length_cons, List.length_nil]
        omega
      · rcases List.mem_append.mp h with h | h
        · rcases List.mem_append.mp h with h | h
          · exact hc c (List.mem_of_mem_take h)
          · simp only [List.mem_cons, List.not_mem_nil, or_false] at h
            subst h
            exact (let_at (Int.emod_nonneg _ (by decide)) (Int.emod_lt_of_pos _ (by decide))).2
        · exact hc c (List.mem_of_mem_drop (List.mem_of_mem_take h))
      · have e := Nm_inj e
        have e1 := List.append_cancel_right e
        have e2 := List.append_cancel_left e1
        have e3 := (List.cons.inj e2).1
        have g0 : 0 ≤ (first + s * (i : Int)) % 26 := Int.emod_nonneg _ (by decide)
        have g2 : 0 ≤ (first + s * (j : Int)) % 26 := Int.emod_nonneg _ (by decide)
        exact step26 (f := first) hs (by omega) (by omega) (by omega)
    refine q D1 H7 _ nm (((k4.trans e5).trans e6).trans (SameX.of e7)) ((B6.same e7).le (by omega)) (ne_box B6 hD1) ?_
    rw [h7, given_all, upto_strs, rangeV_len]
    rfl
end K76
/-! readings: drawn numbers, rows, worlds -/
namespace K76
open PySem PySem.Spec PyProof.Rows L2 SX
open He (ga ma fAd)
variable {K : PySem.W.Frag}
def sp__law_number : Sp := fun vs H Q _ => ∃ (b : Addr) (lo hi : Int) (n : Nat), vs = [.ref b, .int lo, .int hi] ∧ lo ≤ hi ∧ hi - lo ≤ 2000000 ∧ BoxB H b n ∧ n ≤ 900000 ∧ ∀ (i : Int) H', lo ≤ i → i ≤ hi → SameX (Xb b) H H' → BoxB H' b (n + 2) → Q (.int i) H'
theorem r__law_number {vs : List V} {H : Hp} {Q : VK} {E : XK} (h : sp__law_number vs H Q E) : t__law_number K sp__law_take E (endsR Q) (start n__law_number vs) H := by
  obtain ⟨b, lo, hi, n, rfl, h1, h2, hB, hn, q⟩ := h
  refine ⟨b, 5, n, rfl, by decide, by decide, hB, by omega, fun way H1 w0 w1 e1 B1 => ⟨b, hi - lo + 1, n + 1, rfl, by omega, by omega, B1, by omega, fun d H2 d0 d1 e2 B2 => ?_⟩⟩
  refine ⟨(by decide : (0 : Int) < 20), (by omega : (0 : Int) < hi - lo + 1), sz rfl, fun p hp => ?_⟩
  have e3 := Same.new (o := .lst [.int lo, .int hi, .int (lo + d), .int (lo + d), .int (lo + (lo + d - lo) % 20 % (hi - lo + 1))]) hp
  have m0 : 0 ≤ (lo + d - lo) % 20 % (hi - lo + 1) := Int.emod_nonneg _ (by omega)
  have m1 : (lo + d - lo) % 20 % (hi - lo + 1) < hi - lo + 1 := Int.emod_lt_of_pos _ (by omega)
  have fin : ∀ i : Int, lo ≤ i → i ≤ hi → atI [V.int lo, .int hi, .int (lo + d), .int (lo + d), .int (lo + (lo + d - lo) % 20 % (hi - lo + 1))] way = some (.int i) → mIx K (.ref p) (.int way) (upd H2 p (.lst [.int lo, .int hi, .int (lo + d), .int (lo + d), .int (lo + (lo + d - lo) % 20 % (hi - lo + 1))])) Q := fun i i0 i1 e => ⟨_, .int i, .inl (.inl (.inl upd_same)), e, q i _ i0 i1 ((e1.trans e2).trans (SameX.of e3)) (B2.same e3)⟩
  have hw : way = 0 ∨ way = 1 ∨ way = 2 ∨ way = 3 ∨ way = 4 := by omega
  rcases hw with rfl | rfl | rfl | rfl | rfl
  · exact fin lo (by omega) (by omega) rfl
  · exact fin hi (by omega) (by omega) rfl
  · exact fin (lo + d) (by omega) (by omega) rfl
  · exact fin (lo + d) (by omega) (by omega) rfl
  · exact fin (lo + (lo + d - lo) % 20 % (hi - lo + 1)) (by omega) (by omega) rfl
theorem p106 : CPow 10 6 := ⟨by decide, by decide, by decide⟩
/-- a list beside the box -/
def LstB (H : Hp) (b l : Addr) (xs : List V) : Prop := l ≠ b ∧ H l = some (.lst xs)
theorem LstB.mono {H H' : Hp} {b l : Addr} {xs : List V} (h : LstB H b l xs) (e : SameX (Xb b) H H') : LstB H' b l xs := ⟨h.1, e _ _ h.1 h.2⟩
theorem LstB.sq {H : Hp} {b l : Addr} {xs : List V} (h : LstB H b l xs) : Sq K H l xs := .inl (.inl (.inl h.2))
/-- a tuple beside the box -/
def TupB (K : PySem.W.Frag) (H : Hp) (b a : Addr) (xs : List V) : Prop := (a ≠ b ∧ Rd H a (.tup xs)) ∨ ∃ (o : Obj) (its : Array Value) (n : Nat), K.lookup a = some o ∧ o.cls = .type "tuple" ∧ o.data = .seq its n ∧ its.size ≤ sizeLine ∧ Vals xs its.toList
theorem TupB.of {H : Hp} {b a : Addr} {n : Nat} {xs : List V} (h : SqT K H a xs) (hB : BoxB H b n) : TupB K H b a xs := by
  rcases h with h | h
  · refine .inl ⟨fun z => ?_, h⟩
    obtain ⟨_, _, _, h1, _⟩ := hB
    subst z
    rcases h with h | ⟨o, h⟩
    · rw [h1] at h
      cases h
    · rw [h1] at h
      cases h
  · exact .inr h
theorem TupB.sq {H : Hp} {b a : Addr} {xs : List V} (h : TupB K H b a xs) : SqT K H a xs := h.elim (fun h => .inl h.2) .inr
theorem TupB.monoN {H H' : Hp} {b a : Addr} {xs : List V} (h : TupB K H b a xs) (e : SameN (Xb b) H H') : TupB K H' b a xs := by
  rcases h with ⟨n, h | ⟨o, h⟩⟩ | h
  · exact .inl ⟨n, .inl (e _ _ n (fun _ z => by cases z) h)⟩
  · exact .inl ⟨n, .inr ⟨o, e _ _ n (fun _ z => by cases z) h⟩⟩
  · exact .inr h
theorem TupB.mono {H H' : Hp} {b a : Addr} {xs : List V} (h : TupB K H b a xs) (e : SameX (Xb b) H H') : TupB K H' b a xs := h.monoN e.n
def sp__law_channel (K : PySem.W.Frag) : Sp := fun vs H Q _ => ∃ (b pl : Addr) (z : Str) (ps : List Str) (n : Nat), vs = [.ref b, .str z, .ref pl] ∧ IsName z ∧ LstB H b pl (ps.map V.str) ∧ (∀ p ∈ ps, IsName p) ∧ ps.Nodup ∧ 2 ≤ ps.length ∧ ps.length ≤ 8 ∧ BoxB H b n ∧ n ≤ 800000 ∧
  ∀ p H' (c : Ch), c.Ok → c.name = z → c.one ∈ ps → c.other ∈ ps → SameX (Xb b) H H' → BoxB H' b (n + 12) → SqT K H' p c.row → Q (.ref p) H'
theorem str_at {ps : List Str} {j : Nat} (h : j < ps.length) : atI (ps.map V.str) (j : Int) = some (.str ps[j]) := atI_nat (by rw [List.getElem?_map, List.getElem?_eq_getElem h]; rfl)
theorem nodup_ix {ps : List Str} (nd : ps.Nodup) {i j : Nat} (hi : i < ps.length) (hj : j < ps.length) (hne : i ≠ j) : ps[i] ≠ ps[j] := by
  have key : ∀ a b (ha : a < ps.length) (hb : b < ps.length), a < b → ps[a] ≠ ps[b] := fun a b ha hb lt => List.pairwise_iff_getElem.mp nd a b ha hb lt
  rcases Nat.lt_or_gt_of_ne hne with h | h
  · exact key i j hi hj h
  · exact (key j i hj hi h).symm
theorem r__law_channel {vs : List V} {H : Hp} {Q : VK} {E : XK} (h : sp__law_channel K vs H Q E) : t__law_channel K sp__law_take sp__law_number E (endsR Q) (start n__law_channel vs) H := by
  obtain ⟨b, pl, z, ps, n, rfl, hz, hl, hps, nd, l2, l8, hB, hn, q⟩ := h
  refine ⟨_, hl.sq, ?_⟩
  rw [List.length_map]
  refine ⟨b, (ps.length : Nat), n, rfl, by omega, by omega, hB, by omega, fun at_ H1 a0 a1 e1 B1 => ?_⟩
  have hl1 := hl.mono e1
  refine ⟨_, hl1.sq, ?_⟩
  rw [List.length_map]
  refine ⟨b, ((ps.length : Nat) : Int) - 1, n + 1, rfl, by omega, by omega, B1, by omega, fun d H2 d0 d1 e2 B2 => ?_⟩
  have hl2 := hl1.mono e2
  refine ⟨_, hl2.sq, ?_⟩
  rw [List.length_map]
  refine ⟨(by omega : (0 : Int) < (ps.length : Nat)), p106, ?_⟩
  have o0 : 0 ≤ (at_ + 1 + d) % ((ps.length : Nat) : Int) := Int.emod_nonneg _ (by omega)
  have o1 : (at_ + 1 + d) % ((ps.length : Nat) : Int) < (ps.length : Nat) := Int.emod_lt_of_pos _ (by omega)
  have o2 : (at_ + 1 + d) % ((ps.length : Nat) : Int) ≠ at_ := by
    by_cases h : at_ + 1 + d < (ps.length : Nat)
    · rw [Int.emod_eq_of_lt (by omega) h]
      omega
    · have e : (at_ + 1 + d) % ((ps.length : Nat) : Int) = at_ + 1 + d - (ps.length : Nat) := by
        rw [← Int.sub_emod_right, Int.emod_eq_of_lt (by omega) (by omega)]
      rw [e]
      omega
  have B2 : BoxB H2 b (n + 2) := B2
  obtain ⟨ia, rfl⟩ := Int.eq_ofNat_of_zero_le a0
  obtain ⟨io, ho⟩ := Int.eq_ofNat_of_zero_le o0
  have ha : ia < ps.length := by omega
  have hio : io < ps.length := by omega
  refine ⟨b, 0, 1000000, n + 2, rfl, by omega, by omega, B2, by omega, fun first H3 f0 f1 e3 B3 => ?_⟩
  have hl3 := hl2.mono e3
  refine ⟨_, .str ps[ia], hl3.sq, str_at ha, _, .str ps[io], hl3.sq, ?_, ?_⟩
  · show atI (ps.map V.str) (((ia : Int) + 1 + d) % ((ps.length : Nat) : Int)) = _
    rw [ho]
    exact str_at hio
  refine ⟨b, 1, 1000, n + 4, rfl, by omega, by omega, B3, by omega, fun hrs H4 h0 h1 e4 B4 => ⟨b, 0, 1000, n + 6, rfl, by omega, by omega, B4, by omega, fun dep H5 p0 p1 e5 B5 => ⟨sz rfl, fun q1 hq1 => ?_⟩⟩⟩
  have e6 := Same.new (o := .tup [.str z, .str ps[ia], .str ps[io], .int hrs, .int dep, .int first]) hq1
  have B6 : BoxB (upd H5 q1 (.tup [.str z, .str ps[ia], .str ps[io], .int hrs, .int dep, .int first])) b (n + 8) := B5.same e6
  have t6 : TupB K (upd H5 q1 (.tup [.str z, .str ps[ia], .str ps[io], .int hrs, .int dep, .int first])) b q1 [.str z, .str ps[ia], .str ps[io], .int hrs, .int dep, .int first] := .inl ⟨ne_box B5 hq1, .inl upd_same⟩
  refine ⟨b, 0, 1000, n + 8, rfl, by omega, by omega, B6, by omega, fun gr H7 g0 g1 e7 B7 => ⟨p106, b, first, 1000000, n + 10, rfl, by omega, by omega, B7, by omega, fun mo H8 m0 m1 e8 B8 => ⟨sz rfl, fun q2 hq2 => ?_⟩⟩⟩
  have e9 := Same.new (o := .tup [.int gr, .int mo]) hq2
  refine .inl ⟨_, _, sameT e9 ((t6.mono e7).mono e8).sq, .inl (.inl upd_same), sz rfl, fun p H9 e10 hp => ?_⟩
  refine q p H9 ⟨z, ps[ia], ps[io], hrs, dep, first, gr, mo⟩ ⟨hz, hps _ (List.getElem_mem _), hps _ (List.getElem_mem _), nodup_ix nd ha hio (by omega), ⟨h0, h1⟩, ⟨p0, p1⟩, ⟨f0, f1⟩, ⟨g0, g1⟩, ⟨m0, m1⟩⟩ rfl (List.getElem_mem _) (List.getElem_mem _)
    ((((((((e1.trans e2).trans e3).trans e4).trans e5).trans (SameX.of e6)).trans e7).trans e8).trans (SameX.of (e9.trans e10))) ((B8.same (e9.trans e10)).le (by omega)) hp
def sp__law_breaker (K : PySem.W.Frag) : Sp := fun vs H Q _ => ∃ (b pl : Addr) (z : Str) (ps : List Str) (n : Nat), vs = [.ref b, .str z, .ref pl] ∧ IsName z ∧ LstB H b pl (ps.map V.str) ∧ (∀ p ∈ ps, IsName p) ∧ 1 ≤ ps.length ∧ ps.length ≤ 8 ∧ BoxB H b n ∧ n ≤ 800000 ∧
  ∀ p H' (c : Br), c.Ok → c.name = z → c.port ∈ ps → SameX (Xb b) H H' → BoxB H' b (n + 12) → SqT K H' p c.row → Q (.ref p) H'
theorem r__law_breaker {vs : List V} {H : Hp} {Q : VK} {E : XK} (h : sp__law_breaker K vs H Q E) : t__law_breaker K sp__law_number sp__law_take E (endsR Q) (start n__law_breaker vs) H := by
  obtain ⟨b, pl, z, ps, n, rfl, hz, hl, hps, l1, l8, hB, hn, q⟩ := h
  refine ⟨_, hl.sq, ?_⟩
  rw [List.length_map]
  refine ⟨b, (ps.length : Nat), n, rfl, by omega, by omega, hB, by omega, fun at_ H1 a0 a1 e1 B1 => ?_⟩
  obtain ⟨ia, rfl⟩ := Int.eq_ofNat_of_zero_le a0
  have ha : ia < ps.length := by omega
  refine ⟨_, .str ps[ia], (hl.mono e1).sq, str_at ha, p106, b, 0, 1000000, n + 1, rfl, by omega, by omega, B1, by omega, fun hr H2 h0 h1 e2 B2 => ⟨p106, b, 0, 1000000, n + 3, rfl, by omega, by omega, B2, by omega, fun st H3 s0 s1 e3 B3 => ⟨sz rfl, fun q1 hq1 => ?_⟩⟩⟩
  have e6 := Same.new (o := .tup [.str z, .str ps[ia], .int hr, .int st]) hq1
  have B6 : BoxB (upd H3 q1 (.tup [.str z, .str ps[ia], .int hr, .int st])) b (n + 5) := B3.same e6
  have t6 : TupB K (upd H3 q1 (.tup [.str z, .str ps[ia], .int hr, .int st])) b q1 [.str z, .str ps[ia], .int hr, .int st] := .inl ⟨ne_box B3 hq1, .inl upd_same⟩
  refine ⟨b, 0, 1000, n + 5, rfl, by omega, by omega, B6, by omega, fun gr H7 g0 g1 e7 B7 => ⟨p106, b, 1, 1000000, n + 7, rfl, by omega, by omega, B7, by omega, fun mo H8 m0 m1 e8 B8 => ⟨sz rfl, fun q2 hq2 => ?_⟩⟩⟩
  have e9 := Same.new (o := .tup [.int gr, .int mo]) hq2
  refine .inl ⟨_, _, sameT e9 ((t6.mono e7).mono e8).sq, .inl (.inl upd_same), sz rfl, fun p H9 e10 hp => ?_⟩
  refine q p H9 ⟨z, ps[ia], hr, st, gr, mo⟩ ⟨hz, hps _ (List.getElem_mem _), ⟨h0, h1⟩, ⟨s0, s1⟩, ⟨g0, g1⟩, ⟨m0, m1⟩⟩ rfl (List.getElem_mem _)
    ((((((e1.trans e2).trans e3).trans (SameX.of e6)).trans e7).trans e8).trans (SameX.of (e9.trans e10))) ((B8.same (e9.trans e10)).le (by omega)) hp
def sp__law_ship (K : PySem.W.Frag) : Sp := fun vs H Q _ => ∃ (b pl : Addr) (z : Str) (ps : List Str) (n : Nat), vs = [.ref b, .str z, .ref pl] ∧ IsName z ∧ LstB H b pl (ps.map V.str) ∧ (∀ p ∈ ps, IsName p) ∧ 1 ≤ ps.length ∧ ps.length ≤ 8 ∧ BoxB H b n ∧ n ≤ 800000 ∧
  ∀ p H' (c : Sh), c.Ok → c.name = z → c.port ∈ ps → c.goal ∈ ps → SameX (Xb b) H H' → BoxB H' b (n + 12) → SqT K H' p c.row → Q (.ref p) H'
theorem r__law_ship {vs : List V} {H : Hp} {Q : VK} {E : XK} (h : sp__law_ship K vs H Q E) : t__law_ship K sp__law_take sp__law_number E (endsR Q) (start n__law_ship vs) H := by
  obtain ⟨b, pl, z, ps, n, rfl, hz, hl, hps, l1, l8, hB, hn, q⟩ := h
  refine ⟨_, hl.sq, ?_⟩
  rw [List.length_map]
  refine ⟨b, (ps.length : Nat), n, rfl, by omega, by omega, hB, by omega, fun at_ H1 a0 a1 e1 B1 => ?_⟩
  obtain ⟨ia, rfl⟩ := Int.eq_ofNat_of_zero_le a0
  have ha : ia < ps.length := by omega
  have hl1 := hl.mono e1
  refine ⟨_, .str ps[ia], hl1.sq, str_at ha, _, hl1.sq, ?_⟩
  rw [List.length_map]
  refine ⟨b, (ps.length : Nat), n + 1, rfl, by omega, by omega, B1, by omega, fun at2 H2 b0 b1 e2 B2 => ?_⟩
  obtain ⟨ib, rfl⟩ := Int.eq_ofNat_of_zero_le b0
  have hb : ib < ps.length := by omega
  refine ⟨_, .str ps[ib], (hl1.mono e2).sq, str_at hb, sz rfl, fun q1 hq1 => ?_⟩
  have e3 := Same.new (o := .tup [.str z, .str ps[ia], .str ps[ib]]) hq1
  have B3 : BoxB (upd H2 q1 (.tup [.str z, .str ps[ia], .str ps[ib]])) b (n + 2) := B2.same e3
  have t3 : TupB K (upd H2 q1 (.tup [.str z, .str ps[ia], .str ps[ib]])) b q1 [.str z, .str ps[ia], .str ps[ib]] := .inl ⟨ne_box B2 hq1, .inl upd_same⟩
  refine ⟨p106, b, 0, 1000000, n + 2, rfl, by omega, by omega, B3, by omega, fun hr H4 h0 h1 e4 B4 => ⟨p106, b, 0, 1000000, n + 4, rfl, by omega, by omega, B4, by omega, fun st H5 s0 s1 e5 B5 => ⟨sz rfl, fun q2 hq2 => ?_⟩⟩⟩
  have e6 := Same.new (o := .tup [.int hr, .int st]) hq2
  refine .inl ⟨_, _, sameT e6 ((t3.mono e4).mono e5).sq, .inl (.inl upd_same), sz rfl, fun p1 H6 e7 hp1 => ?_⟩
  have B6 : BoxB H6 b (n + 6) := B5.same (e6.trans e7)
  have t6 := TupB.of hp1 B6
  refine ⟨b, 0, 1000, n + 6, rfl, by omega, by omega, B6, by omega, fun dr H7 d0 d1 e8 B7 => ⟨sz rfl, fun q3 hq3 => ?_⟩⟩
  have e9 := Same.new (o := .tup [.int dr]) hq3
  refine .inl ⟨_, _, sameT e9 (t6.mono e8).sq, .inl (.inl upd_same), sz rfl, fun p H9 e10 hp => ?_⟩
  refine q p H9 ⟨z, ps[ia], ps[ib], hr, st, dr⟩ ⟨hz, hps _ (List.getElem_mem _), hps _ (List.getElem_mem _), ⟨h0, h1⟩, ⟨s0, s1⟩, ⟨d0, d1⟩⟩ rfl (List.getElem_mem _) (List.getElem_mem _)
    (((((((e1.trans e2).trans (SameX.of e3)).trans e4).trans e5).trans (SameX.of (e6.trans e7))).trans e8).trans (SameX.of (e9.trans e10))) ((B7.same (e9.trans e10)).le (by omega)) hp
def sp__law_few : Sp := fun vs H Q _ => ∃ (b : Addr) (n : Nat), vs = [.ref b] ∧ BoxB H b n ∧ n ≤ 800000 ∧ ∀ l H' (p c d e : Nat), 1 ≤ p → p ≤ 8 → c ≤ 12 → d ≤ 4 → e ≤ 6 → LstB H' b l [.int p, .int c, .int d, .int e] → SameX (Xb b) H H' → BoxB H' b (n + 5) → Q (.ref l) H'
theorem r__law_few {vs : List V} {H : Hp} {Q : VK} {E : XK} (h : sp__law_few vs H Q E) : t__law_few K sp__law_take E (endsR Q) (start n__law_few vs) H := by
  obtain ⟨b, n, rfl, hB, hn, q⟩ := h
  refine ⟨b, 6, n, rfl, by decide, by decide, hB, by omega, fun way H1 w0 w1 e1 B1 => ⟨b, 8, n + 1, rfl, by decide, by decide, B1, by omega, fun x1 H2 x10 x11 e2 B2 => ⟨b, 13, n + 2, rfl, by decide, by decide, B2, by omega, fun x2 H3 x20 x21 e3 B3 =>
    ⟨b, 5, n + 3, rfl, by decide, by decide, B3, by omega, fun x3 H4 x30 x31 e4 B4 => ⟨b, 7, n + 4, rfl, by decide, by decide, B4, by omega, fun x4 H5 x40 x41 e5 B5 => ⟨sz rfl, fun l1 hl1 => ⟨sz rfl, fun l2 hl2 => ⟨sz rfl, fun l3 hl3 => ⟨sz rfl, fun l4 hl4 => ?_⟩⟩⟩⟩⟩⟩⟩⟩⟩
  have f1 := Same.new (o := .lst [.int (1 + x1), .int x2, .int x3, .int x4]) hl1
  have f2 := Same.new (o := .lst [.int 8, .int 12, .int 4, .int 6]) hl2
  have f3 := Same.new (o := .lst [.int 1, .int 0, .int 4, .int 6]) hl3
  have f4 := Same.new (o := .lst [.ref l2, .ref l3, .ref l1, .ref l1, .ref l1, .ref l1]) hl4
  have k5 := (((e1.trans e2).trans e3).trans e4).trans e5
  have B5 : BoxB H5 b (n + 5) := B5
  have g1 := B5.same f1
  have g2 := g1.same f2
  have g3 := g2.same f3
  have g4 := g3.same f4
  have K4 := k5.trans (SameX.of (((f1.trans f2).trans f3).trans f4))
  obtain ⟨y1, rfl⟩ := Int.eq_ofNat_of_zero_le x10
  obtain ⟨y2, rfl⟩ := Int.eq_ofNat_of_zero_le x20
  obtain ⟨y3, rfl⟩ := Int.eq_ofNat_of_zero_le x30
  obtain ⟨y4, rfl⟩ := Int.eq_ofNat_of_zero_le x40
  have own : mIx K (.ref l4) (.int way) (upd (upd (upd (upd H5 l1 (.lst [.int (1 + (y1 : Int)), .int y2, .int y3, .int y4])) l2 (.lst [.int 8, .int 12, .int 4, .int 6])) l3 (.lst [.int 1, .int 0, .int 4, .int 6])) l4 (.lst [.ref l2, .ref l3, .ref l1, .ref l1, .ref l1, .ref l1])) Q := by
    have hl : Sq K (upd (upd (upd (upd H5 l1 (.lst [.int (1 + (y1 : Int)), .int y2, .int y3, .int y4])) l2 (.lst [.int 8, .int 12, .int 4, .int 6])) l3 (.lst [.int 1, .int 0, .int 4, .int 6])) l4 (.lst [.ref l2, .ref l3, .ref l1, .ref l1, .ref l1, .ref l1])) l4 [.ref l2, .ref l3, .ref l1, .ref l1, .ref l1, .ref l1] := .inl (.inl (.inl upd_same))
    have hf : atI [V.ref l2, .ref l3, .ref l1, .ref l1, .ref l1, .ref l1] way = some (.ref l1) → mIx K (.ref l4) (.int way) (upd (upd (upd (upd H5 l1 (.lst [.int (1 + (y1 : Int)), .int y2, .int y3, .int y4])) l2 (.lst [.int 8, .int 12, .int 4, .int 6])) l3 (.lst [.int 1, .int 0, .int 4, .int 6])) l4 (.lst [.ref l2, .ref l3, .ref l1, .ref l1, .ref l1, .ref l1])) Q := fun e => ⟨_, .ref l1, hl, e, q l1 _ (1 + y1) y2 y3 y4 (by omega) (by omega) (by omega) (by omega) (by omega) ⟨ne_box B5 hl1, by rw [f4 _ _ (f3 _ _ (f2 _ _ upd_same))]; rfl⟩ K4 g4⟩
    have hw : way = 0 ∨ way = 1 ∨ way = 2 ∨ way = 3 ∨ way = 4 ∨ way = 5 := by omega
    rcases hw with rfl | rfl | rfl | rfl | rfl | rfl
    · exact ⟨_, .ref l2, hl, rfl, q l2 _ 8 12 4 6 (by decide) (by decide) (by decide) (by decide) (by decide) ⟨ne_box g1 hl2, f4 _ _ (f3 _ _ upd_same)⟩ K4 g4⟩
    · exact ⟨_, .ref l3, hl, rfl, q l3 _ 1 0 4 6 (by decide) (by decide) (by decide) (by decide) (by decide) ⟨ne_box g2 hl3, f4 _ _ upd_same⟩ K4 g4⟩
    · exact hf rfl
    · exact hf rfl
    · exact hf rfl
    · exact hf rfl
  exact own
end K76
/-! readings: the drawn world, the world made of it -/
namespace K76
open PySem PySem.Spec PyProof.Rows L2 SX
open He (ga ma fAd)
variable {K : PySem.W.Frag}
/-- the heap without the box -/
def hide (b : Addr) (H : Hp) : Hp := fun a => if a = b then none else H a
theorem hide_ne {b a : Addr} {H : Hp} (h : a ≠ b) : hide b H a = H a := if_neg h
theorem hide_same {b : Addr} {H : Hp} : Same (hide b H) H := fun a u e => by
  by_cases h : a = b
  · subst h
    unfold hide at e
    rw [if_pos rfl] at e
    cases e
  · rw [hide_ne h] at e
    exact e
theorem hide_of {b : Addr} {H H' : Hp} (e : SameX (Xb b) H H') : Same (hide b H) (hide b H') := fun a u h => by
  by_cases n : a = b
  · subst n
    unfold hide at h
    rw [if_pos rfl] at h
    cases h
  · rw [hide_ne n] at h ⊢
    exact e a u n h
theorem sqt_hide {H : Hp} {b a : Addr} {n : Nat} {xs : List V} (hB : BoxB H b n) (h : SqT K H a xs) : SqT K (hide b H) a xs := by
  rcases TupB.of h hB with ⟨ne, h | ⟨o, h⟩⟩ | h
  · exact .inl (.inl (by rw [hide_ne ne]; exact h))
  · exact .inl (.inr ⟨o, by rw [hide_ne ne]; exact h⟩)
  · exact .inr h
theorem RowAt.hide {H : Hp} {b : Addr} {n : Nat} {x : V} {row : List V} (hB : BoxB H b n) (h : RowAt K H x row) : RowAt K (hide b H) x row := let ⟨a, ex, ha⟩ := h; ⟨a, ex, sqt_hide hB ha⟩
theorem ToldAt.hide {H : Hp} {b p : Addr} {n : Nat} {w : Wo} (hB : BoxB H b n) (h : ToldAt K H p w) : ToldAt K (hide b H) p w := by
  obtain ⟨pa, ca, ba, sa, ct, bt, st, h1, h2, h3, h4, h5, h6, h7, h8⟩ := h
  exact ⟨pa, ca, ba, sa, ct, bt, st, sqt_hide hB h1, sqt_hide hB h2, sqt_hide hB h3, sqt_hide hB h4, sqt_hide hB h5, pimp (fun _ _ h => h.hide hB) h6, pimp (fun _ _ h => h.hide hB) h7, pimp (fun _ _ h => h.hide hB) h8⟩
theorem ins_hide {H : Hp} {b a C dx : Addr} {n : Nat} {fs : List (Str × V)} (hB : BoxB H b n) (h : H a = some (.ins C dx fs)) : K76.hide b H a = some (.ins C dx fs) := by
  rw [hide_ne fun z => ?_]
  · exact h
  · obtain ⟨_, _, _, h1, _⟩ := hB
    subst z
    rw [h1] at h
    cases h
theorem lst_hide {H : Hp} {b a : Addr} {n : Nat} {xs : List V} (hB : BoxB H b n) (hx : ∀ x ∈ xs, ∀ i, x ≠ .int i) (h : H a = some (.lst xs)) : K76.hide b H a = some (.lst xs) := by
  rw [hide_ne fun z => ?_]
  · exact h
  · obtain ⟨_, _, _, h1, _⟩ := hB
    subst z
    rw [h1] at h
    cases h
    exact hx _ (List.mem_cons_self ..) _ rfl
theorem strs_no {zs : List Str} : ∀ x ∈ zs.map V.str, ∀ i, x ≠ .int i := fun x hx i e => by
  obtain ⟨z, _, rfl⟩ := List.mem_map.mp hx
  cases e
theorem pmem {α β : Type} {F : α → β → Prop} {l : List α} {m : List β} {x : α} (h : Paired F l m) (hx : x ∈ l) : ∃ y ∈ m, F x y := by
  obtain ⟨i, hi⟩ := List.getElem?_of_mem hx
  obtain ⟨y, hy, f⟩ := pget h hi
  exact ⟨y, List.mem_of_getElem? hy, f⟩
theorem WoAt.hide {H : Hp} {b : Addr} {n : Nat} {x : V} {w : Wo} {cx bx sx : List V} (hB : BoxB H b n) (h : WoAt K H x w cx bx sx) : WoAt K (hide b H) x w cx bx sx := by
  obtain ⟨a, dx, pl, cl, bl, sl, ex, h1, h2, h3, h4, h5, h6, h7, h8⟩ := h
  refine ⟨a, dx, pl, cl, bl, sl, ex, ins_hide hB h1, lst_hide hB strs_no h2, lst_hide hB ?_ h3, lst_hide hB ?_ h4, lst_hide hB ?_ h5, pimp ?_ h6, pimp ?_ h7, pimp ?_ h8⟩
  · intro x hx i e
    obtain ⟨_, _, _, _, e', _⟩ := pmem h6 hx
    rw [e] at e'
    cases e'
  · intro x hx i e
    obtain ⟨_, _, _, _, e', _⟩ := pmem h7 hx
    rw [e] at e'
    cases e'
  · intro x hx i e
    obtain ⟨_, _, _, _, e', _⟩ := pmem h8 hx
    rw [e] at e'
    cases e'
  · exact fun _ _ ⟨a, dx, ex, ha⟩ => ⟨a, dx, ex, ins_hide hB ha⟩
  · exact fun _ _ ⟨a, dx, ex, ha⟩ => ⟨a, dx, ex, ins_hide hB ha⟩
  · exact fun _ _ ⟨a, dx, ex, ha⟩ => ⟨a, dx, ex, ins_hide hB ha⟩
/-- what was drawn, one after another -/
theorem pchoose {α : Type} {R : V → α → Prop} {P : α → Prop} {n : α → Str} {ys : List V} {zs : List Str} (h : Paired (fun y z => ∃ c, P c ∧ n c = z ∧ R y c) ys zs) : ∃ cs : List α, cs.map n = zs ∧ (∀ c ∈ cs, P c) ∧ Paired R ys cs := by
  induction h with
  | nil => exact ⟨[], rfl, (fun _ h => by cases h), .nil⟩
  | cons h _ ih =>
    obtain ⟨c, hp, hn, hr⟩ := h
    obtain ⟨cs, h1, h2, h3⟩ := ih
    refine ⟨c :: cs, by rw [List.map_cons, hn, h1], fun d hd => ?_, .cons hr h3⟩
    rcases List.mem_cons.mp hd with rfl | hd
    · exact hp
    · exact h2 d hd
def RowB (K : PySem.W.Frag) (b : Addr) (H : Hp) (y : V) (row : List V) : Prop := ∃ a, y = .ref a ∧ TupB K H b a row
theorem RowB.mono {b : Addr} {H H' : Hp} {y : V} {row : List V} (h : RowB K b H y row) (e : SameX (Xb b) H H') : RowB K b H' y row := let ⟨a, ex, ha⟩ := h; ⟨a, ex, ha.mono e⟩
theorem RowB.at_ {b : Addr} {H : Hp} {y : V} {row : List V} (h : RowB K b H y row) : RowAt K H y row := let ⟨a, ex, ha⟩ := h; ⟨a, ex, ha.sq⟩
theorem pmap {α β γ : Type} {F : α → γ → Prop} {n : β → γ} {l : List α} {m : List β} (h : Paired (fun a b => F a (n b)) l m) : Paired F l (m.map n) := by
  induction h with
  | nil => exact .nil
  | cons h _ ih => exact .cons h ih
/-- tuple([draw(box, name, ports) for name in names]) -/
theorem lc_draw {α : Type} {b pl : Addr} {ps zs : List Str} {N : Nat} {row : α → List V} {nm : α → Str} {P : α → Prop} {σ : L2.St} {H : Hp} {Q : VK} {sp : Sp} {tl : TE}
    (hs : σ[0]? = some (some (.ref b))) (hp : σ[2]? = some (some (.ref pl))) (h8 : σ.length = 9) (hl : ∀ R : VK, (∀ l H1, Same H H1 → LstB H1 b l (zs.map V.str) → R (.ref l) H1) → tl σ H R) (hP : LstB H b pl (ps.map V.str)) (hB : BoxB H b N) (hz : zs.length ≤ 13)
    (step : ∀ (i : Nat) z H' (Q' : VK), zs[i]? = some z → LstB H' b pl (ps.map V.str) → BoxB H' b (N + 12 * i) → (∀ p H'' c, P c → nm c = z → SameX (Xb b) H' H'' → BoxB H'' b (N + 12 * i + 12) → SqT K H'' p (row c) → Q' (.ref p) H'') → sp [.ref b, .str z, .ref pl] H' Q' fun _ _ _ => False)
    (q : ∀ t H' ys cs, SameX (Xb b) H H' → BoxB H' b (N + 12 * zs.length) → cs.map nm = zs → (∀ c ∈ cs, P c) → SqT K H' t ys → Paired (fun y c => RowB K b H' y (row c)) ys cs → Q (.ref t) H') :
    tCB (mTuple K) (tCons (tLc (mSeq K tl) (gName 8) tYes (xCall sp W0 (tCons (mV 0) (tCons (mV 8) (tCons (mV 2) tNil)))) [8]) tNil) σ H Q := by
  unfold tCB
  show tLc _ _ _ _ _ σ H _
  unfold tLc mSeq
  refine hl _ fun l H1 e1 hL => ⟨_, _, _, .lst, .inl (.inl hL.2), ?_⟩
  have hP := hP.mono (SameX.of e1)
  have hB := hB.same e1
  have w0 : (wipe σ [8])[0]? = some (some (.ref b)) := by
    show (σ.set 8 none)[0]? = _
    rw [List.getElem?_set_ne (by decide)]
    exact hs
  refine lc_new (α := Str) (Xb b) (fun i H => BoxB H b (N + 12 * i)) (fun H y z => ∃ c, P c ∧ nm c = z ∧ RowB K b H y (row c)) zs wk_list (by rw [List.length_map]) (by rw [List.length_map]; omega) (fun D hD => by rw [hD]; exact box_some hB) hB (fun i H1 H2 hb he => hb.at_ (he b rfl))
    (fun H1 H2 y z h e => let ⟨c, h1, h2, a, h3, h4⟩ := h; ⟨c, h1, h2, a, h3, h4.monoN e⟩) (fun H' e => .inl (.inl (e _ _ hL.1 hL.2))) (fun i x z H' Q' hx hc e Bi q' => ?_) fun D H4 ys hD e4 B4 h4 pr => ?_
  · rw [List.getElem?_map, hc] at hx
    cases hx
    refine ⟨by show (((σ.set 8 none).set 8 _).set 8 none) = σ.set 8 none; rw [List.set_set, List.set_set], ?_⟩
    have k0 : ((wipe σ [8]).set 8 (some (V.str z)))[0]? = some (some (.ref b)) := by
      rw [List.getElem?_set_ne (by decide)]
      exact w0
    have k2 : ((wipe σ [8]).set 8 (some (V.str z)))[2]? = some (some (.ref pl)) := by
      rw [List.getElem?_set_ne (by decide)]
      show (σ.set 8 none)[2]? = _
      rw [List.getElem?_set_ne (by decide)]
      exact hp
    have k8 : ((wipe σ [8]).set 8 (some (V.str z)))[8]? = some (some (.str z)) := by
      refine List.getElem?_set_self ?_
      show 8 < (σ.set 8 none).length
      rw [List.length_set, h8]
      decide
    show xCall sp W0 (tCons (mV 0) (tCons (mV 8) (tCons (mV 2) tNil))) ((wipe σ [8]).set 8 (some (V.str z))) H' Q'
    unfold xCall tCons mV
    simp only [k0, k2, k8]
    exact step i z H' Q' hc (hP.mono e) Bi fun p H'' c h1 h2 e2 B2 h3 => q' _ H'' e2 (B2.le (by omega)) ⟨c, h1, h2, p, rfl, TupB.of h3 B2⟩
  · obtain ⟨cs, c1, c2, c3⟩ := pchoose pr
    exact ⟨ys, .inl (.inl (.inl h4)), fun t H5 e5 ht => q t H5 ys cs ((SameX.of e1).trans (e4.trans (SameX.of e5))) (B4.same e5) c1 c2 ht (pimp (fun _ _ h => h.mono (SameX.of e5)) c3)⟩
def sp__law_world (K : PySem.W.Frag) : Sp := fun vs H Q _ => ∃ (b sl : Addr) (p c d e n : Nat), vs = [.ref b, .ref sl] ∧ LstB H b sl [.int p, .int c, .int d, .int e] ∧ (1 ≤ p ∧ p ≤ 8 ∧ c ≤ 12 ∧ d ≤ 4 ∧ e ≤ 6) ∧ BoxB H b n ∧ n ≤ 500000 ∧
  ∀ q H' w, w.Fine → ToldAt K H' q w → SameX (Xb b) H H' → BoxB H' b (n + 400) → Q (.ref q) H'
theorem r__law_world {vs : List V} {H : Hp} {Q : VK} {E : XK} (h : sp__law_world K vs H Q E) : t__law_world K (sp__law_names K) (sp__law_channel K) (sp__law_breaker K) (sp__law_ship K) sp__law_number E (endsR Q) (start n__law_world vs) H := by
  obtain ⟨b, sl, p, c, d, e, n, rfl, hsl, ⟨p1, p8, c12, d4, e6⟩, hB, hn, q⟩ := h
  refine ⟨_, .int p, hsl.sq, rfl, b, p, n, rfl, by omega, hB, by omega, fun pl H1 ps np e1 B1 npl hpl => ?_⟩
  have hsl1 := hsl.mono e1
  have hP1 : LstB H1 b pl (ps.map V.str) := ⟨npl, hpl⟩
  refine ⟨_, .int c, hsl1.sq, rfl, _, .int p, hsl1.sq, rfl, .inl (by omega), ?_⟩
  have em : (c : Int) * (if (decide ((1 : Int) < (p : Int))) = true then 1 else 0) = ((if 1 < p then c else 0 : Nat) : Int) := by
    by_cases h : 1 < p
    · rw [if_pos (decide_eq_true (by omega)), if_pos h, Int.mul_one]
    · rw [if_neg (by simp; omega), if_neg h, Int.mul_zero]
      rfl
  refine ⟨b, if 1 < p then c else 0, n + 13, ?_, by split <;> omega, B1, by omega, fun cl H2 cz nc e2 B2 ncl hcl => ?_⟩
  · show [V.ref b, .int ((c : Int) * (if (decide ((1 : Int) < (p : Int))) = true then 1 else 0))] = _
    rw [em]
  have B2 : BoxB H2 b (n + 26) := B2
  have hsl2 := hsl1.mono e2
  have hP2 := hP1.mono e2
  have hC2 : LstB H2 b cl (cz.map V.str) := ⟨ncl, hcl⟩
  refine ⟨_, .int d, hsl2.sq, rfl, _, .int e, hsl2.sq, rfl, b, d + e, n + 26, rfl, by omega, B2, by omega, fun vl H3 vz nv e3 B3 nvl hvl => ?_⟩
  have B3 : BoxB H3 b (n + 39) := B3
  have hsl3 := hsl2.mono e3
  have hP3 := hP2.mono e3
  have hC3 := hC2.mono e3
  have hV3 : LstB H3 b vl (vz.map V.str) := ⟨nvl, hvl⟩
  have lcz : cz.length ≤ 12 := by
    rw [nc.1]
    split <;> omega
  have lvz : vz.length = d + e := nv.1
  have lps : ps.length = p := np.1
  dsimp only [gName, tSeq, tAsg]
  refine lc_draw (tl := mV 3) (K := K) (α := Ch) (pl := pl) (ps := ps) (zs := cz) (N := n + 39) (row := Ch.row) (nm := (·.name)) (P := fun c => c.Ok ∧ c.one ∈ ps ∧ c.other ∈ ps) ?_ ?_ ?_ ?_ hP3 B3 (by omega) (fun i z H' Q' hz hP Bi q' => ?_) fun rt H4 rys chs e4 B4 c1 c2 hrt c3 => ?_
  · rfl
  · rfl
  · rfl
  · exact fun R hR => hR cl _ (Same.refl _) hC3
  · have hi := (List.getElem?_eq_some_iff.mp hz).1
    have h2 : 2 ≤ ps.length := by
      rw [nc.1] at hi
      split at hi <;> omega
    exact ⟨b, pl, z, ps, _, rfl, nc.2.1 z (List.mem_of_getElem? hz), hP, np.2.1, np.2.2, h2, by omega, Bi, by omega, fun p H'' c k1 k2 k3 k4 e' B' hp => q' p H'' c ⟨k1, k3, k4⟩ k2 e' B' hp⟩
  have B4 : BoxB H4 b (n + 200) := B4.le (by omega)
  have hsl4 := hsl3.mono e4
  have hP4 := hP3.mono e4
  have hV4 := hV3.mono e4
  have trt := TupB.of hrt B4
  refine lc_draw (tl := tSl (mSl K) (mV 4) tNoPart (tPart (tOp (mIx K) (mV 1) (tC (.int 2))))) (K := K) (α := Br) (pl := pl) (ps := ps) (zs := vz.take d) (N := n + 200) (row := Br.row) (nm := (·.name)) (P := fun c => c.Ok ∧ c.port ∈ ps) ?_ ?_ ?_ ?_ hP4 B4 (by rw [List.length_take]; omega) (fun i z H' Q' hz hP Bi q' => ?_) fun bt H5 bys brs e5 B5 b1 b2 hbt b3 => ?_
  · rfl
  · rfl
  · rfl
  · intro R hR
    refine ⟨_, .int d, hsl4.sq, rfl, d, rfl, .inl ⟨_, .inl (.inl hV4.2), fun p hp => ?_⟩⟩
    rw [cut_take (by omega)]
    exact hR p _ (Same.new hp) ⟨ne_box B4 hp, upd_same⟩
  · exact ⟨b, pl, z, ps, _, rfl, nv.2.1 z (List.mem_of_mem_take (List.mem_of_getElem? hz)), hP, np.2.1, by omega, by omega, Bi, by have := (List.getElem?_eq_some_iff.mp hz).1; rw [List.length_take] at this; omega, fun p H'' c k1 k2 k3 e' B' hp => q' p H'' c ⟨k1, k3⟩ k2 e' B' hp⟩
  have B5 : BoxB H5 b (n + 250) := B5.le (by rw [List.length_take]; omega)
  have hsl5 := hsl4.mono e5
  have hP5 := hP4.mono e5
  have hV5 := hV4.mono e5
  have tbt := TupB.of hbt B5
  refine lc_draw (tl := tSl (mSl K) (mV 4) (tPart (tOp (mIx K) (mV 1) (tC (.int 2)))) tNoPart) (K := K) (α := Sh) (pl := pl) (ps := ps) (zs := vz.drop d) (N := n + 250) (row := Sh.row) (nm := (·.name)) (P := fun c => c.Ok ∧ c.port ∈ ps ∧ c.goal ∈ ps) ?_ ?_ ?_ ?_ hP5 B5 (by rw [List.length_drop]; omega) (fun i z H' Q' hz hP Bi q' => ?_) fun st H6 sys shs e6 B6 s1 s2 hst s3 => ?_
  · rfl
  · rfl
  · rfl
  · intro R hR
    refine ⟨_, .int d, hsl5.sq, rfl, d, rfl, .inl ⟨_, .inl (.inl hV5.2), fun p hp => ?_⟩⟩
    rw [cut_drop (by omega)]
    exact hR p _ (Same.new hp) ⟨ne_box B5 hp, upd_same⟩
  · exact ⟨b, pl, z, ps, _, rfl, nv.2.1 z (List.mem_of_mem_drop (List.mem_of_getElem? hz)), hP, np.2.1, by omega, by omega, Bi, by have := (List.getElem?_eq_some_iff.mp hz).1; rw [List.length_drop] at this; omega, fun p H'' c k1 k2 k3 k4 e' B' hp => q' p H'' c ⟨k1, k3, k4⟩ k2 e' B' hp⟩
  have B6 : BoxB H6 b (n + 350) := B6.le (by rw [List.length_drop]; omega)
  have hP6 := hP5.mono e6
  have tst := TupB.of hst B6
  refine ⟨p106, b, 0, 1000000, n + 350, rfl, by omega, by omega, B6, by omega, fun beg H7 g0 g1 e7 B7 => ?_⟩
  have hP7 := hP6.mono e7
  refine ⟨_, hP7.sq, fun pt H8 e8 hpt => ⟨sz rfl, fun q0 hq0 => ?_⟩⟩
  have e9 := Same.new (o := .tup [.int beg, .ref pt, .ref rt, .ref bt, .ref st]) hq0
  have e89 := e8.trans e9
  have l1 : chs.length = cz.length := by rw [← c1, List.length_map]
  have l2 : brs.length = (vz.take d).length := by rw [← b1, List.length_map]
  have l3 : shs.length = (vz.drop d).length := by rw [← s1, List.length_map]
  refine q q0 _ ⟨beg, ps, chs, brs, shs⟩ ⟨⟨⟨g0, g1⟩, ⟨by show 1 ≤ ps.length; omega, by show ps.length ≤ 8; omega⟩, np.2.1, np.2.2, by show chs.length ≤ 12; omega, by show (chs.map (·.name)).Nodup; rw [c1]; exact nc.2.2, fun c hc => (c2 c hc).2, by show brs.length ≤ 4; rw [l2, List.length_take]; omega, fun c hc => (b2 c hc).2⟩,
    ⟨by show shs.length ≤ 6; rw [l3, List.length_drop]; omega, ?_, fun s hs => (s2 s hs).2⟩, fun c hc => (c2 c hc).1, fun c hc => (b2 c hc).1, fun c hc => (s2 c hc).1⟩
    ⟨pt, rt, bt, st, rys, bys, sys, .inl (.inl upd_same), sameT e9 hpt, sameT e89 (((trt.mono e5).mono e6).mono e7).sq, sameT e89 ((tbt.mono e6).mono e7).sq, sameT e89 (tst.mono e7).sq, ?_, ?_, ?_⟩
    (((((((e1.trans e2).trans e3).trans e4).trans e5).trans e6).trans e7).trans (SameX.of e89)) ((B7.same e89).le (by omega))
  · show (brs.map (·.name) ++ shs.map (·.name)).Nodup
    rw [b1, s1, List.take_append_drop]
    exact nv.2.2
  · exact pmap (pimp (fun _ _ h => ((((h.mono e5).mono e6).mono e7).at_).mono e89) c3)
  · exact pmap (pimp (fun _ _ h => (((h.mono e6).mono e7).at_).mono e89) b3)
  · exact pmap (pimp (fun _ _ h => ((h.mono e7).at_).mono e89) s3)
end K76
/-! readings: the law's own worlds -/
namespace K76
open PySem PySem.Spec PyProof.Rows L2 SX
open He (ga ma fAd)
variable {K : PySem.W.Frag}
theorem w8 {σ : L2.St} {a b c d e f g h : Option V} : wipe ((((((((((wipe σ [4, 5, 6, 7, 8, 9, 10, 11]).set 4 a).set 5 b).set 6 c).set 7 d).set 8 e).set 9 f).set 10 g).set 11 h)) [4, 5, 6, 7, 8, 9, 10, 11] = wipe σ [4, 5, 6, 7, 8, 9, 10, 11] := by
  rw [wipe_set_mem (by decide), wipe_set_mem (by decide), wipe_set_mem (by decide), wipe_set_mem (by decide), wipe_set_mem (by decide), wipe_set_mem (by decide), wipe_set_mem (by decide), wipe_set_mem (by decide)]
  exact wipe_wipe fun _ h => h
theorem w6 {σ : L2.St} {a b c d e f : Option V} : wipe ((((((((wipe σ [4, 5, 6, 7, 8, 9]).set 4 a).set 5 b).set 6 c).set 7 d).set 8 e).set 9 f)) [4, 5, 6, 7, 8, 9] = wipe σ [4, 5, 6, 7, 8, 9] := by
  rw [wipe_set_mem (by decide), wipe_set_mem (by decide), wipe_set_mem (by decide), wipe_set_mem (by decide), wipe_set_mem (by decide), wipe_set_mem (by decide)]
  exact wipe_wipe fun _ h => h
theorem g8 {σ : L2.St} {H : Hp} {a : Addr} {v1 v2 v3 v4 v5 v6 v7 v8 : V} {Q : L2.St → Hp → Prop} (hl : σ.length = 12) (ha : SqT K H a [v1, v2, v3, v4, v5, v6, v7, v8])
    (h : ∀ σ2 : L2.St, σ2[4]? = some (some v1) → σ2[5]? = some (some v2) → σ2[6]? = some (some v3) → σ2[7]? = some (some v4) → σ2[8]? = some (some v5) → σ2[9]? = some (some v6) → σ2[10]? = some (some v7) → σ2[11]? = some (some v8) → wipe σ2 [4, 5, 6, 7, 8, 9, 10, 11] = wipe σ [4, 5, 6, 7, 8, 9, 10, 11] → Q σ2 H) :
    gTup K 8 (gCons (gName 4) (gCons (gName 5) (gCons (gName 6) (gCons (gName 7) (gCons (gName 8) (gCons (gName 9) (gCons (gName 10) (gCons (gName 11) gNil)))))))) (.ref a) (wipe σ [4, 5, 6, 7, 8, 9, 10, 11]) H Q := by
  have hl2 : (wipe σ [4, 5, 6, 7, 8, 9, 10, 11]).length = 12 := by rw [wipe_length, hl]
  have := h ((((((((((wipe σ [4, 5, 6, 7, 8, 9, 10, 11]).set 4 (some v1)).set 5 (some v2)).set 6 (some v3)).set 7 (some v4)).set 8 (some v5)).set 9 (some v6)).set 10 (some v7)).set 11 (some v8))) (by simp [hl2]) (by simp [hl2]) (by simp [hl2]) (by simp [hl2]) (by simp [hl2]) (by simp [hl2]) (by simp [hl2]) (by simp [hl2]) w8
  generalize wipe σ [4, 5, 6, 7, 8, 9, 10, 11] = τ at this ⊢
  exact ⟨a, _, rfl, ha, rfl, _, _, rfl, _, _, rfl, _, _, rfl, _, _, rfl, _, _, rfl, _, _, rfl, _, _, rfl, _, _, rfl, rfl, this⟩
theorem g6 {σ : L2.St} {H : Hp} {a : Addr} {v1 v2 v3 v4 v5 v6 : V} {Q : L2.St → Hp → Prop} (hl : σ.length = 12) (ha : SqT K H a [v1, v2, v3, v4, v5, v6])
    (h : ∀ σ2 : L2.St, σ2[4]? = some (some v1) → σ2[5]? = some (some v2) → σ2[6]? = some (some v3) → σ2[7]? = some (some v4) → σ2[8]? = some (some v5) → σ2[9]? = some (some v6) → wipe σ2 [4, 5, 6, 7, 8, 9] = wipe σ [4, 5, 6, 7, 8, 9] → Q σ2 H) :
    gTup K 6 (gCons (gName 4) (gCons (gName 5) (gCons (gName 6) (gCons (gName 7) (gCons (gName 8) (gCons (gName 9) gNil)))))) (.ref a) (wipe σ [4, 5, 6, 7, 8, 9]) H Q := by
  have hl2 : (wipe σ [4, 5, 6, 7, 8, 9]).length = 12 := by rw [wipe_length, hl]
  have := h ((((((((wipe σ [4, 5, 6, 7, 8, 9]).set 4 (some v1)).set 5 (some v2)).set 6 (some v3)).set 7 (some v4)).set 8 (some v5)).set 9 (some v6))) (by simp [hl2]) (by simp [hl2]) (by simp [hl2]) (by simp [hl2]) (by simp [hl2]) (by simp [hl2]) w6
  generalize wipe σ [4, 5, 6, 7, 8, 9] = τ at this ⊢
  exact ⟨a, _, rfl, ha, rfl, _, _, rfl, _, _, rfl, _, _, rfl, _, _, rfl, _, _, rfl, _, _, rfl, rfl, this⟩
theorem m8 {C : Addr} {sp : Sp} {W : WX} {σ : L2.St} {H : Hp} {Q : VK} {v1 v2 v3 v4 v5 v6 v7 v8 : V} (h1 : σ[4]? = some (some v1)) (h2 : σ[5]? = some (some v2)) (h3 : σ[6]? = some (some v3)) (h4 : σ[7]? = some (some v4)) (h5 : σ[8]? = some (some v5)) (h6 : σ[9]? = some (some v6)) (h7 : σ[10]? = some (some v7)) (h8 : σ[11]? = some (some v8))
    (q : ∀ x dx, H x = none → H dx = none → dx ≠ x → sp [.ref x, v1, v2, v3, v4, v5, v6, v7, v8] (upd (upd H dx (.own x)) x (.ins C dx [])) (fun v H2 => v = .non ∧ Q (.ref x) H2) fun c d H' => W c d σ H') :
    xMake C sp W (tCons (mV 4) (tCons (mV 5) (tCons (mV 6) (tCons (mV 7) (tCons (mV 8) (tCons (mV 9) (tCons (mV 10) (tCons (mV 11) tNil)))))))) σ H Q := by
  unfold xMake tCons mV tNil
  simp only [h1, h2, h3, h4, h5, h6, h7, h8]
  exact q
theorem m6 {C : Addr} {sp : Sp} {W : WX} {σ : L2.St} {H : Hp} {Q : VK} {v1 v2 v3 v4 v5 v6 : V} (h1 : σ[4]? = some (some v1)) (h2 : σ[5]? = some (some v2)) (h3 : σ[6]? = some (some v3)) (h4 : σ[7]? = some (some v4)) (h5 : σ[8]? = some (some v5)) (h6 : σ[9]? = some (some v6))
    (q : ∀ x dx, H x = none → H dx = none → dx ≠ x → sp [.ref x, v1, v2, v3, v4, v5, v6] (upd (upd H dx (.own x)) x (.ins C dx [])) (fun v H2 => v = .non ∧ Q (.ref x) H2) fun c d H' => W c d σ H') :
    xMake C sp W (tCons (mV 4) (tCons (mV 5) (tCons (mV 6) (tCons (mV 7) (tCons (mV 8) (tCons (mV 9) tNil)))))) σ H Q := by
  unfold xMake tCons mV tNil
  simp only [h1, h2, h3, h4, h5, h6]
  exact q
def sp__law_made (K : PySem.W.Frag) : Sp := fun vs H Q _ => ∃ (p : Addr) (w : Wo), vs = [.ref p] ∧ ToldAt K H p w ∧ w.Fine ∧ ∀ a H' cx bx sx, Same H H' → WoAt K H' (.ref a) w cx bx sx → (∀ l, H l ≠ none → Apart H' a l) → Q (.ref a) H'
theorem r__law_made {vs : List V} {H : Hp} {Q : VK} {E : XK} (h : sp__law_made K vs H Q E) : t__law_made K (sp_Channel___init__ K) (sp_Breaker___init__ K) (sp_Ship___init__ K) (sp_World___init__ K) E (endsR Q) (start n__law_made vs) H := by
  obtain ⟨p, w, rfl, ⟨pa, ca, ba, sa, ct, bt, st, t1, t2, t3, t4, t5, p1, p2, p3⟩, f, q⟩ := h
  have lc := f.pre.nc
  have lb := f.pre.nb
  have ls := f.ok.ns
  have c1 := plen p1
  have c2 := plen p2
  have c3 := plen p3
  rw [List.length_map] at c1 c2 c3
  refine ⟨_, .ref ca, .inr t1, rfl, _, _, _, .tup, t3, ?_⟩
  refine lc_make (K := K) (F := ChAt K) Ch.row (fun _ _ _ _ h e => chN h e) wk_tup (by omega) (fun H' e => sameT e t3) p1 (fun x c H' Q' hc hx q' => ?_) fun D1 H1 cx _ e1 hD1 k1 => ?_
  · obtain ⟨a, rfl, ha⟩ := hx
    refine g8 rfl ha fun σ2 k1 k2 k3 k4 k5 k6 k7 k8 kw => ⟨kw, m8 k1 k2 k3 k4 k5 k6 k7 k8 fun x dx hx hd hne => ?_⟩
    exact ⟨x, dx, c, rfl, f.cok c hc, upd_same, fun H' e h => ⟨rfl, q' (.ref x) H' (e.new hx hd hne) ⟨x, dx, rfl, h⟩⟩⟩
  refine ⟨_, .ref ba, .inr (sameT e1 t1), rfl, _, _, _, .tup, sameT e1 t4, ?_⟩
  refine lc_make (K := K) (F := BrAt K) Br.row (fun _ _ _ _ h e => brN h e) wk_tup (by omega) (fun H' e => sameT (e1.trans e) t4) (pimp (fun _ _ h => h.mono e1) p2) (fun x c H' Q' hc hx q' => ?_) fun D2 H2 bx _ e2 hD2 k2 => ?_
  · obtain ⟨a, rfl, ha⟩ := hx
    refine g6 rfl ha fun σ2 k1 k2 k3 k4 k5 k6 kw => ⟨kw, m6 k1 k2 k3 k4 k5 k6 fun x dx hx hd hne => ?_⟩
    exact ⟨x, dx, c, rfl, f.bok c hc, upd_same, fun H' e h => ⟨rfl, q' (.ref x) H' (e.new hx hd hne) ⟨x, dx, rfl, h⟩⟩⟩
  refine ⟨bx, .inl (.inl (.inl hD2)), fun bq H3 e3 hbq => ?_⟩
  have e23 := e2.trans e3
  have e13 := e1.trans e23
  refine ⟨_, .ref sa, .inr (sameT e13 t1), rfl, _, _, _, .tup, sameT e13 t5, ?_⟩
  refine lc_make (K := K) (F := ShAt K) Sh.row (fun _ _ _ _ h e => shN h e) wk_tup (by omega) (fun H' e => sameT (e13.trans e) t5) (pimp (fun _ _ h => h.mono e13) p3) (fun x c H' Q' hc hx q' => ?_) fun D3 H4 sx _ e4 hD3 k3 => ?_
  · obtain ⟨a, rfl, ha⟩ := hx
    refine g6 rfl ha fun σ2 k1 k2 k3 k4 k5 k6 kw => ⟨kw, m6 k1 k2 k3 k4 k5 k6 fun x dx hx hd hne => ?_⟩
    exact ⟨x, dx, c, rfl, f.sok c hc, upd_same, fun H' e h => ⟨rfl, q' (.ref x) H' (e.new hx hd hne) ⟨x, dx, rfl, h⟩⟩⟩
  have e14 := e13.trans e4
  refine ⟨_, .int w.beg, .inr (sameT e14 t1), rfl, _, .ref pa, .inr (sameT e14 t1), rfl, _, .inr (sameT e14 t2), fun pl hpl => ?_⟩
  have e5 := Same.new (o := .lst (w.ports.map V.str)) hpl
  intro x dx hx hd hne
  have en2 := Same.obj (C := ga K "World") hx hd hne
  obtain ⟨n1, n2, n3⟩ := f.no (K := K) (E := fun c d H' => WD E c d [] H') (H := upd (upd (upd H4 pl (.lst (w.ports.map V.str))) dx (.own x)) x (.ins (ga K "World") dx []))
  have e52 := e5.trans en2
  refine ⟨x, dx, pl, D1, bq, D3, w, cx, bx, sx, rfl, upd_same, q1 (en2 _ _ upd_same), q1 ((e23.trans (e4.trans e52)) _ _ hD1), .inr (sameT (e4.trans e52) hbq), q1 (e52 _ _ hD3),
    pimp (fun _ _ h => ChAt.mono h (e23.trans (e4.trans e52))) k1, pimp (fun _ _ h => BrAt.mono h (e3.trans (e4.trans e52))) k2, pimp (fun _ _ h => ShAt.mono h e52) k3, f.pre, by omega, fun _ H' e hW ap => ⟨rfl, q _ H' cx bx sx ?_ hW fun l hl => ap l fun z => ?_⟩, n1, n2, n3⟩
  · exact (e14.trans e5).trans (e.new hx hd hne)
  · cases hh : H l with
    | none => exact hl hh
    | some u =>
      rw [(e14.trans e52) _ _ hh] at z
      cases z
/-! ### what is due -/
def sp__law_turned_due (K : PySem.W.Frag) : Sp := fun vs H Q _ => ∃ (p : Addr) (w : Wo), vs = [.ref p] ∧ ToldAt K H p w ∧ w.chs.length ≤ 1000 ∧ ∀ q H', Same H H' → ToldAt K H' q w.turn → Q (.ref q) H'
theorem r__law_turned_due {vs : List V} {H : Hp} {Q : VK} {E : XK} (h : sp__law_turned_due K vs H Q E) : t__law_turned_due K E (endsR Q) (start n__law_turned_due vs) H := by
  obtain ⟨p, w, rfl, ⟨pa, ca, ba, sa, ct, bt, st, t1, t2, t3, t4, t5, t6, t7, t8⟩, lc, q⟩ := h
  have d1 := plen t6
  rw [List.length_map] at d1
  refine ⟨_, .ref ca, .inr t1, rfl, _, _, _, .tup, t3, ?_⟩
  refine lc_rows (K := K) (F := fun H x c => RowAt K H x (Ch.row c)) (cs := w.chs) (fun c => c.flip.row) wk_tup (by omega) (fun H' e => sameT e t3) ?_ (fun x c H' Q' hx e q' => ?_) fun D2 H2 ct2 _ e2 hD2 k2 => ?_
  · refine pix (by omega) fun i x c hx hc => ?_
    obtain ⟨r, hr, hh⟩ := pget t6 hx
    rw [List.getElem?_map, hc] at hr
    cases hr
    exact hh
  · obtain ⟨b, rfl, hb⟩ := hx.mono e
    exact ⟨rfl, flip_row rfl hb fun p H'' e2 hp => q' _ H'' e2 ⟨p, rfl, hp⟩⟩
  refine ⟨ct2, .inl (.inl (.inl hD2)), fun c2 H3 e3 hc2 => ?_⟩
  have e23 := e2.trans e3
  refine ⟨_, rfl, .inr ⟨_, sameT e23 t1, fun u1 H4 e4 h4 => ⟨sz rfl, fun u2 hu2 => .inl ⟨_, _, sameT (Same.new hu2) h4, .inl (.inl upd_same), sz rfl, fun u3 H5 e5 h5 => ?_⟩⟩⟩⟩
  have e45 := (e4.trans (Same.new hu2)).trans e5
  refine ⟨_, rfl, .inr ⟨_, sameT (e23.trans e45) t1, fun u4 H6 e6 h6 => .inl ⟨_, _, sameT e6 h5, h6, sz rfl, fun u5 H7 e7 h7 => ?_⟩⟩⟩
  have e67 := e6.trans e7
  have eA := (e23.trans e45).trans e67
  refine q u5 H7 eA ⟨pa, c2, ba, sa, ct2, bt, st, h7, sameT eA t2, sameT (e45.trans e67) hc2, sameT eA t4, sameT eA t5, ?_, pimp (fun _ _ h => h.mono eA) t7, pimp (fun _ _ h => h.mono eA) t8⟩
  show Paired _ _ ((w.chs.map Ch.flip).map Ch.row)
  rw [List.map_map]
  exact pimp (fun _ _ h => h.mono ((e3.trans e45).trans e67)) k2
/-- [one[0] for one in rows] -/
theorem lc_first {J : It} {S : Hp → Prop} {xs : List V} {rows : List (List V)} {ns : List Str} {g : TG} {te : TE} {vs : List Nat} {σ : L2.St} {H : Hp} {Qd : Addr → Hp → Prop} (w : Wk J S xs) (sz : xs.length ≤ 100000) (st : ∀ H', Same H H' → S H') (pr : Paired (RowAt K H) xs rows) (hn : rows.map (·.head?) = ns.map (fun n => some (V.str n)))
    (hs : ∀ x n r H' (Q' : VK), RowAt K H' x (.str n :: r) → Q' (.str n) H' → g x (wipe σ vs) H' fun σ2 H2 => wipe σ2 vs = wipe σ vs ∧ te σ2 H2 Q')
    (hd : ∀ D H', H D = none → Same H H' → H' D = some (.lst (ns.map V.str)) → Qd D H') :
    ∀ D, H D = none → ∃ W : Nat → Nat → Hp → Prop, (∃ m, W 0 m (upd H D (.lst []))) ∧ ∀ i m H, W i m H →
      (J.stop i H ∧ Qd D H) ∨ (J.go i H ∧ ∃ Nx : Hp → Prop, (∀ H', Nx H' → ∃ m', m' < m ∧ W (i + 1) m' H') ∧ ∀ x H', J.yld i H x H' → g x (wipe σ vs) H' fun σ2 H2 => wipe σ2 vs = wipe σ vs ∧ tYes σ2 H2 fun b H3 =>
        if b = true then te σ2 H3 fun y H4 => ∃ acc, H4 D = some (.lst acc) ∧ acc.length < sizeLine ∧ Nx (upd H4 D (.lst (acc ++ [y]))) else Nx H3) := by
  have hl : rows.length = ns.length := by
    have := congrArg List.length hn
    rwa [List.length_map, List.length_map] at this
  refine lc_fld (α := Str × List V) (cs := rows.zip ns |>.map fun p => (p.2, p.1.drop 1)) (F := fun H x c => RowAt K H x (.str c.1 :: c.2)) (·.1) w sz st ?_ (fun x c H' Q' hx e q' => hs x c.1 c.2 H' Q' (hx.mono e) q') fun D H' hD e hy => hd D H' hD e (by
    rw [hy, List.map_map, List.map_map]
    congr 2
    show (rows.zip ns).map (V.str ∘ Prod.snd) = _
    rw [← List.map_map, List.map_snd_zip (by omega)])
  refine pix (by rw [List.length_map, List.length_zip, plen pr]; omega) fun i x c hx hc => ?_
  obtain ⟨row, hr, hh⟩ := pget pr hx
  rw [List.getElem?_map] at hc
  obtain ⟨pq, hpq, rfl⟩ := Option.map_eq_some_iff.mp hc
  obtain ⟨h1, h2⟩ := List.getElem?_zip_eq_some.mp hpq
  rw [hr] at h1
  cases h1
  have h3 : (rows.map (·.head?))[i]? = some (some (.str pq.2)) := by
    rw [hn, List.getElem?_map, h2]
    rfl
  rw [List.getElem?_map, hr] at h3
  have h4 : pq.1.head? = some (.str pq.2) := Option.some.inj h3
  obtain ⟨a, ex, ha⟩ := hh
  refine ⟨a, ex, ?_⟩
  cases e : pq.1 with
  | nil =>
    rw [e] at h4
    cases h4
  | cons v r =>
    rw [e] at h4 ha
    cases h4
    exact ha
theorem heads_ok (w : Wo) : (w.brs.map Br.row ++ w.shs.map Sh.row).map (·.head?) = w.vnames.map (fun n => some (V.str n)) := by
  unfold Wo.vnames
  simp only [List.map_append, List.map_map]
  rfl
end K76
/-! readings: what is due where a ship is added -/
namespace K76
open PySem PySem.Spec PyProof.Rows L2 SX
open He (ga ma fAd)
variable {K : PySem.W.Frag}
/-- the pair that tells the outcome -/
inductive OutAt (K : PySem.W.Frag) (H : Hp) (p : Addr) (w : Wo) (s : Sh) : Prop
  | full (h : 6 ≤ w.shs.length) (t : SqT K H p [.str "world", .str "ships"])
  | dup (h : w.shs.length ≤ 5) (n : s.name ∈ w.vnames) (t : SqT K H p [.str "doubled", .str s.name])
  | port (h : w.shs.length ≤ 5) (n : s.name ∉ w.vnames) (a : s.port ∉ w.ports) (t : SqT K H p [.str "port", .str s.port])
  | goal (h : w.shs.length ≤ 5) (n : s.name ∉ w.vnames) (a : s.port ∈ w.ports) (g : s.goal ∉ w.ports) (t : SqT K H p [.str "port", .str s.goal])
  | told (h : w.shs.length ≤ 5) (n : s.name ∉ w.vnames) (a : s.port ∈ w.ports) (g : s.goal ∈ w.ports) (q : Addr) (t : SqT K H p [.str "told", .ref q]) (k : ToldAt K H q (w.more s))
def sp__law_ship_due (K : PySem.W.Frag) : Sp := fun vs H Q _ => ∃ (p r : Addr) (w : Wo) (s : Sh), vs = [.ref p, .ref r] ∧ ToldAt K H p w ∧ w.Fine ∧ SqT K H r s.row ∧ ∀ q H', Same H H' → OutAt K H' q w s → Q (.ref q) H'
theorem vrows {H : Hp} {ct bt : List V} {w : Wo} (h7 : Paired (RowAt K H) ct (w.brs.map Br.row)) (h8 : Paired (RowAt K H) bt (w.shs.map Sh.row)) : Paired (RowAt K H) (ct ++ bt) (w.brs.map Br.row ++ w.shs.map Sh.row) := papp h7 h8
theorem r__law_ship_due {vs : List V} {H : Hp} {Q : VK} {E : XK} (h : sp__law_ship_due K vs H Q E) : t__law_ship_due K E (endsR Q) (start n__law_ship_due vs) H := by
  obtain ⟨p, r, w, s, rfl, ⟨pa, ca, ba, sa, ct, bt, st, t1, t2, t3, t4, t5, t6, t7, t8⟩, f, hr, q⟩ := h
  have lb := f.pre.nb
  have ls := f.ok.ns
  have d2 := plen t7
  have d3 := plen t8
  rw [List.length_map] at d2 d3
  refine ⟨_, .ref sa, .inr t1, rfl, st, .inr t5, _, rfl, ?_⟩
  by_cases h6 : 6 ≤ w.shs.length
  · refine iteT (decide_eq_true (by omega)) ⟨sz rfl, fun q0 h0 => ?_⟩
    exact q q0 _ (Same.new h0) (.full h6 (.inl (.inl upd_same)))
  refine iteF (decide_eq_false (by omega)) ?_
  have h5 : w.shs.length ≤ 5 := by omega
  refine ⟨_, .str s.name, .inr hr, rfl, _, .ref ba, .inr t1, rfl, _, .ref sa, .inr t1, rfl, .inl ⟨_, _, t4, t5, len_ok (by omega), fun u H1 e1 hu => ⟨_, _, _, .tup, hu, ?_⟩⟩⟩
  refine lc_first (K := K) (ns := w.vnames) wk_tup (by rw [List.length_append]; omega) (fun H' e => sameT e hu) (pimp (fun _ _ h => h.mono e1) (vrows t7 t8)) (heads_ok w) (fun x n r' H' Q' hx q' => ?_) fun D H2 _ e2 hD => ?_
  · obtain ⟨a, rfl, ha⟩ := hx
    exact ⟨rfl, _, .str n, .inr ha, atI_nat (j := 0) rfl, q'⟩
  have e12 := e1.trans e2
  refine .inl ⟨_, .inl (.inl (.inl hD)), rfl, flat_strs _, _, rfl, ?_⟩
  rw [inV_strs]
  by_cases hn : s.name ∈ w.vnames
  · refine iteT (by rw [decide_eq_true hn]; rfl) ⟨_, .str s.name, .inr (sameT e12 hr), rfl, sz rfl, fun q0 h0 => ?_⟩
    exact q q0 _ (e12.trans (Same.new h0)) (.dup h5 hn (.inl (.inl upd_same)))
  refine iteF (by rw [decide_eq_false hn]; rfl) ?_
  refine ⟨1, rfl, 3, rfl, .inr ⟨_, sameT e12 hr, fun u3 H3 e3 h3 => ⟨_, _, _, .tup, h3, ?_⟩⟩⟩
  have e13 := e12.trans e3
  refine for_wk wk_tup (fun i σ H' => (∃ v, σ = [some (.ref p), some (.ref r), v, none]) ∧ Same H3 H' ∧ (1 ≤ i → s.port ∈ w.ports) ∧ (2 ≤ i → s.goal ∈ w.ports)) ⟨⟨none, rfl⟩, Same.refl _, fun z => by omega, fun z => by omega⟩ (fun i σ H' _ P => sameT P.2.1 h3) ?_ ?_
  · rintro i x _ H' hx ⟨⟨v, rfl⟩, e, k1, k2⟩
    have eA := e13.trans e
    have hi : i < 2 := (List.getElem?_eq_some_iff.mp hx).1
    have cases2 : i = 0 ∨ i = 1 := by omega
    rcases cases2 with rfl | rfl
    · cases hx
      refine ⟨_, .ref pa, .inr (sameT eA t1), rfl, .inl ⟨_, .inr (sameT eA t2), rfl, flat_strs _, _, rfl, ?_⟩⟩
      rw [inV_strs]
      by_cases hp : s.port ∈ w.ports
      · exact iteF (by rw [decide_eq_true hp]; rfl) ⟨⟨_, rfl⟩, e, fun _ => hp, fun z => by omega⟩
      · refine iteT (by rw [decide_eq_false hp]; rfl) ⟨sz rfl, fun q0 h0 => ?_⟩
        exact q q0 _ (eA.trans (Same.new h0)) (.port h5 hn hp (.inl (.inl upd_same)))
    · cases hx
      refine ⟨_, .ref pa, .inr (sameT eA t1), rfl, .inl ⟨_, .inr (sameT eA t2), rfl, flat_strs _, _, rfl, ?_⟩⟩
      rw [inV_strs]
      by_cases hp : s.goal ∈ w.ports
      · exact iteF (by rw [decide_eq_true hp]; rfl) ⟨⟨_, rfl⟩, e, fun _ => k1 (by omega), fun _ => hp⟩
      · refine iteT (by rw [decide_eq_false hp]; rfl) ⟨sz rfl, fun q0 h0 => ?_⟩
        exact q q0 _ (eA.trans (Same.new h0)) (.goal h5 hn (k1 (by omega)) hp (.inl (.inl upd_same)))
  · rintro _ H4 ⟨⟨v, rfl⟩, e4, k1, k2⟩
    have hp := k1 (by show 1 ≤ 2; omega)
    have hg := k2 (by show 2 ≤ 2; omega)
    have e14 := e13.trans e4
    refine ⟨4, rfl, .inr ⟨_, sameT e14 t1, fun u5 H5 e5 k5 => ?_⟩⟩
    have e15 := e14.trans e5
    refine ⟨_, .ref sa, .inr (sameT e15 t1), rfl, sz rfl, fun u6 h6 => .inl ⟨_, _, sameT (e15.trans (Same.new h6)) t5, .inl (.inl upd_same), len_ok (by simp only [List.length_cons, List.length_nil]; omega), fun u7 H7 e7 h7 => ⟨sz rfl, fun u8 h8 => .inl ⟨_, _, sameT (((Same.new h6).trans e7).trans (Same.new h8)) k5, .inl (.inl upd_same), sz rfl, fun u9 H9 e9 h9 => ⟨sz rfl, fun q0 h0 => ?_⟩⟩⟩⟩⟩
    have e6 := Same.new (o := .tup [.ref r]) h6
    have e8 := Same.new (o := .tup [.ref u7]) h8
    have e10 := Same.new (o := .tup [.str "told", .ref u9]) h0
    have eB := (((((e15.trans e6).trans e7).trans e8).trans e9).trans e10)
    refine q q0 _ eB (.told h5 hn hp hg u9 (.inl (.inl upd_same)) ⟨pa, ca, ba, u7, ct, bt, st ++ [.ref r], sameT e10 h9, sameT eB t2, sameT eB t3, sameT eB t4, sameT ((e8.trans e9).trans e10) h7, pimp (fun _ _ h => h.mono eB) t6, pimp (fun _ _ h => h.mono eB) t7, ?_⟩)
    show Paired _ _ ((w.shs ++ [s]).map Sh.row)
    rw [List.map_append]
    exact papp (pimp (fun _ _ h => h.mono eB) t8) (.cons ⟨r, rfl, sameT eB hr⟩ .nil)
/-! ### the same by the world's own checks -/
structure Kx2 (K : PySem.W.Frag) : Prop where
  wd : PySem.W.exmOne K (.ref (ga K "NoWorld")) (.ref (ga K "NoWorld")) = some true
  dw : PySem.W.exmOne K (.ref (ga K "Doubled")) (.ref (ga K "NoWorld")) = some false
  dd : PySem.W.exmOne K (.ref (ga K "Doubled")) (.ref (ga K "Doubled")) = some true
  pw : PySem.W.exmOne K (.ref (ga K "NoPort")) (.ref (ga K "NoWorld")) = some false
  pd : PySem.W.exmOne K (.ref (ga K "NoPort")) (.ref (ga K "Doubled")) = some false
  pp : PySem.W.exmOne K (.ref (ga K "NoPort")) (.ref (ga K "NoPort")) = some true
def sp__law_with (K : PySem.W.Frag) : Sp := fun vs H Q _ => ∃ (x : V) (r : Addr) (w : Wo) (cx bx sx : List V) (s : Sh), vs = [x, .ref r] ∧ WoAt K H x w cx bx sx ∧ w.Fine ∧ SqT K H r s.row ∧ s.Ok ∧ ∀ q H', Same H H' → OutAt K H' q w s → Q (.ref q) H'
theorem Wo.Fine.more {w : Wo} (f : w.Fine) {s : Sh} (hs : s.Ok) (h5 : w.shs.length ≤ 5) (hn : s.name ∉ w.vnames) (hp : s.port ∈ w.ports) (hg : s.goal ∈ w.ports) : (w.more s).Fine := by
  obtain ⟨pre, ok, cok, bok, sok⟩ := f
  refine ⟨⟨pre.beg, pre.np, pre.ports, pre.pnd, pre.nc, pre.cnd, pre.cp, pre.nb, pre.bp⟩, ⟨?_, ?_, fun t ht => ?_⟩, cok, bok, fun t ht => ?_⟩
  · show (w.shs ++ [s]).length ≤ 6
    rw [List.length_append]
    simp only [List.length_cons, List.length_nil]
    omega
  · have e0 : (w.more s).vnames = w.vnames ++ [s.name] := by
      show w.brs.map (·.name) ++ (w.shs ++ [s]).map (·.name) = (w.brs.map (·.name) ++ w.shs.map (·.name)) ++ [s.name]
      rw [List.map_append, List.append_assoc]
      rfl
    rw [e0]
    exact List.nodup_append.mpr ⟨ok.vnd, by simp, fun a ha b hb => by
      simp only [List.mem_cons, List.not_mem_nil, or_false] at hb
      subst hb
      exact fun z => hn (z ▸ ha)⟩
  · rcases List.mem_append.mp ht with ht | ht
    · exact ok.sp t ht
    · simp only [List.mem_cons, List.not_mem_nil, or_false] at ht
      subst ht
      exact ⟨hp, hg⟩
  · rcases List.mem_append.mp ht with ht | ht
    · exact sok t ht
    · simp only [List.mem_cons, List.not_mem_nil, or_false] at ht
      subst ht
      exact hs
theorem Ok.of {w : Wo} (f : w.Fine) {s : Sh} (ok : (w.more s).Ok) : w.shs.length ≤ 5 ∧ s.name ∉ w.vnames ∧ s.port ∈ w.ports ∧ s.goal ∈ w.ports := by
  have h1 : (w.shs ++ [s]).length ≤ 6 := ok.ns
  rw [List.length_append] at h1
  simp only [List.length_cons, List.length_nil] at h1
  have h2 := ok.sp s (show s ∈ w.shs ++ [s] by simp)
  refine ⟨by omega, fun hx => ?_, h2.1, h2.2⟩
  have e0 : (w.more s).vnames = w.vnames ++ [s.name] := by
    show w.brs.map (·.name) ++ (w.shs ++ [s]).map (·.name) = (w.brs.map (·.name) ++ w.shs.map (·.name)) ++ [s.name]
    rw [List.map_append, List.append_assoc]
    rfl
  exact nodup_no ok.vnd e0 hx
theorem r__law_with (X : Kx2 K) {vs : List V} {H : Hp} {Q : VK} {E : XK} (h : sp__law_with K vs H Q E) : t__law_with K (sp_with_ship K) (sp_Ship___init__ K) (okW sp_told K) E (endsR Q) (start n__law_with vs) H := by
  obtain ⟨x, r, w, cx, bx, sx, s, rfl, hW, f, hr, ok, q⟩ := h
  obtain ⟨a, dx, pl, cl, bl, sl, rfl, h1, h2, h3, h4, h5, h6, h7, h8⟩ := id hW
  have lc := f.pre.nc
  have lb := f.pre.nb
  have ls := f.ok.ns
  have c1 := plen h6
  have c2 := plen h7
  have c3 := plen h8
  refine ⟨sz rfl, fun p0 hp0 => ?_⟩
  have e0 := Same.new (o := .tup [.str "other"]) hp0
  have hr0 := sameT e0 hr
  refine ⟨_, .str s.name, .inr hr0, rfl, _, .str s.port, .inr hr0, rfl, _, .str s.goal, .inr hr0, rfl, _, .int s.hour, .inr hr0, rfl, _, .int s.strength, .inr hr0, rfl, _, .int s.draught, .inr hr0, rfl, fun y dy hy hd hne => ⟨y, dy, s, rfl, ok, upd_same, fun H1 e1 hy1 => ⟨rfl, ?_⟩⟩⟩
  have e1 := e0.trans (e1.new hy hd hne)
  have fin : ∀ (H2 : Hp) (y1 y2 : V) (d : Addr) (fl : Str), Same H1 H2 → H2 d = none → True := fun _ _ _ _ _ _ _ => True.intro
  refine ⟨.ref a, w, cx, bx, sx, .ref y, s, rfl, hW.mono e1, f, ⟨y, dy, rfl, hy1⟩, fun wok z H2 e2 hz => ?_, fun hl H2 e2 d hd => ?_, fun hl hn H2 e2 d hd => ?_, fun hl hn hp H2 e2 d hd => ?_, fun hl hn hp hg H2 e2 d hd => ?_⟩
  · obtain ⟨h5', hn, hp, hg⟩ := Ok.of f wok
    obtain ⟨b, db, pl', cl', bl', sl', rfl, hb, _⟩ := id hz
    refine ⟨b, _, db, _, _, rfl, hb, rfl, ⟨rfl, rfl⟩, _, w.more s, cx, bx, sx ++ [.ref y], rfl, hz, by omega, by omega, by rw [List.length_append]; simp only [List.length_cons, List.length_nil]; omega, fun t H3 e3 ht => ⟨sz rfl, fun q0 h0 => ?_⟩⟩
    have e4 := Same.new (o := .tup [.str "told", .ref t]) h0
    exact q q0 _ (((e1.trans e2).trans e3).trans e4) (.told h5' hn hp hg t (.inl (.inl upd_same)) (ht.mono e4))
  · have e3 := Same.new (o := .xd [("found", .str "ships")]) hd
    refine ⟨true, X.wd, fun _ e he => ⟨rfl, rfl, d, _, .str "ships", rfl, upd_same, rfl, sz rfl, fun q0 h0 => ?_⟩, fun z => by cases z⟩
    have e4 := Same.new (o := .tup [.str "world", .str "ships"]) h0
    exact q q0 _ (((e1.trans e2).trans e3).trans e4) (.full hl (.inl (.inl upd_same)))
  · have e3 := Same.new (o := .xd [("name", .str s.name)]) hd
    refine ⟨false, X.dw, (fun z => by cases z), fun _ => ⟨true, X.dd, fun _ e he => ⟨rfl, rfl, d, _, .str s.name, rfl, upd_same, rfl, sz rfl, fun q0 h0 => ?_⟩, fun z => by cases z⟩⟩
    have e4 := Same.new (o := .tup [.str "doubled", .str s.name]) h0
    exact q q0 _ (((e1.trans e2).trans e3).trans e4) (.dup hl hn (.inl (.inl upd_same)))
  · have e3 := Same.new (o := .xd [("found", .str s.port)]) hd
    refine ⟨false, X.pw, (fun z => by cases z), fun _ => ⟨false, X.pd, (fun z => by cases z), fun _ => ⟨true, X.pp, fun _ e he => ⟨rfl, rfl, d, _, .str s.port, rfl, upd_same, rfl, sz rfl, fun q0 h0 => ?_⟩, fun z => by cases z⟩⟩⟩
    have e4 := Same.new (o := .tup [.str "port", .str s.port]) h0
    exact q q0 _ (((e1.trans e2).trans e3).trans e4) (.port hl hn hp (.inl (.inl upd_same)))
  · have e3 := Same.new (o := .xd [("found", .str s.goal)]) hd
    refine ⟨false, X.pw, (fun z => by cases z), fun _ => ⟨false, X.pd, (fun z => by cases z), fun _ => ⟨true, X.pp, fun _ e he => ⟨rfl, rfl, d, _, .str s.goal, rfl, upd_same, rfl, sz rfl, fun q0 h0 => ?_⟩, fun z => by cases z⟩⟩⟩
    have e4 := Same.new (o := .tup [.str "port", .str s.goal]) h0
    exact q q0 _ (((e1.trans e2).trans e3).trans e4) (.goal hl hn hp hg (.inl (.inl upd_same)))
end K76
/-! readings: data, what is due without a vessel, the same things -/
namespace K76
open PySem PySem.Spec PyProof.Rows L2 SX
open He (ga ma fAd)
variable {K : PySem.W.Frag}
def rowD (r : List V) : PyData := .tuple (r.map pd)
def toldD (w : Wo) : PyData := .tuple [.int w.beg, .tuple (w.ports.map PyData.str), .tuple (w.chs.map fun c => rowD c.row), .tuple (w.brs.map fun c => rowD c.row), .tuple (w.shs.map fun c => rowD c.row)]
theorem dp_rows {H : Hp} {α : Type} {f : α → List V} (hf : ∀ c, (f c).all flatD = true) {vs : List V} {cs : List α} (h : Paired (RowAt K H) vs (cs.map f)) : DpAll K H vs (cs.map fun c => rowD (f c)) := by
  have h2 : Paired (fun v c => RowAt K H v (f c)) vs cs := pix (by have := plen h; rw [List.length_map] at this; exact this) fun i a b ha hb => by
    obtain ⟨r, hr, hh⟩ := pget h ha
    rw [List.getElem?_map, hb] at hr
    cases hr
    exact hh
  exact dp_paired (fun v c ⟨a, ex, ha⟩ => by
    subst ex
    exact dp_tup ha (hf c)) h2
theorem dp_strs {H : Hp} : ∀ zs : List Str, DpAll K H (zs.map V.str) (zs.map PyData.str)
  | [] => .nil
  | z :: zs => .cons (.str z) (dp_strs zs)
theorem dp_told {H : Hp} {p : Addr} {w : Wo} (h : ToldAt K H p w) : Dp K H (.ref p) (toldD w) := by
  obtain ⟨pa, ca, ba, sa, ct, bt, st, h1, h2, h3, h4, h5, h6, h7, h8⟩ := h
  exact .tup h1 (.cons (.int _) (.cons (.tup h2 (dp_strs _)) (.cons (.tup h3 (dp_rows (fun _ => rfl) h6)) (.cons (.tup h4 (dp_rows (fun _ => rfl) h7)) (.cons (.tup h5 (dp_rows (fun _ => rfl) h8)) .nil)))))
theorem good_name {z : Str} (h : IsName z) : Good (.str z) 0 8 := good_str h.len.2.1 fun c hc => by
  have := h.len.2.2 c hc
  rw [lets_list] at this
  obtain ⟨n, hn, rfl⟩ := List.mem_map.mp this
  have := List.mem_range.mp hn
  omega
theorem goods {n k : Nat} {α : Type} {f : α → PyData} {cs : List α} (h : ∀ c ∈ cs, Good (f c) n k) : ∀ d ∈ cs.map f, Good d n k := fun d hd => by
  obtain ⟨c, hc, rfl⟩ := List.mem_map.mp hd
  exact h c hc
theorem gi {i lo hi : Int} (h : lo ≤ i ∧ i ≤ hi) (h0 : 0 ≤ lo := by decide) (h1 : hi ≤ 1000000 := by decide) : Good (.int i) 0 8 := (SX.good_int (by omega)).le (Nat.le_refl _) (Nat.zero_le _)
theorem good_ch {c : Ch} (h : c.Ok) : Good (rowD c.row) 1 72 := by
  refine good_tup (n := 0) (k := 8) fun d hd => ?_
  simp only [Ch.row, List.map_cons, List.map_nil, List.mem_cons, List.not_mem_nil, or_false] at hd
  have h3 := h.first
  have h4 := h.most
  rcases hd with rfl | rfl | rfl | rfl | rfl | rfl | rfl | rfl
  · exact good_name h.name
  · exact good_name h.one
  · exact good_name h.other
  · exact gi h.hours
  · exact gi h.depth
  · exact gi h.first
  · exact gi h.growth
  · exact gi (lo := 0) (hi := 1000000) ⟨by omega, h4.2⟩
theorem good_br {c : Br} (h : c.Ok) : Good (rowD c.row) 1 72 := by
  refine (good_tup (n := 0) (k := 8) fun d hd => ?_).le (Nat.le_refl _) (by decide : 6 * 9 ≤ 72)
  simp only [Br.row, List.map_cons, List.map_nil, List.mem_cons, List.not_mem_nil, or_false] at hd
  rcases hd with rfl | rfl | rfl | rfl | rfl | rfl
  · exact good_name h.name
  · exact good_name h.port
  · exact gi h.hour
  · exact gi h.strength
  · exact gi h.draught
  · exact gi h.cut
theorem good_sh {c : Sh} (h : c.Ok) : Good (rowD c.row) 1 72 := by
  refine (good_tup (n := 0) (k := 8) fun d hd => ?_).le (Nat.le_refl _) (by decide : 6 * 9 ≤ 72)
  simp only [Sh.row, List.map_cons, List.map_nil, List.mem_cons, List.not_mem_nil, or_false] at hd
  rcases hd with rfl | rfl | rfl | rfl | rfl | rfl
  · exact good_name h.name
  · exact good_name h.port
  · exact good_name h.goal
  · exact gi h.hour
  · exact gi h.strength
  · exact gi h.draught
theorem good_told {w : Wo} (f : w.Fine) : Good (toldD w) 3 5005 := by
  refine good_tup (n := 2) (k := 1000) fun d hd => ?_
  simp only [List.mem_cons, List.not_mem_nil, or_false] at hd
  have l1 := f.pre.np.2
  have l2 := f.pre.nc
  have l3 := f.pre.nb
  have l4 := f.ok.ns
  rcases hd with rfl | rfl | rfl | rfl | rfl
  · exact (gi f.pre.beg).le (by decide) (by decide)
  · refine (good_tup (n := 0) (k := 8) (goods fun z hz => good_name (f.pre.ports z hz))).le (by decide) ?_
    rw [List.length_map]
    omega
  · refine (good_tup (n := 1) (k := 72) (goods fun z hz => good_ch (f.cok z hz))).le (by decide) ?_
    rw [List.length_map]
    omega
  · refine (good_tup (n := 1) (k := 72) (goods fun z hz => good_br (f.bok z hz))).le (by decide) ?_
    rw [List.length_map]
    omega
  · refine (good_tup (n := 1) (k := 72) (goods fun z hz => good_sh (f.sok z hz))).le (by decide) ?_
    rw [List.length_map]
    omega
/-- the outcome as data -/
def outD (w : Wo) (s : Sh) : PyData := if 6 ≤ w.shs.length then .tuple [.str "world", .str "ships"] else if s.name ∈ w.vnames then .tuple [.str "doubled", .str s.name] else if s.port ∉ w.ports then .tuple [.str "port", .str s.port]
  else if s.goal ∉ w.ports then .tuple [.str "port", .str s.goal] else .tuple [.str "told", toldD (w.more s)]
theorem dp_out {H : Hp} {p : Addr} {w : Wo} {s : Sh} (h : OutAt K H p w s) : Dp K H (.ref p) (outD w s) := by
  unfold outD
  cases h with
  | full h t =>
    rw [if_pos h]
    exact dp_tup t rfl
  | dup h n t =>
    rw [if_neg (by omega), if_pos n]
    exact dp_tup t rfl
  | port h n a t =>
    rw [if_neg (by omega), if_neg n, if_pos a]
    exact dp_tup t rfl
  | goal h n a g t =>
    rw [if_neg (by omega), if_neg n, if_neg (by simpa using a), if_pos g]
    exact dp_tup t rfl
  | told h n a g q t k =>
    rw [if_neg (by omega), if_neg n, if_neg (by simpa using a), if_neg (by simpa using g)]
    exact .tup t (.cons (.str _) (.cons (dp_told k) .nil))
theorem good_out {w : Wo} {s : Sh} (f : w.Fine) (hs : s.Ok) : Good (outD w s) 4 20000 := by
  have two : ∀ {a b : Str}, Good (.str a) 0 8 → Good (.str b) 0 8 → Good (.tuple [.str a, .str b]) 4 20000 := fun {a b} ga gb => (good_tup (n := 0) (k := 8) fun d hd => by
    simp only [List.mem_cons, List.not_mem_nil, or_false] at hd
    rcases hd with rfl | rfl
    · exact ga
    · exact gb).le (by decide) (by show 2 * 9 ≤ 20000; decide)
  have lit : ∀ {a : Str}, (decide (a.length ≤ 8) && a.cps.toList.all fun c => decide (c < 128)) = true → Good (.str a) 0 8 := fun {a} h => by
    rw [Bool.and_eq_true, decide_eq_true_eq, List.all_eq_true] at h
    exact good_str h.1 fun c hc => of_decide_eq_true (h.2 c hc)
  unfold outD
  split
  · exact two (lit (by decide +kernel)) (lit (by decide +kernel))
  rename_i h1
  split
  · exact two (lit (by decide +kernel)) (good_name hs.name)
  rename_i h2
  split
  · exact two (lit (by decide +kernel)) (good_name hs.port)
  rename_i h3
  split
  · exact two (lit (by decide +kernel)) (good_name hs.goal)
  rename_i h4
  refine (good_tup (n := 3) (k := 5005) fun d hd => ?_).le (by decide) (by show 2 * 5006 ≤ 20000; decide)
  simp only [List.mem_cons, List.not_mem_nil, or_false] at hd
  rcases hd with rfl | rfl
  · exact (lit (a := "told") (by decide +kernel)).le (by decide) (by decide)
  · exact good_told (f.more hs (by omega) h2 (Classical.not_not.mp h3) (Classical.not_not.mp h4))
/-! ### without -/
def sp__law_without_due (K : PySem.W.Frag) : Sp := fun vs H Q _ => ∃ (p : Addr) (w : Wo) (n : Str), vs = [.ref p, .str n] ∧ ToldAt K H p w ∧ w.Fine ∧ ∀ q H', Same H H' → ToldAt K H' q (w.less n) → Q (.ref q) H'
theorem mV_at {σ : L2.St} {i : Nat} {v : V} {H : Hp} {Q : VK} (h : σ[i]? = some (some v)) : mV i σ H Q = Q v H := by
  unfold mV
  rw [h]
/-- tuple([row for row in some if row[0] != name]) -/
theorem cut_rows {α : Type} {f : α → List V} {nm : α → Str} {σ : L2.St} {H : Hp} {a : Addr} {n : Str} {xs : List V} {cs : List α} {Q : VK} (h3 : σ[3]? = some (some (.ref a))) (h1 : σ[1]? = some (some (.str n))) (h5 : σ.length = 5) (ha : SqT K H a xs) (hl : xs.length ≤ 1000)
    (pr : Paired (fun v c => RowAt K H v (f c)) xs cs) (hf : ∀ c, ∃ r, f c = .str (nm c) :: r) (q : ∀ t H' ys, Same H H' → SqT K H' t ys → Paired (fun v c => RowAt K H' v (f c)) ys (cs.filter fun c => !decide (nm c = n)) → Q (.ref t) H') :
    tCB (mTuple K) (tCons (tLc (mSeq K (mV 3)) (gName 4) (tTest (tOp (mEq K true) (tOp (mIx K) (mV 4) (tC (.int 0))) (mV 1))) (mV 4) [4]) tNil) σ H Q := by
  have w1 : (wipe σ [4])[1]? = some (some (.str n)) := by
    show (σ.set 4 none)[1]? = _
    rw [List.getElem?_set_ne (by decide)]
    exact h1
  unfold tCB
  show tLc _ _ _ _ _ σ H _
  unfold tLc mSeq
  rw [mV_at h3]
  refine ⟨_, _, _, .tup, ha, ?_⟩
  refine lc_pure wk_tup (fun i => ((cs[i]?).map fun c => !decide (nm c = n)).getD false) (fun i => xs.getD i .non) (by omega) (fun H' e => sameT e ha) (fun i x H' Q' R' hx e qy qn => ?_) fun D H2 _ e2 hD => ?_
  · obtain ⟨c, hc, hh⟩ := pget pr hx
    obtain ⟨r, hr⟩ := hf c
    obtain ⟨b, rfl, hb⟩ := hh
    rw [hr] at hb
    rw [hc] at qy qn
    have k4 : ((wipe σ [4]).set 4 (some (V.ref b)))[4]? = some (some (.ref b)) := List.getElem?_set_self (by show 4 < (σ.set 4 none).length; rw [List.length_set, h5]; decide)
    have k1 : ((wipe σ [4]).set 4 (some (V.ref b)))[1]? = some (some (.str n)) := by
      rw [List.getElem?_set_ne (by decide)]
      exact w1
    refine ⟨wipe_set, ?_⟩
    unfold tTest tOp
    rw [mV_at k4]
    refine ⟨_, .str (nm c), .inr (sameT e hb), atI_nat (j := 0) rfl, ?_⟩
    show mV 1 ((wipe σ [4]).set 4 (some (V.ref b))) H' _
    rw [mV_at k1]
    refine ⟨_, rfl, ?_⟩
    have qy : (!decide (nm c = n)) = true → ∀ H'', Same H' H'' → Q' (xs.getD i .non) H'' := qy
    have qn : (!decide (nm c = n)) = false → ∀ H'', Same H' H'' → R' H'' := qn
    cases ec : decide (nm c = n) with
    | true => exact iteF rfl (qn (by rw [ec]; rfl) H' (Same.refl _))
    | false =>
      refine iteT rfl ?_
      rw [mV_at k4]
      have := qy (by rw [ec]; rfl) H' (Same.refl _)
      rw [List.getD_eq_getElem?_getD, hx] at this
      exact this
  · exact ⟨_, .inl (.inl (.inl hD)), fun t H3 e3 ht => q t H3 _ (e2.trans e3) ht (pcut (fun c => !decide (nm c = n)) (pimp (fun _ _ h => h.mono (e2.trans e3)) pr))⟩
theorem prow {α : Type} {f : α → List V} {H : Hp} {vs : List V} {cs : List α} (h : Paired (RowAt K H) vs (cs.map f)) : Paired (fun v c => RowAt K H v (f c)) vs cs := pix (by have := plen h; rw [List.length_map] at this; exact this) fun i a b ha hb => by
  obtain ⟨r, hr, hh⟩ := pget h ha
  rw [List.getElem?_map, hb] at hr
  cases hr
  exact hh
theorem r__law_without_due {vs : List V} {H : Hp} {Q : VK} {E : XK} (h : sp__law_without_due K vs H Q E) : t__law_without_due K E (endsR Q) (start n__law_without_due vs) H := by
  obtain ⟨p, w, n, rfl, ⟨pa, ca, ba, sa, ct, bt, st, t1, t2, t3, t4, t5, t6, t7, t8⟩, f, q⟩ := h
  have lb := f.pre.nb
  have ls := f.ok.ns
  have d2 := plen t7
  have d3 := plen t8
  rw [List.length_map] at d2 d3
  refine ⟨3, rfl, .inr ⟨_, t1, fun u1 H1 e1 h1 => ⟨_, _, _, .tup, h1, ?_⟩⟩⟩
  refine lc_new (α := Bool) X0 (fun _ _ => True) (fun H y c => ∃ a ys, y = .ref a ∧ SqT K H a ys ∧ if c = true then Paired (fun v c => RowAt K H v (Br.row c)) ys (w.brs.filter fun c => !decide (c.name = n)) else Paired (fun v c => RowAt K H v (Sh.row c)) ys (w.shs.filter fun c => !decide (c.name = n))) [true, false] wk_tup rfl
    (by show 2 ≤ 100000; decide) (fun _ z => z.elim) True.intro (fun _ _ _ _ _ => True.intro) (fun H1 H2 y c h e => ?_) (fun H' e => sameT e.same h1) (fun i x c H' Q' hx hc e _ q' => ?_) fun D H2 ys hD e2 _ hy pr => ?_
  · obtain ⟨a, ys, ex, ha, hc⟩ := h
    refine ⟨a, ys, ex, sqtN x0 e ha, ?_⟩
    cases c with
    | true => exact pimp (fun _ _ ⟨b, e1, e2⟩ => ⟨b, e1, sqtN x0 e e2⟩) hc
    | false => exact pimp (fun _ _ ⟨b, e1, e2⟩ => ⟨b, e1, sqtN x0 e e2⟩) hc
  · have hi : i < 2 := (List.getElem?_eq_some_iff.mp hx).1
    have eA := e1.trans e.same
    have cases2 : i = 0 ∨ i = 1 := by omega
    rcases cases2 with rfl | rfl
    · cases hx
      cases hc
      exact ⟨rfl, cut_rows (K := K) (f := Br.row) (nm := (·.name)) rfl rfl rfl (sameT eA t4) (by omega) (pimp (fun _ _ h => h.mono eA) (prow t7)) (fun c => ⟨_, rfl⟩) fun t H'' ys e2 ht hp => q' _ H'' (SameX.of e2) True.intro ⟨t, ys, rfl, ht, hp⟩⟩
    · cases hx
      cases hc
      exact ⟨rfl, cut_rows (K := K) (f := Sh.row) (nm := (·.name)) rfl rfl rfl (sameT eA t5) (by omega) (pimp (fun _ _ h => h.mono eA) (prow t8)) (fun c => ⟨_, rfl⟩) fun t H'' ys e2 ht hp => q' _ H'' (SameX.of e2) True.intro ⟨t, ys, rfl, ht, hp⟩⟩
  · cases pr with
    | cons k1 pr =>
      cases pr with
      | cons k2 pr =>
        cases pr
        obtain ⟨b1, y1, rfl, hb1, p1⟩ := k1
        obtain ⟨b2, y2, rfl, hb2, p2⟩ := k2
        have e12 := e1.trans e2.same
        refine ⟨3, rfl, .inr ⟨_, sameT e12 t1, fun u2 H3 e3 h3 => ⟨_, .ref b1, .inl (.inl (.inl (e3 _ _ hy))), rfl, _, .ref b2, .inl (.inl (.inl (e3 _ _ hy))), rfl, sz rfl, fun u3 hu3 => .inl ⟨_, _, sameT (Same.new hu3) h3, .inl (.inl upd_same), sz rfl, fun u4 H4 e4 h4 => ?_⟩⟩⟩⟩
        have e24 := (e3.trans (Same.new (o := .tup [.ref b1, .ref b2]) hu3)).trans e4
        have eA := e12.trans e24
        exact q u4 H4 eA ⟨pa, ca, b1, b2, ct, y1, y2, h4, sameT eA t2, sameT eA t3, sameT e24 hb1, sameT e24 hb2, pimp (fun _ _ h => h.mono eA) t6, pmap (pimp (fun _ _ h => RowAt.mono h e24) p1), pmap (pimp (fun _ _ h => RowAt.mono h e24) p2)⟩
end K76
/-! readings: the same things, a new ship -/
namespace K76
open PySem PySem.Spec PyProof.Rows L2 SX
open He (ga ma fAd)
variable {K : PySem.W.Frag}
structure Ko (K : PySem.W.Frag) : Prop where
  c : OeqA K (ga K "Channel")
  b : OeqA K (ga K "Breaker")
  s : OeqA K (ga K "Ship")
/-- instances told apart by identity -/
def Things (K : PySem.W.Frag) (H : Hp) (xs : List V) : Prop := ∃ as : List Addr, xs = as.map V.ref ∧ ∀ a ∈ as, Idy K H a
theorem Idy.mono {H H' : Hp} {a : Addr} (h : Idy K H a) (e : Same H H') : Idy K H' a := let ⟨C, dx, fs, ha, o⟩ := h; ⟨C, dx, fs, e _ _ ha, o⟩
theorem things_of {H : Hp} {α : Type} {F : V → α → Prop} (h : ∀ v c, F v c → ∃ a, v = .ref a ∧ Idy K H a) : ∀ {xs : List V} {cs : List α}, Paired F xs cs → Things K H xs
  | _, _, .nil => ⟨[], rfl, fun _ z => by cases z⟩
  | _, _, .cons k t => by
    obtain ⟨as, e, ha⟩ := things_of h t
    obtain ⟨a, e2, hi⟩ := h _ _ k
    refine ⟨a :: as, by rw [e2, e]; rfl, fun b hb => ?_⟩
    rcases List.mem_cons.mp hb with rfl | hb
    · exact hi
    · exact ha b hb
theorem things_app {H : Hp} {xs ys : List V} (h : Things K H xs) (h' : Things K H ys) : Things K H (xs ++ ys) := by
  obtain ⟨as, rfl, ha⟩ := h
  obtain ⟨bs, rfl, hb⟩ := h'
  refine ⟨as ++ bs, by rw [List.map_append], fun c hc => ?_⟩
  rcases List.mem_append.mp hc with h | h
  · exact ha c h
  · exact hb c h
theorem Things.mono {H H' : Hp} {xs : List V} (h : Things K H xs) (e : Same H H') : Things K H' xs := let ⟨as, ex, ha⟩ := h; ⟨as, ex, fun a hm => Idy.mono (ha a hm) e⟩
theorem things_ch (O : Ko K) {H : Hp} {xs : List V} {cs : List Ch} (h : Paired (ChAt K H) xs cs) : Things K H xs := things_of (fun _ _ ⟨a, dx, ex, ha⟩ => ⟨a, ex, _, dx, _, ha, O.c⟩) h
theorem things_br (O : Ko K) {H : Hp} {xs : List V} {cs : List Br} (h : Paired (BrAt K H) xs cs) : Things K H xs := things_of (fun _ _ ⟨a, dx, ex, ha⟩ => ⟨a, ex, _, dx, _, ha, O.b⟩) h
theorem things_sh (O : Ko K) {H : Hp} {xs : List V} {cs : List Sh} (h : Paired (ShAt K H) xs cs) : Things K H xs := things_of (fun _ _ ⟨a, dx, ex, ha⟩ => ⟨a, ex, _, dx, _, ha, O.s⟩) h
def sp__law_same_things (K : PySem.W.Frag) : Sp := fun vs H Q _ => ∃ x y w w' cx bx sx cx' bx' sx', vs = [x, y] ∧ WoAt K H x w cx bx sx ∧ WoAt K H y w' cx' bx' sx' ∧ (∀ z ∈ cx, z ∈ cx') ∧ (∀ z ∈ bx ++ sx, z ∈ bx' ++ sx') ∧
  cx.length ≤ 1000 ∧ bx.length + sx.length ≤ 1000 ∧ bx'.length + sx'.length ≤ 1000 ∧ ∀ H', Same H H' → Q (.bl true) H'
def PairAt (K : PySem.W.Frag) (H : Hp) (x : V) : Prop := ∃ (t s m : Addr) (xs ys : List V), x = .ref t ∧ SqT K H t [.ref s, .ref m] ∧ SqL K H s xs ∧ SqL K H m ys ∧ Things K H xs ∧ Things K H ys ∧ (∀ z ∈ xs, z ∈ ys) ∧ xs.length ≤ 1000
theorem PairAt.mono {H H' : Hp} {x : V} (h : PairAt K H x) (e : Same H H') : PairAt K H' x := let ⟨t, s, m, xs, ys, h1, h2, h3, h4, h5, h6, h7, h8⟩ := h; ⟨t, s, m, xs, ys, h1, sameT e h2, sameL e h3, sameL e h4, h5.mono e, h6.mono e, h7, h8⟩
theorem r__law_same_things (O : Ko K) {vs : List V} {H : Hp} {Q : VK} {E : XK} (h : sp__law_same_things K vs H Q E) : t__law_same_things K (okW sp_vessels K) (okW sp_channels K) E (endsR Q) (start n__law_same_things vs) H := by
  obtain ⟨x, y, w, w', cx, bx, sx, cx', bx', sx', rfl, hW, hW', k1, k2, l1, l2, l3, q⟩ := h
  obtain ⟨a, dx, pl, cl, bl, sl, rfl, h1, h2, h3, h4, h5, h6, h7, h8⟩ := id hW
  obtain ⟨a', dx', pl', cl', bl', sl', rfl, h1', h2', h3', h4', h5', h6', h7', h8'⟩ := id hW'
  refine ⟨a, _, dx, _, _, rfl, h1, rfl, ⟨rfl, rfl⟩, _, w, cx, bx, sx, rfl, hW, fun u1 g1 => ?_⟩
  have e1 := Same.new (o := .lst cx) g1
  refine ⟨a', _, dx', _, _, rfl, e1 _ _ h1', rfl, ⟨rfl, rfl⟩, _, w', cx', bx', sx', rfl, hW'.mono e1, fun u2 g2 => ⟨sz rfl, fun u3 g3 => ?_⟩⟩
  have e2 := Same.new (o := .lst cx') g2
  have e3 := Same.new (o := .tup [.ref u1, .ref u2]) g3
  have e13 := (e1.trans e2).trans e3
  refine ⟨a, _, dx, _, _, rfl, e13 _ _ h1, rfl, ⟨rfl, rfl⟩, _, w, cx, bx, sx, rfl, hW.mono e13, l2, fun u4 g4 => ?_⟩
  have e4 := Same.new (o := .lst (bx ++ sx)) g4
  refine ⟨a', _, dx', _, _, rfl, (e13.trans e4) _ _ h1', rfl, ⟨rfl, rfl⟩, _, w', cx', bx', sx', rfl, hW'.mono (e13.trans e4), l3, fun u5 g5 => ⟨sz rfl, fun u6 g6 => ⟨sz rfl, fun u7 g7 => ?_⟩⟩⟩
  have e5 := Same.new (o := .lst (bx' ++ sx')) g5
  have e6 := Same.new (o := .tup [.ref u4, .ref u5]) g6
  have e7 := Same.new (o := .lst [.ref u3, .ref u6]) g7
  have e47 := ((e4.trans e5).trans e6).trans e7
  have eA := e13.trans e47
  have P1 : PairAt K _ (.ref u3) := ⟨u3, u1, u2, cx, cx', rfl, .inl (.inl (e47 _ _ upd_same)), .inl (.inl (((e2.trans e3).trans e47) _ _ upd_same)), .inl (.inl ((e3.trans e47) _ _ upd_same)), (things_ch O h6).mono eA, (things_ch O h6').mono eA, k1, l1⟩
  have P2 : PairAt K _ (.ref u6) := ⟨u6, u4, u5, bx ++ sx, bx' ++ sx', rfl, .inl (.inl (e7 _ _ upd_same)), .inl (.inl (((e5.trans e6).trans e7) _ _ upd_same)), .inl (.inl ((e6.trans e7) _ _ upd_same)), (things_app (things_br O h7) (things_sh O h8)).mono eA, (things_app (things_br O h7') (things_sh O h8')).mono eA, k2, by rw [List.length_append]; exact l2⟩
  refine ⟨_, _, _, .lst, .inl (.inl upd_same), ?_⟩
  refine for_each wk_list (fun σ => ∃ u v, σ = [some (.ref a), some (.ref a'), u, v, none]) ⟨none, none, rfl⟩ (fun H' e => .inl (.inl (e _ _ upd_same))) ?_ fun σ' H' _ e => q H' (eA.trans e)
  rintro i x _ H' hx ⟨u, v, rfl⟩ e
  have P : PairAt K H' x := by
    have hm := List.mem_of_getElem? hx
    simp only [List.mem_cons, List.not_mem_nil, or_false] at hm
    rcases hm with rfl | rfl
    · exact P1.mono e
    · exact P2.mono e
  obtain ⟨t, s, m, xs, ys, rfl, p1, p2, p3, ⟨as, rfl, i1⟩, ⟨bs, rfl, i2⟩, p6, p7⟩ := P
  refine ⟨t, _, rfl, p1, rfl, _, _, rfl, _, _, rfl, rfl, _, _, _, .lst, p2, ?_⟩
  refine lc_pure wk_list (fun _ => false) (fun _ => .non) (by omega) (fun H'' e => sameL e p2) (fun j z H2 Q' R' hz e2 _ qn => ?_) fun D H3 _ e3 hD => ⟨sz rfl, fun ee he => .inl ⟨.list [], .list [], ?_, ?_, rfl, rfl, false, rfl, iteF rfl ⟨⟨_, _, rfl⟩, (e.trans e3).trans (Same.new he)⟩⟩⟩
  · rw [List.getElem?_map] at hz
    obtain ⟨c, hc, rfl⟩ := Option.map_eq_some_iff.mp hz
    have hcm : c ∈ as := List.mem_of_getElem? hc
    have hcb : c ∈ bs := by
      have := p6 (.ref c) (List.mem_map.mpr ⟨c, hcm, rfl⟩)
      obtain ⟨d, hd, e⟩ := List.mem_map.mp this
      cases e
      exact hd
    refine ⟨rfl, .inr ⟨c, bs, rfl, sameL e2 p3, Idy.mono (i1 c hcm) e2, fun d hd => Idy.mono (i2 d hd) e2, _, rfl, ?_⟩⟩
    exact iteF (by rw [decide_eq_true hcb]; rfl) (qn rfl H2 (Same.refl _))
  · have hD : (upd H3 ee (.lst [])) D = some (.lst []) := by
      rw [Same.new he _ _ hD]
      unfold given
      simp
    exact .lst (.inl (.inl hD)) .nil
  · exact .lst (.inl (.inl upd_same)) .nil
/-! ### a new ship -/
theorem cut_strs {zs : List Str} {P : Str → Bool} : cut (zs.map V.str) zs P = (zs.filter P).map V.str := by
  have h := pcut (F := fun v z => v = V.str z) P (xs := zs.map V.str) (cs := zs) (pix (by rw [List.length_map]) fun i a b ha hb => by
    rw [List.getElem?_map, hb] at ha
    cases ha
    rfl)
  have key : ∀ {l : List V} {m : List Str}, Paired (fun v z => v = V.str z) l m → l = m.map V.str := fun {l m} h => by
    induction h with
    | nil => rfl
    | cons h _ ih => rw [h, ih]; rfl
  exact key h
/-- more unlike names than known ones: one is new -/
theorem new_name {zs ks : List Str} (nd : zs.Nodup) (h : ks.length < zs.length) : ∃ z r, zs.filter (fun z => !decide (z ∈ ks)) = z :: r := by
  cases e : zs.filter (fun z => !decide (z ∈ ks)) with
  | cons z r => exact ⟨z, r, rfl⟩
  | nil =>
    have all : ∀ z ∈ zs, z ∈ ks := fun z hz => by
      by_cases hk : z ∈ ks
      · exact hk
      · have : z ∈ zs.filter (fun z => !decide (z ∈ ks)) := List.mem_filter.mpr ⟨hz, by simp [hk]⟩
        rw [e] at this
        cases this
    have sub : zs.length ≤ ks.length := by
      clear h e
      induction zs generalizing ks with
      | nil => exact Nat.zero_le _
      | cons z zs ih =>
        have hz := all z (List.mem_cons_self ..)
        have nd' := List.nodup_cons.mp nd
        have := ih (ks := ks.erase z) nd'.2 fun y hy => (List.mem_erase_of_ne (fun e' => nd'.1 (by rw [← e']; exact hy))).mpr (all y (List.mem_cons_of_mem _ hy))
        rw [List.length_erase_of_mem hz] at this
        have hp : 0 < ks.length := List.length_pos_of_mem hz
        rw [List.length_cons]
        omega
    omega
theorem Wo.Fine.vn {w : Wo} (f : w.Fine) : ∀ z ∈ w.vnames, IsName z := fun z hz => by
  rcases List.mem_append.mp hz with h | h
  · obtain ⟨c, hc, rfl⟩ := List.mem_map.mp h
    exact (f.bok c hc).name
  · obtain ⟨c, hc, rfl⟩ := List.mem_map.mp h
    exact (f.sok c hc).name
theorem Wo.Fine.vl {w : Wo} (f : w.Fine) : w.vnames.length ≤ 10 := by
  have h1 := f.pre.nb
  have h2 := f.ok.ns
  unfold Wo.vnames
  rw [List.length_append, List.length_map, List.length_map]
  omega
/-- [row[0] for row in world[3] + world[4]], in any slots -/
theorem vn_list {i j : Nat} {σ : L2.St} {H : Hp} {p : Addr} {w : Wo} {Q : VK} (hi : σ[i]? = some (some (.ref p))) (hj : j < σ.length) (f : w.Fine) (h : ToldAt K H p w) (q : ∀ l H', H l = none → Same H H' → H' l = some (.lst (w.vnames.map V.str)) → Q (.ref l) H') :
    tLc (mSeq K (tOp (mAdd K) (tOp (mIx K) (mV i) (tC (.int 3))) (tOp (mIx K) (mV i) (tC (.int 4))))) (gName j) tYes (tOp (mIx K) (mV j) (tC (.int 0))) [j] σ H Q := by
  obtain ⟨pa, ca, ba, sa, ct, bt, st, t1, t2, t3, t4, t5, t6, t7, t8⟩ := h
  have lb := f.pre.nb
  have ls := f.ok.ns
  have d2 := plen t7
  have d3 := plen t8
  rw [List.length_map] at d2 d3
  unfold tLc mSeq
  unfold tOp
  rw [mV_at hi]
  refine ⟨_, .ref ba, .inr t1, rfl, ?_⟩
  show mV i σ H _
  rw [mV_at hi]
  refine ⟨_, .ref sa, .inr t1, rfl, .inl ⟨_, _, t4, t5, len_ok (by omega), fun u H1 e1 hu => ⟨_, _, _, .tup, hu, ?_⟩⟩⟩
  intro D hD
  refine lc_first (K := K) (ns := w.vnames) (g := gName j) (te := tOp (mIx K) (mV j) (tC (.int 0))) (vs := [j]) (Qd := fun D H => Q (.ref D) H) (σ := σ) wk_tup (by rw [List.length_append]; omega) (fun H' e => sameT e hu) (pimp (fun _ _ h => h.mono e1) (vrows t7 t8)) (heads_ok w) (fun x n r' H' Q' hx q' => ?_) (fun D' H2 hD' e2 hy => q D' H2 ?_ (e1.trans e2) hy) D hD
  · obtain ⟨a, rfl, ha⟩ := hx
    have kj : ((wipe σ [j]).set j (some (V.ref a)))[j]? = some (some (.ref a)) := List.getElem?_set_self (by show j < (σ.set j none).length; rw [List.length_set]; exact hj)
    refine ⟨wipe_set, ?_⟩
    unfold tOp
    rw [mV_at kj]
    exact ⟨_, .str n, .inr ha, atI_nat (j := 0) rfl, q'⟩
  · cases hh : H D' with
    | none => rfl
    | some o =>
      rw [e1 _ _ hh] at hD'
      cases hD'
theorem shaped_strs {zs : List Str} (h : ∀ z ∈ zs, IsName z) : SeqAt.shaped (.list (zs.map PyData.str)) = true := by
  have lay : PyData.canLayAll0 (zs.map PyData.str) = true := by
    induction zs with
    | nil => rfl
    | cons z zs ih =>
      simp only [List.map_cons, PyData.canLayAll0, Bool.and_eq_true]
      refine ⟨?_, ih fun y hy => h y (List.mem_cons_of_mem _ hy)⟩
      simp only [PyData.canLay0, PyData.strOk, Array.all_eq_true, decide_eq_true_eq]
      intro i hi
      have := (h z (List.mem_cons_self ..)).len.2.2 z.cps[i] (by simp)
      rw [lets_list] at this
      obtain ⟨n, hn, e⟩ := List.mem_map.mp this
      have := List.mem_range.mp hn
      omega
  have dep : PyData.depthAll (zs.map PyData.str) = 0 := by
    clear h lay
    induction zs with
    | nil => rfl
    | cons z zs ih =>
      simp only [List.map_cons, PyData.depthAll, PyData.depth, ih]
      rfl
  unfold SeqAt.shaped
  simp only [PyData.canLay0, PyData.depth, lay, dep, Bool.true_and]
  decide
theorem op_at {r : R2} {tb : TE} {i : Nat} {v : V} {σ : L2.St} {H : Hp} {Q : VK} (h : σ[i]? = some (some v)) (k : tb σ H fun y H2 => r v y H2 Q) : tOp r (mV i) tb σ H Q := by
  unfold tOp
  rw [mV_at h]
  exact k
theorem test_at {t : TE} {σ : L2.St} {H : Hp} {Q : Bool → Hp → Prop} (k : t σ H fun x H' => ∃ b, x = .bl b ∧ Q b H') : tTest t σ H Q := k
def sp__law_new_ship (K : PySem.W.Frag) : Sp := fun vs H Q _ => ∃ (b p : Addr) (w : Wo) (n : Nat), vs = [.ref b, .ref p] ∧ ToldAt K (hide b H) p w ∧ w.Fine ∧ BoxB H b n ∧ n ≤ 400000 ∧ ∀ q H' (s : Sh), s.Ok → SqT K H' q s.row → SameX (Xb b) H H' → BoxB H' b (n + 60) → Q (.ref q) H'
theorem filt_names {m : Nat} {zs : List Str} (nm : Names m zs) {P : Str → Bool} {z : Str} {r : List Str} (e : zs.filter P = z :: r) : IsName z := nm.2.1 z (List.mem_filter.mp (show z ∈ zs.filter P by rw [e]; simp)).1
theorem told_x {b p : Addr} {H H' : Hp} {w : Wo} (h : ToldAt K (hide b H) p w) (e : SameX (Xb b) H H') : ToldAt K (hide b H') p w := h.mono (hide_of e)
theorem r__law_new_ship {vs : List V} {H : Hp} {Q : VK} {E : XK} (h : sp__law_new_ship K vs H Q E) : t__law_new_ship K sp__law_take (sp__law_names K) (sp__law_ship K) E (endsR Q) (start n__law_new_ship vs) H := by
  obtain ⟨b, p, w, n, rfl, hT, f, hB, hn, q⟩ := h
  have lps := f.pre.np
  refine ⟨b, 4, n, rfl, by decide, by decide, hB, by omega, fun spare H1 s0 s1 e1 B1 => ⟨b, 8, n + 1, rfl, by decide, by decide, B1, by omega, fun strange H2 g0 g1 e2 B2 => ⟨_, _, rfl, ?_⟩⟩⟩
  have B2 : BoxB H2 b (n + 2) := B2
  have k2 := e1.trans e2
  -- names not in use
  refine ⟨b, 13, n + 2, rfl, by decide, B2, by omega, fun nl H3 zs nz e3 B3 nnl hnl => ?_⟩
  have k3 := k2.trans e3
  have hT3 := told_x hT k3
  have B3 : BoxB H3 b (n + 15) := B3
  refine ⟨_, _, _, .lst, .inl (.inl hnl), ?_⟩
  refine lc_pure wk_list (fun i => ((zs[i]?).map fun z => !decide (z ∈ w.vnames)).getD false) (fun i => (zs.map V.str).getD i .non) (by rw [List.length_map, nz.1]; decide) (fun H' e => .inl (.inl (e _ _ hnl))) (fun i x H' Q' R' hx e qy qn => ?_) fun D H4 hD e4 hy => ?_
  · rw [List.getElem?_map] at hx
    obtain ⟨z, hz, rfl⟩ := Option.map_eq_some_iff.mp hx
    rw [hz] at qy qn
    refine ⟨rfl, ?_⟩
    have hTe : ToldAt K H' p w := (hT3.mono hide_same).mono e
    refine test_at (op_at (v := .str z) rfl (vn_list rfl (bl rfl) f hTe fun l H'' _ e2 hl => ?_))
    refine .inl ⟨_, .inl (.inl (.inl hl)), rfl, flat_strs _, _, rfl, ?_⟩
    rw [inV_strs]
    have qy : (!decide (z ∈ w.vnames)) = true → ∀ H'', Same H' H'' → Q' ((zs.map V.str).getD i .non) H'' := qy
    have qn : (!decide (z ∈ w.vnames)) = false → ∀ H'', Same H' H'' → R' H'' := qn
    cases ec : decide (z ∈ w.vnames) with
    | true => exact iteF rfl (qn (by rw [ec]; rfl) H'' e2)
    | false =>
      refine iteT rfl ?_
      have := qy (by rw [ec]; rfl) H'' e2
      rw [List.getD_eq_getElem?_getD, List.getElem?_map, hz] at this
      exact this
  obtain ⟨z0, r0, hz0⟩ := new_name (ks := w.vnames) nz.2.2 (by have := f.vl; rw [nz.1]; omega)
  have hy : H4 D = some (.lst ((zs.filter fun z => !decide (z ∈ w.vnames)).map V.str)) := by
    rw [hy]
    exact congrArg (fun l => some (HO.lst l)) (cut_strs (zs := zs) (P := fun z => !decide (z ∈ w.vnames)))
  rw [hz0] at hy
  have nm0 := filt_names nz hz0
  have k4 := k3.trans (SameX.of e4)
  have hT4 := told_x hT k4
  have B4 := B3.same e4
  obtain ⟨pa, ca, ba, sa, ct, bt, st, t1, t2, _⟩ := id (hT4.mono hide_same)
  refine ⟨_, .str z0, .inl (.inl (.inl hy)), atI_nat (j := 0) rfl, _, .ref pa, .inr t1, rfl, _, .inr t2, fun pl hpl => ?_⟩
  have e5 := Same.new (o := .lst (w.ports.map V.str)) hpl
  have B5 := B4.same e5
  refine ⟨b, pl, z0, w.ports, n + 15, rfl, nm0, ⟨ne_box B4 hpl, upd_same⟩, f.pre.ports, lps.1, lps.2, B5, by omega, fun q1 H6 s ok _ _ _ e6 B6 hq1 => ?_⟩
  have k6 := (k4.trans (SameX.of e5)).trans e6
  have hT6 := (told_x hT k6).mono hide_same
  have B6 : BoxB H6 b (n + 27) := B6
  dsimp only [tSeq, tAsg, gName]
  refine vn_list rfl (bl rfl) f hT6 fun sl H7 hsl e7 hs7 => ?_
  have k7 := k6.trans (SameX.of e7)
  have B7 := B6.same e7
  have hq7 := sameT e7 hq1
  have nsl := ne_box B6 hsl
  have v7 := f.vl
  -- a known name
  have next : ∀ (q2 : Addr) (H8 : Hp) (s2 : Sh) (N : Nat), s2.Ok → SqT K H8 q2 s2.row → SameX (Xb b) H H8 → BoxB H8 b N → N ≤ n + 28 →
      tIfS (tTest (tOp mLt (mV 3) (tC (.int 2)))) (tSeq (tAsg (tLc (mSeq K (xCall (sp__law_names K) (WD E) (tCons (mV 0) (tCons (tC (.int 13)) tNil)))) (gName 8) (tTest (tOp (mIn K true) (mV 8) (tOp (mIx K) (mV 1) (tC (.int 1))))) (mV 8) [8]) (gName 7))
        (tAsg (tOp (mAdd K) (tOp (mAdd K) (tSl (mSl K) (mV 5) tNoPart (tPart (tOp (mAdd K) (tC (.int 1)) (mV 3)))) (tTup (tCons (tOp (mIx K) (mV 7) (tC (.int 0))) tNil))) (tSl (mSl K) (mV 5) (tPart (tOp (mAdd K) (tC (.int 2)) (mV 3))) tNoPart)) (gName 5))) tNext
        { nx := tRet (mV 5) (endsR Q), rt := Q } [some (.ref b), some (.ref p), some (.int spare), some (.int strange), some (.ref D), some (.ref q2), some (.ref sl), none, none, none] H8 := by
    intro q2 H8 s2 N ok2 hq2 k8 B8 hN
    refine ⟨_, rfl, ?_⟩
    by_cases hst : strange < 2
    · refine iteT (decide_eq_true hst) ?_
      refine ⟨b, 13, N, rfl, by decide, B8, by omega, fun nl H9 zs nz e9 B9 nnl hnl => ?_⟩
      have k9 := k8.trans e9
      have hT9 := (told_x hT k9).mono hide_same
      have t9 := (TupB.of hq2 B8).mono e9
      refine ⟨_, _, _, .lst, .inl (.inl hnl), ?_⟩
      refine lc_pure wk_list (fun i => ((zs[i]?).map fun z => !decide (z ∈ w.ports)).getD false) (fun i => (zs.map V.str).getD i .non) (by rw [List.length_map, nz.1]; decide) (fun H' e => .inl (.inl (e _ _ hnl))) (fun i x H' Q' R' hx e qy qn => ?_) fun D2 H10 hD2 e10 hy => ?_
      · rw [List.getElem?_map] at hx
        obtain ⟨z, hz, rfl⟩ := Option.map_eq_some_iff.mp hx
        rw [hz] at qy qn
        obtain ⟨pa, ca, ba, sa, ct, bt, st, t1, t2, _⟩ := hT9.mono e
        refine ⟨rfl, _, .ref pa, .inr t1, rfl, .inl ⟨_, .inr t2, rfl, flat_strs _, _, rfl, ?_⟩⟩
        rw [inV_strs]
        have qy : (!decide (z ∈ w.ports)) = true → ∀ H'', Same H' H'' → Q' ((zs.map V.str).getD i .non) H'' := qy
        have qn : (!decide (z ∈ w.ports)) = false → ∀ H'', Same H' H'' → R' H'' := qn
        cases ec : decide (z ∈ w.ports) with
        | true => exact iteF rfl (qn (by rw [ec]; rfl) H' (Same.refl _))
        | false =>
          refine iteT rfl ?_
          have := qy (by rw [ec]; rfl) H' (Same.refl _)
          rw [List.getD_eq_getElem?_getD, List.getElem?_map, hz] at this
          exact this
      · obtain ⟨z1, r1, hz1⟩ := new_name (ks := w.ports) nz.2.2 (by rw [nz.1]; omega)
        have hy : H10 D2 = some (.lst ((zs.filter fun z => !decide (z ∈ w.ports)).map V.str)) := by
          rw [hy]
          exact congrArg (fun l => some (HO.lst l)) (cut_strs (zs := zs) (P := fun z => !decide (z ∈ w.ports)))
        rw [hz1] at hy
        have nm1 := filt_names nz hz1
        have t10 := sameT e10 t9.sq
        have k10 := k9.trans (SameX.of e10)
        have B10 : BoxB H10 b (N + 13) := B9.same e10
        have c2 : strange = 0 ∨ strange = 1 := by omega
        rcases c2 with rfl | rfl
        · refine ⟨1, rfl, .inr ⟨_, t10, fun v1 H11 e11 h11 => ⟨_, .str z1, .inl (.inl (.inl (e11 _ _ hy))), atI_nat (j := 0) rfl, sz rfl, fun v2 hv2 => .inl ⟨_, _, sameT (Same.new hv2) h11, .inl (.inl upd_same), sz rfl, fun v3 H12 e12 h12 => ⟨2, rfl, .inr ⟨_, sameT ((e11.trans (Same.new hv2)).trans e12) t10, fun v4 H13 e13 h13 => .inl ⟨_, _, sameT e13 h12, h13, sz rfl, fun v5 H14 e14 h14 => ?_⟩⟩⟩⟩⟩⟩⟩
          have eB := (((e11.trans (Same.new (o := .tup [.str z1]) hv2)).trans e12).trans e13).trans e14
          exact q v5 H14 { s2 with port := z1 } ⟨ok2.name, nm1, ok2.goal, ok2.hour, ok2.strength, ok2.draught⟩ h14 (k10.trans (SameX.of eB)) ((B10.same eB).le (by omega))
        · refine ⟨2, rfl, .inr ⟨_, t10, fun v1 H11 e11 h11 => ⟨_, .str z1, .inl (.inl (.inl (e11 _ _ hy))), atI_nat (j := 0) rfl, sz rfl, fun v2 hv2 => .inl ⟨_, _, sameT (Same.new hv2) h11, .inl (.inl upd_same), sz rfl, fun v3 H12 e12 h12 => ⟨3, rfl, .inr ⟨_, sameT ((e11.trans (Same.new hv2)).trans e12) t10, fun v4 H13 e13 h13 => .inl ⟨_, _, sameT e13 h12, h13, sz rfl, fun v5 H14 e14 h14 => ?_⟩⟩⟩⟩⟩⟩⟩
          have eB := (((e11.trans (Same.new (o := .tup [.str z1]) hv2)).trans e12).trans e13).trans e14
          exact q v5 H14 { s2 with goal := z1 } ⟨ok2.name, ok2.port, nm1, ok2.hour, ok2.strength, ok2.draught⟩ h14 (k10.trans (SameX.of eB)) ((B10.same eB).le (by omega))
    · refine iteF (decide_eq_false hst) ?_
      exact q q2 H8 s2 ok2 hq2 k8 (B8.le (by omega))
  refine ⟨_, rfl, ?_⟩
  by_cases hsp : spare = 0
  · refine iteT (by rw [decide_eq_true hsp]; rfl) ⟨sz rfl, fun ee he => .inl ⟨.list (w.vnames.map PyData.str), .list [], .lst (.inl (.inl (Same.new he _ _ hs7))) (dp_strs _), .lst (.inl (.inl upd_same)) .nil, ?_, rfl, _, rfl, ?_⟩⟩
    · exact shaped_strs f.vn
    have e8 := Same.new (o := .lst []) he
    cases hv : w.vnames with
    | nil =>
      refine iteF rfl ?_
      exact next q1 _ s (n + 27) ok (sameT e8 hq7) (k7.trans (SameX.of e8)) (B7.same e8) (by omega)
    | cons z zs =>
      refine iteT rfl ?_
      refine ⟨_, .inl (.inl (.inl (e8 _ _ hs7))), ?_⟩
      rw [List.length_map]
      have hpos : 0 < w.vnames.length := by rw [hv]; simp
      refine ⟨b, (w.vnames.length : Nat), n + 27, rfl, by omega, by omega, B7.same e8, by omega, fun d H9 d0 d1 e9 B9 => ?_⟩
      obtain ⟨id_, rfl⟩ := Int.eq_ofNat_of_zero_le d0
      have hd : id_ < w.vnames.length := by omega
      have t9 := (TupB.of (sameT e8 hq7) (B7.same e8)).mono e9
      refine ⟨_, .str w.vnames[id_], .inl (.inl (.inl (e9 _ _ nsl (e8 _ _ hs7)))), str_at hd, sz rfl, fun v1 hv1 => ⟨1, rfl, .inr ⟨_, sameT (Same.new hv1) t9.sq, fun v2 H10 e10 h10 => .inl ⟨_, _, sameT e10 (.inl (.inl upd_same)), h10, sz rfl, fun v3 H11 e11 h11 => ?_⟩⟩⟩⟩
      have eB := ((Same.new (o := .tup [.str w.vnames[id_]]) hv1).trans e10).trans e11
      exact next v3 H11 { s with name := w.vnames[id_] } (n + 28) ⟨f.vn _ (List.getElem_mem _), ok.port, ok.goal, ok.hour, ok.strength, ok.draught⟩ h11 (((k7.trans (SameX.of e8)).trans e9).trans (SameX.of eB)) (B9.same eB) (by omega)
  · refine iteF (by rw [decide_eq_false hsp]; rfl) ?_
    exact next q1 H7 s (n + 27) ok hq7 k7 B7 (by omega)
end K76
/-! readings: the law's check of one world -/
namespace K76
open PySem PySem.Spec PyProof.Rows L2 SX
open He (ga ma fAd)
variable {K : PySem.W.Frag}
def t_rest (K : PySem.W.Frag) (s_turned : Sp) (ok_told : Addr → Sp → Prop) (s__law_turned_due : Sp) (s__law_new_ship : Sp) (s__law_ship_due : Sp) (s__law_with : Sp) (s_Ship___init__ : Sp) (s_with_ship : Sp) (ok_vessel : Addr → Sp → Prop) (ok_ships : Addr → Sp → Prop) (s__law_same_things : Sp) (s_without : Sp) (s__law_take : Sp) (s__law_without_due : Sp) (E : XK) : TS :=
  (tSeq (tAsg (tLc (mSeq K (tOp (mAdd K) (tOp (mIx K) (mV 2) (tC (.int 3))) (tOp (mIx K) (mV 2) (tC (.int 4))))) (gName 12) tYes (tOp (mIx K) (mV 12) (tC (.int 0))) [12]) (gName 9))
  (tSeq (tFor (iRng1 (tCons (tOp (mMul) (tC (.int 2)) (tCB (mInt) (tCons (tOp (mEq K true) (mV 9) (tLst tNil)) tNil))) tNil)) (gName 6) (tSeq (tAsg (tOp (mIx K) (mV 9) (xCall s__law_take (WD E) (tCons (mV 0) (tCons (tCB (mLen K) (tCons (mV 9) tNil)) tNil)))) (gName 10))
  (tSeq (tAsg (xCall s_without (WD E) (tCons (mV 1) (tCons (mV 10) tNil))) (gName 11))
  (tIfS (tOr (tTest (tOp (mEq K true) (tCB (xRepr K) (tCons (xMeth ok_told "told" (WD E) (mV 11) tNil) tNil)) (tCB (xRepr K) (tCons (xCall s__law_without_due (WD E) (tCons (mV 2) (tCons (mV 10) tNil))) tNil)))) (tNot (tB (xCall s__law_same_things (WD E) (tCons (mV 11) (tCons (mV 1) tNil)))))) (tRet (tC (.bl false))) tNext))))
  (tRet (tOp (mEq K false) (tCB (xRepr K) (tCons (xMeth ok_told "told" (WD E) (mV 1) tNil) tNil)) (tCB (xRepr K) (tCons (mV 2) tNil))))))
def t_told (K : PySem.W.Frag) (s_turned : Sp) (ok_told : Addr → Sp → Prop) (s__law_turned_due : Sp) (s__law_new_ship : Sp) (s__law_ship_due : Sp) (s__law_with : Sp) (s_Ship___init__ : Sp) (s_with_ship : Sp) (ok_vessel : Addr → Sp → Prop) (ok_ships : Addr → Sp → Prop) (s__law_same_things : Sp) (s_without : Sp) (s__law_take : Sp) (s__law_without_due : Sp) (E : XK) : TS :=
  (tSeq (tAsg (xMake (ga K "Ship") s_Ship___init__ (WD E) (tCons (tOp (mIx K) (mV 4) (tC (.int 0))) (tCons (tOp (mIx K) (mV 4) (tC (.int 1))) (tCons (tOp (mIx K) (mV 4) (tC (.int 2))) (tCons (tOp (mIx K) (mV 4) (tC (.int 3))) (tCons (tOp (mIx K) (mV 4) (tC (.int 4))) (tCons (tOp (mIx K) (mV 4) (tC (.int 5))) tNil))))))) (gName 7))
  (tSeq (tAsg (xCall s_with_ship (WD E) (tCons (mV 1) (tCons (mV 7) tNil))) (gName 8))
  (tSeq (tIfS (tOr (tTest (tOp (mEq K true) (tOp (mIx K) (xMeth ok_ships "ships" (WD E) (mV 8) tNil) (tC (.int (-1)))) (mV 7))) (tTest (tOp (mEq K true) (xMeth ok_vessel "vessel" (WD E) (mV 8) (tCons (tOp (mIx K) (mV 4) (tC (.int 0))) tNil)) (mV 7)))) (tRet (tC (.bl false))) tNext)
  (tSeq (tIfS (tOr (tTest (tOp (mEq K true) (tCB (xRepr K) (tCons (xMeth ok_told "told" (WD E) (xCall s_without (WD E) (tCons (mV 8) (tCons (tOp (mIx K) (mV 4) (tC (.int 0))) tNil))) tNil) tNil)) (tCB (xRepr K) (tCons (mV 2) tNil)))) (tNot (tB (xCall s__law_same_things (WD E) (tCons (mV 1) (tCons (mV 8) tNil)))))) (tRet (tC (.bl false))) tNext)
  (tSeq (tDrop (tBM0 K "list" rClear (xMeth ok_ships "ships" (WD E) (mV 8) tNil)))
  (tIfS (tTest (tOp (mEq K true) (tCB (xRepr K) (tCons (xMeth ok_told "told" (WD E) (mV 8) tNil) tNil)) (tCB (xRepr K) (tCons (tOp (mIx K) (mV 5) (tC (.int 1))) tNil)))) (tRet (tC (.bl false))) tNext))))))
theorem OutAt.mono {H H' : Hp} {p : Addr} {w : Wo} {s : Sh} (h : OutAt K H p w s) (e : Same H H') : OutAt K H' p w s := by
  cases h with
  | full h t => exact .full h (sameT e t)
  | dup h n t => exact .dup h n (sameT e t)
  | port h n a t => exact .port h n a (sameT e t)
  | goal h n a g t => exact .goal h n a g (sameT e t)
  | told h n a g q t k => exact .told h n a g q (sameT e t) (k.mono e)
theorem WoAt.lens {H : Hp} {x : V} {w : Wo} {cx bx sx : List V} (f : w.Fine) (h : WoAt K H x w cx bx sx) : cx.length ≤ 12 ∧ bx.length ≤ 4 ∧ sx.length ≤ 6 := by
  obtain ⟨a, dx, pl, cl, bl, sl, ex, h1, h2, h3, h4, h5, h6, h7, h8⟩ := h
  have := f.pre.nc
  have := f.pre.nb
  have := f.ok.ns
  have := plen h6
  have := plen h7
  have := plen h8
  omega
/-- repr(x.told()) -/
theorem repr_told {W : WX} {x : V} {σ : L2.St} {H : Hp} {w : Wo} {cx bx sx : List V} {Q : VK} {to : TE} (hi : ∀ R : VK, R x H → to σ H R) (f : w.Fine) (h : WoAt K H x w cx bx sx) (q : ∀ H', Same H H' → Q (.str (toldD w).shown) H') :
    tCB (xRepr K) (tCons (xMeth (okW sp_told K) "told" W to tNil) tNil) σ H Q := by
  obtain ⟨a, dx, pl, cl, bl, sl, rfl, h1, _⟩ := id h
  obtain ⟨l1, l2, l3⟩ := h.lens f
  refine hi _ ⟨a, _, dx, _, _, rfl, h1, rfl, ⟨rfl, rfl⟩, _, w, cx, bx, sx, rfl, h, by omega, by omega, by omega, fun p H' e t => ?_⟩
  exact repr_good (good_told f) (by decide) (by decide) (dp_told t) (q H' e)
theorem more_less {w : Wo} {s : Sh} (hn : s.name ∉ w.vnames) : (w.more s).less s.name = w := by
  obtain ⟨b, p, c, br, sh⟩ := w
  have h1 : ∀ x ∈ br, x.name ≠ s.name := fun x hx e => hn (List.mem_append.mpr (.inl (List.mem_map.mpr ⟨x, hx, e⟩)))
  have h2 : ∀ x ∈ sh, x.name ≠ s.name := fun x hx e => hn (List.mem_append.mpr (.inr (List.mem_map.mpr ⟨x, hx, e⟩)))
  unfold Wo.less Wo.more
  simp only [List.filter_append]
  rw [List.filter_eq_self.mpr fun x hx => by simp [h1 x hx], List.filter_eq_self.mpr fun x hx => by simp [h2 x hx]]
  simp
end K76
/-! readings: the law's check of one world, its end -/
namespace K76
open PySem PySem.Spec PyProof.Rows L2 SX
open He (ga ma fAd)
variable {K : PySem.W.Frag}
theorem wo_x {b : Addr} {x : V} {H H' : Hp} {w : Wo} {cx bx sx : List V} (h : WoAt K (hide b H) x w cx bx sx) (e : SameX (Xb b) H H') : WoAt K (hide b H') x w cx bx sx := h.mono (hide_of e)
/-- repr(a) != repr(b) of one datum -/
theorem ne_same {s : Str} {H : Hp} {Q : Bool → Hp → Prop} (q : Q false H) : mEq K true (.str s) (.str s) H (fun x H' => ∃ k, x = .bl k ∧ Q k H') := ⟨_, rfl, by rw [decide_eq_true rfl]; exact q⟩
def stR (b p : Addr) (x : V) (v3 v4 v5 v6 v7 v8 v9 v10 v11 : Option V) : L2.St := [some (.ref b), some x, some (.ref p), v3, v4, v5, v6, v7, v8, v9, v10, v11, none]
theorem r_rest (O : Ko K) (E : XK) {b p : Addr} {x : V} {w : Wo} {cx bx sx : List V} {H : Hp} {Q : VK} {n : Nat} {v3 v4 v5 v6 v7 v8 v9 v10 v11 : Option V} (hW : WoAt K (hide b H) x w cx bx sx) (hT : ToldAt K (hide b H) p w) (f : w.Fine) (hB : BoxB H b n) (hn : n ≤ 400000) (q : ∀ H', SameX (Xb b) H H' → BoxB H' b (n + 10) → Q (.bl true) H') :
    t_rest K (sp_turned K) (okW sp_told K) (sp__law_turned_due K) (sp__law_new_ship K) (sp__law_ship_due K) (sp__law_with K) (sp_Ship___init__ K) (sp_with_ship K) (okW sp_vessel K) (okW sp_ships K) (sp__law_same_things K) (sp_without K) sp__law_take (sp__law_without_due K) E
      (endsR Q) (stR b p x v3 v4 v5 v6 v7 v8 v9 v10 v11) H := by
  have hW0 := hW.mono hide_same
  have hT0 := hT.mono hide_same
  obtain ⟨l1, l2, l3⟩ := hW0.lens f
  unfold t_rest
  dsimp only [tSeq, tAsg, gName]
  refine vn_list (i := 2) (j := 12) rfl (bl rfl) f hT0 fun sl H1 hsl e1 hs1 => ?_
  have nsl := ne_box hB hsl
  have B1 := hB.same e1
  have k1 : SameX (Xb b) H H1 := SameX.of e1
  have vl10 := f.vl
  refine ⟨sz rfl, fun ee he => .inl ⟨.list (w.vnames.map PyData.str), .list [], .lst (.inl (.inl (Same.new he _ _ hs1))) (dp_strs _), .lst (.inl (.inl upd_same)) .nil, shaped_strs f.vn, rfl, ?_⟩⟩
  have e2 := Same.new (o := .lst []) he
  have B2 := B1.same e2
  have k2 := k1.trans (SameX.of e2)
  have hs2 := e2 _ _ hs1
  generalize hc : PyData.eqv (.list (w.vnames.map PyData.str)) (.list []) = c
  have hc2 : c = false → 0 < w.vnames.length := fun z => by
    subst z
    cases hv : w.vnames with
    | nil =>
      rw [hv] at hc
      cases hc
    | cons z zs => simp
  refine ⟨.inl (by decide), ?_⟩
  have hj : (2 : Int) * (if (true ^^ c) = true then 1 else 0) = ((if c = true then 0 else 2 : Nat) : Int) := by
    cases c <;> rfl
  refine ⟨((if c = true then 0 else 2 : Nat) : Int), by rw [← hj], by split <;> decide, by split <;> decide, ?_⟩
  refine for_wk wk_range (fun i σ H' => (∃ a b' c' d, σ = [some (.ref b), some x, some (.ref p), v3, v4, v5, a, v7, v8, some (.ref sl), b', c', d]) ∧ SameX (Xb b) (upd H1 ee (.lst [])) H' ∧ BoxB H' b (n + i)) ⟨⟨_, _, _, _, rfl⟩, SameX.refl _, B2⟩ (fun _ _ _ _ _ => True.intro) ?_ ?_
  · rintro i y _ H' hy ⟨⟨a, b', c', d, rfl⟩, eX, Bi⟩
    have hi : i < (if c = true then 0 else 2) := (rangeV_get hy).1
    have hcf : c = false := by
      cases c with
      | false => rfl
      | true => simp at hi
    have hpos := hc2 hcf
    have hi2 : i < 2 := by
      rw [hcf] at hi
      exact hi
    have sl' := eX _ _ nsl hs2
    refine ⟨_, .inl (.inl (.inl sl')), ?_⟩
    rw [List.length_map]
    refine ⟨b, (w.vnames.length : Nat), n + i, rfl, by omega, by omega, Bi, by omega, fun j H3 d0 d1 e3 B3 => ?_⟩
    obtain ⟨jn, rfl⟩ := Int.eq_ofNat_of_zero_le d0
    have hj : jn < w.vnames.length := by omega
    have sl3 := e3 _ _ nsl sl'
    refine ⟨_, .str w.vnames[jn], .inl (.inl (.inl sl3)), str_at hj, ?_⟩
    generalize hnm : w.vnames[jn] = nm
    have hmem : nm ∈ w.vnames := by rw [← hnm]; exact List.getElem_mem _
    have k3 := (k2.trans eX).trans e3
    have hW3 := (wo_x hW k3).mono hide_same
    have hT3 := (told_x hT k3).mono hide_same
    refine ⟨x, w, cx, bx, sx, nm, rfl, hW3, f, hmem, fun z H4 e4 hz => ?_⟩
    have fl := f.less nm
    dsimp only [gName, tIfS, tOr, tTest, tOp]
    refine repr_told (K := K) (to := mV 11) (w := w.less nm) ?_ fl hz fun H5 e5 => ?_
    · exact fun R hR => hR
    refine ⟨p, w, nm, rfl, hT3.mono (e4.trans e5), f, fun t H6 e6 ht => ?_⟩
    obtain ⟨g1, g2, g3, g4⟩ := (good_told fl).parts (by decide) (by decide)
    refine ⟨_, dp_told ht, g1, g2, g3, g4, ?_⟩
    refine ne_same (iteF rfl ?_)
    have e456 := (e4.trans e5).trans e6
    obtain ⟨m1, m2, m3⟩ := hz.lens fl
    refine ⟨z, x, w.less nm, w, cx, _, _, cx, bx, sx, rfl, hz.mono (e5.trans e6), hW3.mono e456, fun _ h => h, fun y hy => ?_, by omega, by omega, by omega, fun H7 e7 => ⟨true, rfl, ?_⟩⟩
    · rcases List.mem_append.mp hy with h | h
      · exact List.mem_append.mpr (.inl (cut_mem h))
      · exact List.mem_append.mpr (.inr (cut_mem h))
    · refine iteF rfl ⟨⟨_, _, _, _, rfl⟩, (eX.trans e3).trans (SameX.of (e456.trans e7)), B3.same (e456.trans e7)⟩
  · rintro σ H' ⟨⟨a, b', c', d, rfl⟩, eX, Bi⟩
    have k3 := k2.trans eX
    have hW3 := (wo_x hW k3).mono hide_same
    have hT3 := (told_x hT k3).mono hide_same
    have hl2 : (rangeV 0 ((if c = true then 0 else 2 : Nat) : Int).toNat).length ≤ 2 := by
      rw [rangeV_len]
      split <;> decide
    dsimp only [tRet, tOp]
    refine repr_told (K := K) (to := mV 1) (w := w) ?_ f hW3 fun H5 e5 => ?_
    · exact fun R hR => hR
    obtain ⟨g1, g2, g3, g4⟩ := (good_told f).parts (by decide) (by decide)
    refine ⟨_, dp_told (hT3.mono e5), g1, g2, g3, g4, ?_⟩
    show Q (.bl (false ^^ decide ((toldD w).shown = (toldD w).shown))) H5
    rw [decide_eq_true rfl]
    exact q H5 (k3.trans (SameX.of e5)) ((Bi.same e5).le (by omega))
end K76
/-! readings: the law's check of one world, a ship that was taken in -/
namespace K76
open PySem PySem.Spec PyProof.Rows L2 SX
open He (ga ma fAd)
variable {K : PySem.W.Frag}
theorem vnames_more (w : Wo) (s : Sh) : (w.more s).vnames = w.vnames ++ [s.name] := by
  show w.brs.map (·.name) ++ (w.shs ++ [s]).map (·.name) = (w.brs.map (·.name) ++ w.shs.map (·.name)) ++ [s.name]
  rw [List.map_append, List.append_assoc]
  rfl
theorem r_told2 (O : Ko K) (E : XK) {b p rq dq tq : Addr} {x : V} {w : Wo} {s : Sh} {cx bx sx : List V} {H : Hp} {N : L2.St → Hp → Prop} {bk ct : L2.St → Hp → Prop} {Q : VK} {v3 v6 v7 v8 v9 v10 v11 : Option V} (hW : WoAt K H x w cx bx sx) (hT : ToldAt K H p w) (f : w.Fine) (ok : s.Ok) (hr : SqT K H rq s.row)
    (h5 : w.shs.length ≤ 5) (hn : s.name ∉ w.vnames) (hp : s.port ∈ w.ports) (hg : s.goal ∈ w.ports) (hd : SqT K H dq [.str "told", .ref tq]) (hk : ToldAt K H tq (w.more s))
    (q : ∀ H' u7 u8, Same H H' → N (stR b p x v3 (some (.ref rq)) (some (.ref dq)) v6 u7 u8 v9 v10 v11) H') :
    t_told K (sp_turned K) (okW sp_told K) (sp__law_turned_due K) (sp__law_new_ship K) (sp__law_ship_due K) (sp__law_with K) (sp_Ship___init__ K) (sp_with_ship K) (okW sp_vessel K) (okW sp_ships K) (sp__law_same_things K) (sp_without K) sp__law_take (sp__law_without_due K) E
      { nx := N, rt := Q, bk := bk, ct := ct } (stR b p x v3 (some (.ref rq)) (some (.ref dq)) v6 v7 v8 v9 v10 v11) H := by
  obtain ⟨l1, l2, l3⟩ := hW.lens f
  have fm := f.more ok h5 hn hp hg
  unfold t_told
  refine ⟨_, .str s.name, .inr hr, rfl, _, .str s.port, .inr hr, rfl, _, .str s.goal, .inr hr, rfl, _, .int s.hour, .inr hr, rfl, _, .int s.strength, .inr hr, rfl, _, .int s.draught, .inr hr, rfl, fun y dy hy hdy hne => ⟨y, dy, s, rfl, ok, upd_same, fun H1 e1 hy1 => ⟨rfl, ?_⟩⟩⟩
  have e1 : Same H H1 := e1.new hy hdy hne
  have sy : ShAt K H1 (.ref y) s := ⟨y, dy, rfl, hy1⟩
  refine ⟨x, w, cx, bx, sx, .ref y, s, rfl, hW.mono e1, f, sy, fun wok z H2 e2 hz => ?_, fun hl => absurd hl (by omega), fun _ hx => absurd hx hn, fun _ _ hx => absurd hp hx, fun _ _ _ hx => absurd hg hx⟩
  obtain ⟨a, dx, pl, cl, bl, sl, rfl, z1, z2, z3, z4, z5, z6, z7, z8⟩ := id hz
  have e12 := e1.trans e2
  obtain ⟨m1, m2, m3⟩ := hz.lens fm
  have idy : ∀ {H'}, Same H2 H' → Idy K H' y := fun e => ⟨_, dy, _, e _ _ (e2 _ _ hy1), O.s⟩
  -- ships()[-1]
  refine ⟨a, _, dx, _, _, rfl, z1, rfl, ⟨rfl, rfl⟩, _, w.more s, cx, bx, sx ++ [.ref y], rfl, hz, fun u1 hu1 => ⟨_, .ref y, .inl (.inl (.inl upd_same)), atI_last _ _, .inr ⟨rfl, rfl, idy (Same.new hu1), false, rfl, iteF rfl ?_⟩⟩⟩
  have e3 := Same.new (o := .lst (sx ++ [.ref y])) hu1
  -- vessel(row[0])
  have hr3 := sameT (e12.trans e3) hr
  have lv : w.vnames.length = bx.length + sx.length := by
    obtain ⟨_, _, _, _, _, _, _, _, _, _, _, _, _, w7, w8⟩ := hW
    unfold Wo.vnames
    rw [List.length_append, List.length_map, List.length_map, plen w7, plen w8]
  refine ⟨a, _, dx, _, _, rfl, e3 _ _ z1, rfl, ⟨rfl, rfl⟩, _, .str s.name, .inr hr3, rfl, _, w.more s, cx, bx, sx ++ [.ref y], s.name, w.vnames.length, .ref y, rfl, hz.mono e3, by omega, ?_, ?_, ?_, fun H4 e4 => .inr ⟨rfl, rfl, idy (e3.trans e4), false, rfl, iteF rfl ?_⟩⟩
  · rw [← List.append_assoc, List.getElem?_append_right (by rw [List.length_append]; omega), lv, List.length_append]
    simp
  · rw [vnames_more, List.getElem?_append_right (Nat.le_refl _)]
    simp
  · intro j m hj hm e
    rw [vnames_more, List.getElem?_append_left hj] at hm
    exact hn (e ▸ List.mem_of_getElem? hm)
  -- without(more, row[0])
  have e34 := e3.trans e4
  have hr4 := sameT (e12.trans e34) hr
  refine ⟨_, .str s.name, .inr hr4, rfl, .ref a, w.more s, cx, bx, sx ++ [.ref y], s.name, rfl, hz.mono e34, fm, by rw [vnames_more]; simp, fun z' H5 e5 hz' => ?_⟩
  rw [more_less hn] at hz'
  obtain ⟨a5, d5, _, _, _, _, rfl, z51, _⟩ := id hz'
  obtain ⟨g1, g2, g3, g4⟩ := (good_told f).parts (by decide) (by decide)
  obtain ⟨n1, n2, n3⟩ := hz'.lens f
  refine ⟨a5, _, d5, _, _, rfl, z51, rfl, ⟨rfl, rfl⟩, _, w, _, _, _, rfl, hz', by omega, by omega, by omega, fun p5 H6 e6 t5 => ⟨_, dp_told t5, g1, g2, g3, g4, ?_⟩⟩
  have e36 := (e34.trans e5).trans e6
  refine ⟨_, dp_told (hT.mono (e12.trans e36)), g1, g2, g3, g4, ne_same (iteF rfl ?_)⟩
  refine ⟨x, .ref a, w, w.more s, cx, bx, sx, cx, bx, sx ++ [.ref y], rfl, hW.mono (e12.trans e36), hz.mono e36, fun _ h => h, fun v hv => ?_, by omega, by omega, by omega, fun H7 e7 => ⟨true, rfl, iteF rfl ?_⟩⟩
  · rw [← List.append_assoc]
    exact List.mem_append.mpr (.inl hv)
  have e37 := e36.trans e7
  -- more.ships().clear()
  refine ⟨a, _, dx, _, _, rfl, e37 _ _ z1, rfl, ⟨rfl, rfl⟩, _, w.more s, cx, bx, sx ++ [.ref y], rfl, hz.mono e37, fun u2 hu2 => ⟨.inl ⟨rfl, _, .inl (.inl upd_same)⟩, u2, _, rfl, rfl, upd_same, ?_⟩⟩
  have e8 : Same H7 (upd (upd H7 u2 (.lst (sx ++ [.ref y]))) u2 (.lst [])) := fun c u hc => by
    have := ne_of_none hc hu2
    rw [upd_ne this, upd_ne this]
    exact hc
  have e38 := e37.trans e8
  obtain ⟨k1, k2, k3, k4⟩ := (good_told fm).parts (by decide) (by decide)
  have hz8 := hz.mono e38
  obtain ⟨a8, d8, _, _, _, _, ea, z81, _⟩ := id hz8
  cases ea
  refine ⟨a, _, d8, _, _, rfl, z81, rfl, ⟨rfl, rfl⟩, _, w.more s, _, _, _, rfl, hz8, by omega, by omega, by omega, fun p8 H9 e9 t9 => ⟨_, dp_told t9, k1, k2, k3, k4, ?_⟩⟩
  have e39 := e12.trans (e38.trans e9)
  refine ⟨_, .ref tq, .inr (sameT e39 hd), rfl, _, dp_told (hk.mono e39), k1, k2, k3, k4, ne_same (iteF rfl ?_)⟩
  exact q H9 _ _ e39
end K76
/-! readings: the law's check of one world, the law -/
namespace K76
open PySem PySem.Spec PyProof.Rows L2 SX
open He (ga ma fAd)
variable {K : PySem.W.Frag}
def sp__law_right (K : PySem.W.Frag) : Sp := fun vs H Q _ => ∃ (b p : Addr) (x : V) (w : Wo) (cx bx sx : List V) (n : Nat), vs = [.ref b, x, .ref p] ∧ WoAt K (hide b H) x w cx bx sx ∧ ToldAt K (hide b H) p w ∧ w.Fine ∧ BoxB H b n ∧ n ≤ 300000 ∧ ∀ H', SameX (Xb b) H H' → BoxB H' b (n + 100) → Q (.bl true) H'
theorem r__law_right (O : Ko K) {vs : List V} {H : Hp} {Q : VK} {E : XK} (h : sp__law_right K vs H Q E) :
    t__law_right K (sp_turned K) (okW sp_told K) (sp__law_turned_due K) (sp__law_new_ship K) (sp__law_ship_due K) (sp__law_with K) (sp_Ship___init__ K) (sp_with_ship K) (okW sp_vessel K) (okW sp_ships K) (sp__law_same_things K) (sp_without K) sp__law_take (sp__law_without_due K) E (endsR Q) (start n__law_right vs) H := by
  obtain ⟨b, p, x, w, cx, bx, sx, n, rfl, hW, hT, f, hB, hn, q⟩ := h
  have hW0 := hW.mono hide_same
  have hT0 := hT.mono hide_same
  obtain ⟨l1, l2, l3⟩ := hW0.lens f
  have ft := f.turn
  obtain ⟨g1, g2, g3, g4⟩ := (good_told f).parts (by decide) (by decide)
  obtain ⟨t1, t2, t3, t4⟩ := (good_told ft).parts (by decide) (by decide)
  refine ⟨x, w, cx, bx, sx, rfl, hW0, f, fun y H1 cx1 bx1 sx1 e1 W1 => ?_⟩
  obtain ⟨m1, m2, m3⟩ := W1.lens ft
  obtain ⟨a1, d1, _, _, _, _, rfl, h1, _⟩ := id W1
  refine ⟨a1, _, d1, _, _, rfl, h1, rfl, ⟨rfl, rfl⟩, _, w.turn, _, _, _, rfl, W1, by omega, by omega, by omega, fun p1 H2 e2 T1 => ⟨_, dp_told T1, t1, t2, t3, t4, ?_⟩⟩
  have e12 := e1.trans e2
  refine ⟨p, w, rfl, hT0.mono e12, by have := f.pre.nc; omega, fun p2 H3 e3 T2 => ⟨_, dp_told T2, t1, t2, t3, t4, ne_same (iteF rfl ?_)⟩⟩
  have e13 := e12.trans e3
  refine ⟨.ref a1, w.turn, cx1, bx1, sx1, rfl, W1.mono (e2.trans e3), ft, fun y4 H4 cx4 bx4 sx4 e4 W4 => ?_⟩
  rw [Wo.turn_turn] at W4
  obtain ⟨n1, n2, n3⟩ := W4.lens f
  obtain ⟨a4, d4, _, _, _, _, rfl, h4, _⟩ := id W4
  refine ⟨a4, _, d4, _, _, rfl, h4, rfl, ⟨rfl, rfl⟩, _, w, _, _, _, rfl, W4, by omega, by omega, by omega, fun p5 H5 e5 T5 => ⟨_, dp_told T5, g1, g2, g3, g4, ?_⟩⟩
  have e15 := (e13.trans e4).trans e5
  refine ⟨_, dp_told (hT0.mono e15), g1, g2, g3, g4, ne_same (iteF rfl ?_)⟩
  have k5 : SameX (Xb b) H H5 := SameX.of e15
  have B5 := hB.same e15
  -- the new ship
  refine ⟨b, p, w, n, rfl, told_x hT k5, f, B5, by omega, fun rq H6 s ok hr e6 B6 => ?_⟩
  have k6 := k5.trans e6
  have hT6 := (told_x hT k6).mono hide_same
  refine ⟨p, rq, w, s, rfl, hT6, f, hr, fun dq H7 e7 od => ?_⟩
  have k7 := k6.trans (SameX.of e7)
  have hW7 := wo_x hW k7
  have hT7 := told_x hT k7
  have hr7 := sameT e7 hr
  have B7 := B6.same e7
  obtain ⟨o1, o2, o3, o4⟩ := (good_out (s := s) f ok).parts (by decide) (by decide)
  refine ⟨2, rfl, by decide, by decide, ?_⟩
  refine for_each wk_range (fun σ => ∃ v, σ = stR b p x (some (.ref a1)) (some (.ref rq)) (some (.ref dq)) v none none none none none) ⟨none, rfl⟩ (fun _ _ => True.intro) ?_ ?_
  · rintro i y _ H' hy ⟨v, rfl⟩ e
    refine ⟨x, rq, w, cx, bx, sx, s, rfl, (hW7.mono hide_same).mono e, f, sameT e hr7, ok, fun q8 H8 e8 o8 => ⟨_, dp_out o8, o1, o2, o3, o4, ?_⟩⟩
    exact ⟨_, dp_out ((od.mono e).mono e8), o1, o2, o3, o4, ne_same (iteF rfl ⟨⟨_, rfl⟩, e.trans e8⟩)⟩
  · rintro _ H8 ⟨v6, rfl⟩ e8
    have od8 := od.mono e8
    have fin : ∀ H' u7 u8, Same H8 H' → t_rest K (sp_turned K) (okW sp_told K) (sp__law_turned_due K) (sp__law_new_ship K) (sp__law_ship_due K) (sp__law_with K) (sp_Ship___init__ K) (sp_with_ship K) (okW sp_vessel K) (okW sp_ships K) (sp__law_same_things K) (sp_without K) sp__law_take (sp__law_without_due K) E
        (endsR Q) (stR b p x (some (.ref a1)) (some (.ref rq)) (some (.ref dq)) v6 u7 u8 none none none) H' := fun H' u7 u8 e => by
      have k9 := k7.trans (SameX.of (e8.trans e))
      exact r_rest O E (wo_x hW k9) (told_x hT k9) f (B7.same (e8.trans e)) (by omega) fun H'' e'' B'' => q H'' (k9.trans e'') (B''.le (by omega))
    cases od8 with
    | full h t => exact ⟨_, .str "world", .inr t, rfl, _, rfl, iteF (by decide +kernel) (fin H8 none none (Same.refl _))⟩
    | dup h nn t => exact ⟨_, .str "doubled", .inr t, rfl, _, rfl, iteF (by decide +kernel) (fin H8 none none (Same.refl _))⟩
    | port h nn a t => exact ⟨_, .str "port", .inr t, rfl, _, rfl, iteF (by decide +kernel) (fin H8 none none (Same.refl _))⟩
    | goal h nn a g t => exact ⟨_, .str "port", .inr t, rfl, _, rfl, iteF (by decide +kernel) (fin H8 none none (Same.refl _))⟩
    | told h nn a g tq t k =>
      refine ⟨_, .str "told", .inr t, rfl, _, rfl, iteT (by decide +kernel) ?_⟩
      exact r_told2 O E ((hW7.mono hide_same).mono e8) ((hT7.mono hide_same).mono e8) f ok (sameT e8 hr7) h nn a g t k fin
/-! ### the law -/
def sp_law (K : PySem.W.Frag) : Sp := fun vs H Q _ => ∃ (a : Addr) (ns : List Int), vs = [.ref a] ∧ SqL K H a (ns.map V.int) ∧ ns.length ≤ 100000 ∧ ∀ H', Q (.bl true) H'
/-- a pair of a made world and its rows -/
def MadeAt (K : PySem.W.Frag) (H : Hp) (x : V) : Prop := ∃ (t p : Addr) (y : V) (w : Wo) (cx bx sx : List V), x = .ref t ∧ H t = some (.tup [y, .ref p]) ∧ WoAt K H y w cx bx sx ∧ ToldAt K H p w ∧ w.Fine
theorem MadeAt.mono {H H' : Hp} {x : V} (h : MadeAt K H x) (e : Same H H') : MadeAt K H' x := let ⟨t, p, y, w, cx, bx, sx, h1, h2, h3, h4, h5⟩ := h; ⟨t, p, y, w, cx, bx, sx, h1, e _ _ h2, h3.mono e, h4.mono e, h5⟩
theorem cutV_mem {xs : List V} {lo hi : Option Int} {x : V} (h : x ∈ cutV xs lo hi) : x ∈ xs := List.mem_of_mem_drop (List.mem_of_mem_take h)
theorem ne_of_none' {H : Hp} {a c : Addr} {u : HO} (h : H a = none) (h' : H c = some u) : a ≠ c := fun z => by
  rw [z, h'] at h
  cases h
theorem hide_at {b c : Addr} {H : Hp} {u : HO} (h : hide b H c = some u) : c ≠ b ∧ H c = some u := by
  unfold hide at h
  by_cases e : c = b
  · rw [if_pos e] at h
    cases h
  · rw [if_neg e] at h
    exact ⟨e, h⟩
theorem at_hide {b c : Addr} {H : Hp} {u : HO} (n : c ≠ b) (h : H c = some u) : hide b H c = some u := by rw [hide_ne n]; exact h
/-- beside a list -/
theorem sqt_hideL {H : Hp} {l a : Addr} {xs ys : List V} (hl : H l = some (.lst xs)) (h : SqT K H a ys) : SqT K (hide l H) a ys := by
  have no : ∀ {o : HO}, (∀ zs, o ≠ .lst zs) → H a = some o → a ≠ l := fun hn ha z => by
    subst z
    rw [ha] at hl
    exact hn _ (Option.some.inj hl)
  rcases h with (h | ⟨o, h⟩) | h
  · exact .inl (.inl (at_hide (no (fun _ z => by cases z) h) h))
  · exact .inl (.inr ⟨o, at_hide (no (fun _ z => by cases z) h) h⟩)
  · exact .inr h
theorem told_hideL {H : Hp} {l p : Addr} {xs : List V} {w : Wo} (hl : H l = some (.lst xs)) (h : ToldAt K H p w) : ToldAt K (hide l H) p w := by
  obtain ⟨pa, ca, ba, sa, ct, bt, st, h1, h2, h3, h4, h5, h6, h7, h8⟩ := h
  have r : ∀ (x : V) (row : List V), RowAt K H x row → RowAt K (hide l H) x row := fun x row ⟨a, ex, ha⟩ => ⟨a, ex, sqt_hideL hl ha⟩
  exact ⟨pa, ca, ba, sa, ct, bt, st, sqt_hideL hl h1, sqt_hideL hl h2, sqt_hideL hl h3, sqt_hideL hl h4, sqt_hideL hl h5, pimp r h6, pimp r h7, pimp r h8⟩
theorem wo_hideL {H : Hp} {l y : Addr} {xs : List V} {w : Wo} {cx bx sx : List V} (hl : H l = some (.lst xs)) (ap : Apart H y l) (h : WoAt K H (.ref y) w cx bx sx) : WoAt K (hide l H) (.ref y) w cx bx sx := by
  obtain ⟨a, dx, pl, cl, bl, sl, ex, h1, h2, h3, h4, h5, h6, h7, h8⟩ := h
  cases ex
  have no : ∀ {c : Addr} {C dx : Addr} {fs : List (Str × V)}, H c = some (.ins C dx fs) → hide l H c = some (.ins C dx fs) := fun {c C dx fs} hc => at_hide (fun z => by
    subst z
    rw [hl] at hc
    cases hc) hc
  have ne : ∀ {m : Addr}, V.ref m ∈ [V.int w.beg, .ref pl, .ref cl, .ref bl, .ref sl] → m ≠ l := fun {m} hm z => ap _ _ _ h1 (.ref m) hm (by rw [z])
  exact ⟨y, dx, pl, cl, bl, sl, rfl, no h1, at_hide (ne (by simp)) h2, at_hide (ne (by simp)) h3, at_hide (ne (by simp)) h4, at_hide (ne (by simp)) h5, pimp (fun _ _ ⟨a, dx, ex, ha⟩ => ⟨a, dx, ex, no ha⟩) h6, pimp (fun _ _ ⟨a, dx, ex, ha⟩ => ⟨a, dx, ex, no ha⟩) h7, pimp (fun _ _ ⟨a, dx, ex, ha⟩ => ⟨a, dx, ex, no ha⟩) h8⟩
theorem r_law {vs : List V} {H : Hp} {Q : VK} {E : XK} (h : sp_law K vs H Q E) : t_law K sp__law_box (sp__law_cell K) (sp__law_world K) sp__law_few (sp__law_made K) (sp__law_right K) E (endsR Q) (start n_law vs) H := by
  obtain ⟨sc, ns, rfl, hs, hl, q⟩ := h
  refine ⟨sz rfl, fun al hal => ?_⟩
  have e0 := Same.new (o := .lst []) hal
  refine ⟨_, .inl (sameL e0 hs), ?_⟩
  rw [List.length_map]
  generalize hj : (if (if ((ns.length : Nat) : Int) < 6 then ((ns.length : Nat) : Int) else 6) > 2 then (if ((ns.length : Nat) : Int) < 6 then ((ns.length : Nat) : Int) else 6) else 2) = j
  have j1 : 2 ≤ j ∧ j ≤ 6 := by
    rw [← hj]
    split <;> split at * <;> omega
  refine ⟨j, congrArg (fun i => [V.int i]) hj, by omega, by omega, ?_⟩
  obtain ⟨jn, rfl⟩ := Int.eq_ofNat_of_zero_le (show 0 ≤ j by omega)
  have hK : Same H (hide al (upd H al (.lst []))) := fun c u hc => at_hide (ne_of_none hc hal) (by rw [upd_ne (ne_of_none hc hal)]; exact hc)
  refine for_wk wk_range (fun i σ H' => (∃ v2 v3 v4 v5 v6, σ = [some (.ref sc), some (.ref al), v2, v3, v4, v5, v6]) ∧ Same H (hide al H') ∧ ∃ xs, H' al = some (.lst xs) ∧ xs.length ≤ i ∧ ∀ x ∈ xs, MadeAt K (hide al H') x) ⟨⟨_, _, _, _, _, rfl⟩, hK, [], upd_same, Nat.le_refl _, fun x hx => by cases hx⟩ (fun _ _ _ _ _ => True.intro) ?_ ?_
  · rintro i y _ H0 hy ⟨⟨v2, v3, v4, v5, v6, rfl⟩, eH, xs, hxs, lx, hm⟩
    obtain ⟨hi, hy⟩ := rangeV_get hy
    have hi : i < jn := hi
    rw [Int.zero_add] at hy
    subst hy
    refine ⟨sc, ns, i, rfl, sameL (eH.trans hide_same) hs, fun c => ⟨c, rfl, fun b hb H1 e1 B1 => ?_⟩⟩
    have nba : al ≠ b := fun z => by
      subst z
      rw [hb] at hxs
      cases hxs
    refine ⟨b, 0, rfl, B1, by decide, fun fl H2 p c d e p1 p8 c12 d4 e6 hfl e2 B2 => ?_⟩
    refine ⟨b, fl, p, c, d, e, 5, rfl, hfl, ⟨p1, p8, c12, d4, e6⟩, B2, by decide, fun wp H3 w f T3 e3 B3 => ?_⟩
    have x3 : H3 al = some (.lst xs) := e3 _ _ nba (e2 _ _ nba (e1 _ _ hxs))
    refine ⟨.inl ⟨rfl, xs, .inl (.inl x3)⟩, wp, w, rfl, T3, f, fun yw H4 cx bx sx e4 W4 ap => ⟨sz rfl, fun t ht => ⟨al, xs, .ref t, rfl, rfl, Same.new ht _ _ (e4 _ _ x3), len_lt (by omega), ?_⟩⟩⟩
    have x4 := e4 _ _ x3
    have B4 := B3.same e4
    have ap4 := ap al (by rw [x3]; simp)
    have nt : t ≠ al := ne_of_none' ht x4
    have ntb : t ≠ b := ne_box B4 ht
    generalize hH5 : upd H4 t (.tup [.ref yw, .ref wp]) = H5
    have e5 : Same H4 H5 := by rw [← hH5]; exact Same.new ht
    have t5 : H5 t = some (.tup [.ref yw, .ref wp]) := by rw [← hH5]; exact upd_same
    refine ⟨-2, rfl, .inl ⟨_, .inl (.inl upd_same), fun u hu => ?_⟩⟩
    generalize hH6 : upd H5 al (.lst (xs ++ [.ref t])) = H6 at hu ⊢
    have x6 : H6 al = some (.lst (xs ++ [.ref t])) := by rw [← hH6]; exact upd_same
    have e6 : ∀ c v, c ≠ al → H5 c = some v → H6 c = some v := fun c v n hc => by rw [← hH6, upd_ne n]; exact hc
    have e7 := Same.new (o := .lst (cutV (xs ++ [.ref t]) (some (-2)) none)) hu
    have B6 : BoxB H6 b 405 := (B4.same e5).at_ (by rw [← hH6, upd_ne (Ne.symm nba)])
    have nub : u ≠ b := ne_box B6 hu
    have nua : u ≠ al := ne_of_none' hu x6
    have B7 := B6.same e7
    generalize hH7 : upd H6 u (.lst (cutV (xs ++ [.ref t]) (some (-2)) none)) = H7 at e7 B7
    have x7 : H7 al = some (.lst (xs ++ [.ref t])) := e7 _ _ x6
    have u7 : H7 u = some (.lst (cutV (xs ++ [.ref t]) (some (-2)) none)) := by rw [← hH7]; exact upd_same
    -- what stood, what is new, beside both lists
    have old : Same (hide al H0) (hide b (hide al H7)) := fun c v hc => by
      obtain ⟨n1, h1⟩ := hide_at hc
      have n2 : c ≠ b := ne_of_none h1 hb
      exact at_hide n2 (at_hide n1 (e7 _ _ (e6 _ _ n1 (e5 _ _ (e4 _ _ (e3 _ _ n2 (e2 _ _ n2 (e1 _ _ h1))))))))
    have new4 : Same (hide b (hide al H4)) (hide b (hide al H7)) := fun c v hc => by
      obtain ⟨n2, hc⟩ := hide_at hc
      obtain ⟨n1, h1⟩ := hide_at hc
      exact at_hide n2 (at_hide n1 (e7 _ _ (e6 _ _ n1 (e5 _ _ h1))))
    have W7 : WoAt K (hide b (hide al H7)) (.ref yw) w cx bx sx := by
      have h1 := wo_hideL x4 ap4 W4
      have B4' : BoxB (hide al H4) b 405 := B4.at_ (hide_ne (Ne.symm nba))
      exact (h1.hide B4').mono new4
    have T7 : ToldAt K (hide b (hide al H7)) wp w := by
      have h1 := told_hideL x4 (T3.mono e4)
      have B4' : BoxB (hide al H4) b 405 := B4.at_ (hide_ne (Ne.symm nba))
      exact (h1.hide B4').mono new4
    have hm7 : ∀ x ∈ xs ++ [.ref t], MadeAt K (hide b (hide al H7)) x := fun x hx => by
      rcases List.mem_append.mp hx with hx | hx
      · exact (hm x hx).mono old
      · simp only [List.mem_cons, List.not_mem_nil, or_false] at hx
        subst hx
        exact ⟨t, wp, .ref yw, w, cx, bx, sx, rfl, at_hide ntb (at_hide nt (e7 _ _ (e6 _ _ nt t5))), W7, T7, f⟩
    refine ⟨_, _, _, .lst, .inl (.inl u7), ?_⟩
    have lc : (cutV (xs ++ [.ref t]) (some (-2)) none).length ≤ 7 := by
      refine Nat.le_trans (cutV_length _ _ _) ?_
      rw [List.length_append]
      simp only [List.length_cons, List.length_nil]
      omega
    refine for_wk wk_list (fun m σ Hc => (∃ v4 v5 v6, σ = [some (.ref sc), some (.ref al), some (.int i), some (.ref b), v4, v5, v6]) ∧ SameX (Xb b) H7 Hc ∧ BoxB Hc b (405 + 100 * m)) ⟨⟨_, _, _, rfl⟩, SameX.refl _, B7⟩ (fun m σ Hc _ P => .inl (.inl (P.2.1 _ _ nub u7))) ?_ ?_
    · rintro m x _ Hc hx ⟨⟨v4, v5, v6, rfl⟩, eX, Bm⟩
      have hm8 := (List.getElem?_eq_some_iff.mp hx).1
      have kc : Same (hide b (hide al H7)) (hide b Hc) := fun c v hc => by
        obtain ⟨n2, hc⟩ := hide_at hc
        obtain ⟨_, h1⟩ := hide_at hc
        exact at_hide n2 (eX _ _ n2 h1)
      obtain ⟨t', p', y', w', cx', bx', sx', rfl, q1, q2, q3, q4⟩ := (hm7 x (cutV_mem (List.mem_of_getElem? hx))).mono kc
      refine ⟨t', _, rfl, .inl (.inl (hide_same _ _ q1)), rfl, _, _, rfl, _, _, rfl, rfl, ?_⟩
      refine ⟨b, p', y', w', cx', bx', sx', 405 + 100 * m, rfl, q2, q3, q4, Bm, by omega, fun Hd eD BD => ⟨true, rfl, iteF rfl ⟨⟨_, _, _, rfl⟩, eX.trans eD, BD.le (by omega)⟩⟩⟩
    · rintro _ Hc ⟨⟨v4, v5, v6, rfl⟩, eX, Bm⟩
      have kc : Same (hide b (hide al H7)) (hide al Hc) := fun c v hc => by
        obtain ⟨n2, hc⟩ := hide_at hc
        obtain ⟨n1, h1⟩ := hide_at hc
        exact at_hide n1 (eX _ _ n2 h1)
      refine ⟨⟨_, _, _, _, _, rfl⟩, (eH.trans old).trans kc, xs ++ [.ref t], eX _ _ nba x7, ?_, fun x hx => (hm7 x hx).mono kc⟩
      rw [List.length_append]
      simp only [List.length_cons, List.length_nil]
      omega
  · rintro σ H' ⟨⟨v2, v3, v4, v5, v6, rfl⟩, _⟩
    exact q H'
end K76
/-! the text's defs and facts as data: printed by a program of mine -/
namespace K76
open PySem PySem.Spec PyProof.Rows L2 SX
open He (ga ma fAd)
def top (i : Nat) : Stmt := PySem.Challenge.pw_iceopened_k76_turned_more_and_less.main.body.getD i (.Pass ⟨0, 0, 0, 0⟩)
abbrev s_NoName___init__ : Stmt := inClass (top 3) 0
def d_NoName___init__ : He.DefD := ⟨("NoName", some "__init__"), "__init__", "NoName.__init__", defArgs s_NoName___init__, defBody s_NoName___init__, defScope s_NoName___init__, [], []⟩
abbrev s_NoNumber___init__ : Stmt := inClass (top 4) 0
def d_NoNumber___init__ : He.DefD := ⟨("NoNumber", some "__init__"), "__init__", "NoNumber.__init__", defArgs s_NoNumber___init__, defBody s_NoNumber___init__, defScope s_NoNumber___init__, [], []⟩
abbrev s_NoPort___init__ : Stmt := inClass (top 5) 0
def d_NoPort___init__ : He.DefD := ⟨("NoPort", some "__init__"), "__init__", "NoPort.__init__", defArgs s_NoPort___init__, defBody s_NoPort___init__, defScope s_NoPort___init__, [], []⟩
abbrev s_NoChannel___init__ : Stmt := inClass (top 6) 0
def d_NoChannel___init__ : He.DefD := ⟨("NoChannel", some "__init__"), "__init__", "NoChannel.__init__", defArgs s_NoChannel___init__, defBody s_NoChannel___init__, defScope s_NoChannel___init__, [], []⟩
abbrev s_NoVessel___init__ : Stmt := inClass (top 7) 0
def d_NoVessel___init__ : He.DefD := ⟨("NoVessel", some "__init__"), "__init__", "NoVessel.__init__", defArgs s_NoVessel___init__, defBody s_NoVessel___init__, defScope s_NoVessel___init__, [], []⟩
abbrev s_NoKind___init__ : Stmt := inClass (top 8) 0
def d_NoKind___init__ : He.DefD := ⟨("NoKind", some "__init__"), "__init__", "NoKind.__init__", defArgs s_NoKind___init__, defBody s_NoKind___init__, defScope s_NoKind___init__, [], []⟩
abbrev s_NoWorld___init__ : Stmt := inClass (top 9) 0
def d_NoWorld___init__ : He.DefD := ⟨("NoWorld", some "__init__"), "__init__", "NoWorld.__init__", defArgs s_NoWorld___init__, defBody s_NoWorld___init__, defScope s_NoWorld___init__, [], []⟩
abbrev s_Doubled___init__ : Stmt := inClass (top 10) 0
def d_Doubled___init__ : He.DefD := ⟨("Doubled", some "__init__"), "__init__", "Doubled.__init__", defArgs s_Doubled___init__, defBody s_Doubled___init__, defScope s_Doubled___init__, [], []⟩
abbrev s_is_whole : Stmt := top 14
def d_is_whole : He.DefD := ⟨("is_whole", none), "is_whole", "is_whole", defArgs s_is_whole, defBody s_is_whole, defScope s_is_whole, [], []⟩
abbrev s_is_within : Stmt := top 15
def d_is_within : He.DefD := ⟨("is_within", none), "is_within", "is_within", defArgs s_is_within, defBody s_is_within, defScope s_is_within, [], []⟩
abbrev s_is_name : Stmt := top 16
def d_is_name : He.DefD := ⟨("is_name", none), "is_name", "is_name", defArgs s_is_name, defBody s_is_name, defScope s_is_name, [], []⟩
abbrev s_need_names : Stmt := top 23
def d_need_names : He.DefD := ⟨("need_names", none), "need_names", "need_names", defArgs s_need_names, defBody s_need_names, defScope s_need_names, [], []⟩
abbrev s_need_numbers : Stmt := top 24
def d_need_numbers : He.DefD := ⟨("need_numbers", none), "need_numbers", "need_numbers", defArgs s_need_numbers, defBody s_need_numbers, defScope s_need_numbers, [], []⟩
abbrev s_Channel___init__ : Stmt := inClass (top 25) 0
def d_Channel___init__ : He.DefD := ⟨("Channel", some "__init__"), "__init__", "Channel.__init__", defArgs s_Channel___init__, defBody s_Channel___init__, defScope s_Channel___init__, [], []⟩
abbrev s_Channel_ends : Stmt := inClass (top 25) 1
def d_Channel_ends : He.DefD := ⟨("Channel", some "ends"), "ends", "Channel.ends", defArgs s_Channel_ends, defBody s_Channel_ends, defScope s_Channel_ends, [], []⟩
abbrev s_Channel_row : Stmt := inClass (top 25) 3
def d_Channel_row : He.DefD := ⟨("Channel", some "row"), "row", "Channel.row", defArgs s_Channel_row, defBody s_Channel_row, defScope s_Channel_row, [], []⟩
abbrev s_Vessel___init__ : Stmt := inClass (top 26) 0
def d_Vessel___init__ : He.DefD := ⟨("Vessel", some "__init__"), "__init__", "Vessel.__init__", defArgs s_Vessel___init__, defBody s_Vessel___init__, defScope s_Vessel___init__, [], []⟩
abbrev s_Vessel_settle : Stmt := inClass (top 26) 1
def d_Vessel_settle : He.DefD := ⟨("Vessel", some "settle"), "settle", "Vessel.settle", defArgs s_Vessel_settle, defBody s_Vessel_settle, defScope s_Vessel_settle, [], []⟩
abbrev s_Vessel_kind : Stmt := inClass (top 26) 2
def d_Vessel_kind : He.DefD := ⟨("Vessel", some "kind"), "kind", "Vessel.kind", defArgs s_Vessel_kind, defBody s_Vessel_kind, defScope s_Vessel_kind, [], []⟩
abbrev s_Vessel_thins : Stmt := inClass (top 26) 3
def d_Vessel_thins : He.DefD := ⟨("Vessel", some "thins"), "thins", "Vessel.thins", defArgs s_Vessel_thins, defBody s_Vessel_thins, defScope s_Vessel_thins, [], []⟩
abbrev s_Vessel_row : Stmt := inClass (top 26) 5
def d_Vessel_row : He.DefD := ⟨("Vessel", some "row"), "row", "Vessel.row", defArgs s_Vessel_row, defBody s_Vessel_row, defScope s_Vessel_row, [], []⟩
abbrev s_Breaker___init__ : Stmt := inClass (top 27) 0
def d_Breaker___init__ : He.DefD := ⟨("Breaker", some "__init__"), "__init__", "Breaker.__init__", defArgs s_Breaker___init__, defBody s_Breaker___init__, defScope s_Breaker___init__, [], []⟩
abbrev s_Breaker_kind : Stmt := inClass (top 27) 1
def d_Breaker_kind : He.DefD := ⟨("Breaker", some "kind"), "kind", "Breaker.kind", defArgs s_Breaker_kind, defBody s_Breaker_kind, defScope s_Breaker_kind, [], []⟩
abbrev s_Breaker_thins : Stmt := inClass (top 27) 2
def d_Breaker_thins : He.DefD := ⟨("Breaker", some "thins"), "thins", "Breaker.thins", defArgs s_Breaker_thins, defBody s_Breaker_thins, defScope s_Breaker_thins, [], []⟩
abbrev s_Breaker_row : Stmt := inClass (top 27) 3
def d_Breaker_row : He.DefD := ⟨("Breaker", some "row"), "row", "Breaker.row", defArgs s_Breaker_row, defBody s_Breaker_row, defScope s_Breaker_row, [], []⟩
abbrev s_Ship___init__ : Stmt := inClass (top 28) 0
def d_Ship___init__ : He.DefD := ⟨("Ship", some "__init__"), "__init__", "Ship.__init__", defArgs s_Ship___init__, defBody s_Ship___init__, defScope s_Ship___init__, [], []⟩
abbrev s_Ship_kind : Stmt := inClass (top 28) 1
def d_Ship_kind : He.DefD := ⟨("Ship", some "kind"), "kind", "Ship.kind", defArgs s_Ship_kind, defBody s_Ship_kind, defScope s_Ship_kind, [], []⟩
abbrev s_Ship_row : Stmt := inClass (top 28) 2
def d_Ship_row : He.DefD := ⟨("Ship", some "row"), "row", "Ship.row", defArgs s_Ship_row, defBody s_Ship_row, defScope s_Ship_row, [], []⟩
abbrev s_is_list : Stmt := top 35
def d_is_list : He.DefD := ⟨("is_list", none), "is_list", "is_list", defArgs s_is_list, defBody s_is_list, defScope s_is_list, [], []⟩
abbrev s_need_kinds : Stmt := top 36
def d_need_kinds : He.DefD := ⟨("need_kinds", none), "need_kinds", "need_kinds", defArgs s_need_kinds, defBody s_need_kinds, defScope s_need_kinds, [], []⟩
abbrev s_need_unlike : Stmt := top 37
def d_need_unlike : He.DefD := ⟨("need_unlike", none), "need_unlike", "need_unlike", defArgs s_need_unlike, defBody s_need_unlike, defScope s_need_unlike, [], []⟩
abbrev s_need_ports : Stmt := top 38
def d_need_ports : He.DefD := ⟨("need_ports", none), "need_ports", "need_ports", defArgs s_need_ports, defBody s_need_ports, defScope s_need_ports, [], []⟩
abbrev s_World___init__ : Stmt := inClass (top 39) 0
def d_World___init__ : He.DefD := ⟨("World", some "__init__"), "__init__", "World.__init__", defArgs s_World___init__, defBody s_World___init__, defScope s_World___init__, [], []⟩
abbrev s_World_begin_hour : Stmt := inClass (top 39) 1
def d_World_begin_hour : He.DefD := ⟨("World", some "begin_hour"), "begin_hour", "World.begin_hour", defArgs s_World_begin_hour, defBody s_World_begin_hour, defScope s_World_begin_hour, [], []⟩
abbrev s_World_ports : Stmt := inClass (top 39) 2
def d_World_ports : He.DefD := ⟨("World", some "ports"), "ports", "World.ports", defArgs s_World_ports, defBody s_World_ports, defScope s_World_ports, [], []⟩
abbrev s_World_channels : Stmt := inClass (top 39) 3
def d_World_channels : He.DefD := ⟨("World", some "channels"), "channels", "World.channels", defArgs s_World_channels, defBody s_World_channels, defScope s_World_channels, [], []⟩
abbrev s_World_breakers : Stmt := inClass (top 39) 4
def d_World_breakers : He.DefD := ⟨("World", some "breakers"), "breakers", "World.breakers", defArgs s_World_breakers, defBody s_World_breakers, defScope s_World_breakers, [], []⟩
abbrev s_World_ships : Stmt := inClass (top 39) 5
def d_World_ships : He.DefD := ⟨("World", some "ships"), "ships", "World.ships", defArgs s_World_ships, defBody s_World_ships, defScope s_World_ships, [], []⟩
abbrev s_World_vessels : Stmt := inClass (top 39) 6
def d_World_vessels : He.DefD := ⟨("World", some "vessels"), "vessels", "World.vessels", defArgs s_World_vessels, defBody s_World_vessels, defScope s_World_vessels, [], []⟩
abbrev s_World_channel : Stmt := inClass (top 39) 7
def d_World_channel : He.DefD := ⟨("World", some "channel"), "channel", "World.channel", defArgs s_World_channel, defBody s_World_channel, defScope s_World_channel, [], []⟩
abbrev s_World_vessel : Stmt := inClass (top 39) 8
def d_World_vessel : He.DefD := ⟨("World", some "vessel"), "vessel", "World.vessel", defArgs s_World_vessel, defBody s_World_vessel, defScope s_World_vessel, [], []⟩
abbrev s_World_told : Stmt := inClass (top 39) 12
def d_World_told : He.DefD := ⟨("World", some "told"), "told", "World.told", defArgs s_World_told, defBody s_World_told, defScope s_World_told, [], []⟩
abbrev s_channel_anew : Stmt := top 41
def d_channel_anew : He.DefD := ⟨("channel_anew", none), "channel_anew", "channel_anew", defArgs s_channel_anew, defBody s_channel_anew, defScope s_channel_anew, [], []⟩
abbrev s_breaker_anew : Stmt := top 42
def d_breaker_anew : He.DefD := ⟨("breaker_anew", none), "breaker_anew", "breaker_anew", defArgs s_breaker_anew, defBody s_breaker_anew, defScope s_breaker_anew, [], []⟩
abbrev s_ship_anew : Stmt := top 43
def d_ship_anew : He.DefD := ⟨("ship_anew", none), "ship_anew", "ship_anew", defArgs s_ship_anew, defBody s_ship_anew, defScope s_ship_anew, [], []⟩
abbrev s_world_anew : Stmt := top 44
def d_world_anew : He.DefD := ⟨("world_anew", none), "world_anew", "world_anew", defArgs s_world_anew, defBody s_world_anew, defScope s_world_anew, [], []⟩
abbrev s_turned : Stmt := top 45
def d_turned : He.DefD := ⟨("turned", none), "turned", "turned", defArgs s_turned, defBody s_turned, defScope s_turned, [], []⟩
abbrev s_with_ship : Stmt := top 46
def d_with_ship : He.DefD := ⟨("with_ship", none), "with_ship", "with_ship", defArgs s_with_ship, defBody s_with_ship, defScope s_with_ship, [], []⟩
abbrev s_without : Stmt := top 47
def d_without : He.DefD := ⟨("without", none), "without", "without", defArgs s_without, defBody s_without, defScope s_without, [], []⟩
abbrev s__law_cell : Stmt := top 49
def d__law_cell : He.DefD := ⟨("_law_cell", none), "_law_cell", "_law_cell", defArgs s__law_cell, defBody s__law_cell, defScope s__law_cell, [], []⟩
abbrev s__law_box : Stmt := top 50
def d__law_box : He.DefD := ⟨("_law_box", none), "_law_box", "_law_box", defArgs s__law_box, defBody s__law_box, defScope s__law_box, [], []⟩
abbrev s__law_take : Stmt := top 51
def d__law_take : He.DefD := ⟨("_law_take", none), "_law_take", "_law_take", defArgs s__law_take, defBody s__law_take, defScope s__law_take, [], []⟩
abbrev s__law_names : Stmt := top 52
def d__law_names : He.DefD := ⟨("_law_names", none), "_law_names", "_law_names", defArgs s__law_names, defBody s__law_names, defScope s__law_names, [], []⟩
abbrev s__law_number : Stmt := top 53
def d__law_number : He.DefD := ⟨("_law_number", none), "_law_number", "_law_number", defArgs s__law_number, defBody s__law_number, defScope s__law_number, [], []⟩
abbrev s__law_channel : Stmt := top 54
def d__law_channel : He.DefD := ⟨("_law_channel", none), "_law_channel", "_law_channel", defArgs s__law_channel, defBody s__law_channel, defScope s__law_channel, [], []⟩
abbrev s__law_breaker : Stmt := top 55
def d__law_breaker : He.DefD := ⟨("_law_breaker", none), "_law_breaker", "_law_breaker", defArgs s__law_breaker, defBody s__law_breaker, defScope s__law_breaker, [], []⟩
abbrev s__law_ship : Stmt := top 56
def d__law_ship : He.DefD := ⟨("_law_ship", none), "_law_ship", "_law_ship", defArgs s__law_ship, defBody s__law_ship, defScope s__law_ship, [], []⟩
abbrev s__law_world : Stmt := top 57
def d__law_world : He.DefD := ⟨("_law_world", none), "_law_world", "_law_world", defArgs s__law_world, defBody s__law_world, defScope s__law_world, [], []⟩
abbrev s__law_few : Stmt := top 58
def d__law_few : He.DefD := ⟨("_law_few", none), "_law_few", "_law_few", defArgs s__law_few, defBody s__law_few, defScope s__law_few, [], []⟩
abbrev s__law_made : Stmt := top 59
def d__law_made : He.DefD := ⟨("_law_made", none), "_law_made", "_law_made", defArgs s__law_made, defBody s__law_made, defScope s__law_made, [], []⟩
abbrev s__law_turned_due : Stmt := top 60
def d__law_turned_due : He.DefD := ⟨("_law_turned_due", none), "_law_turned_due", "_law_turned_due", defArgs s__law_turned_due, defBody s__law_turned_due, defScope s__law_turned_due, [], []⟩
abbrev s__law_ship_due : Stmt := top 61
def d__law_ship_due : He.DefD := ⟨("_law_ship_due", none), "_law_ship_due", "_law_ship_due", defArgs s__law_ship_due, defBody s__law_ship_due, defScope s__law_ship_due, [], []⟩
abbrev s__law_with : Stmt := top 62
def d__law_with : He.DefD := ⟨("_law_with", none), "_law_with", "_law_with", defArgs s__law_with, defBody s__law_with, defScope s__law_with, [], []⟩
abbrev s__law_without_due : Stmt := top 63
def d__law_without_due : He.DefD := ⟨("_law_without_due", none), "_law_without_due", "_law_without_due", defArgs s__law_without_due, defBody s__law_without_due, defScope s__law_without_due, [], []⟩
abbrev s__law_same_things : Stmt := top 64
def d__law_same_things : He.DefD := ⟨("_law_same_things", none), "_law_same_things", "_law_same_things", defArgs s__law_same_things, defBody s__law_same_things, defScope s__law_same_things, [], []⟩
abbrev s__law_new_ship : Stmt := top 65
def d__law_new_ship : He.DefD := ⟨("_law_new_ship", none), "_law_new_ship", "_law_new_ship", defArgs s__law_new_ship, defBody s__law_new_ship, defScope s__law_new_ship, [], []⟩
abbrev s__law_right : Stmt := top 66
def d__law_right : He.DefD := ⟨("_law_right", none), "_law_right", "_law_right", defArgs s__law_right, defBody s__law_right, defScope s__law_right, [], []⟩
abbrev s_law : Stmt := top 67
def d_law : He.DefD := ⟨("law", none), "law", "law", defArgs s_law, defBody s_law, defScope s_law, [], []⟩
def fn0 : List He.DefD := [d_NoName___init__, d_NoNumber___init__, d_NoPort___init__, d_NoChannel___init__, d_NoVessel___init__, d_NoKind___init__, d_NoWorld___init__, d_Doubled___init__, d_is_whole, d_is_within, d_is_name, d_need_names, d_need_numbers, d_Channel___init__, d_Channel_ends, d_Channel_row, d_Vessel___init__, d_Vessel_settle, d_Vessel_kind, d_Vessel_thins, d_Vessel_row, d_Breaker___init__, d_Breaker_kind, d_Breaker_thins, d_Breaker_row, d_Ship___init__, d_Ship_kind, d_Ship_row, d_is_list, d_need_kinds]
def fn1 : List He.DefD := [d_need_unlike, d_need_ports, d_World___init__, d_World_begin_hour, d_World_ports, d_World_channels, d_World_breakers, d_World_ships, d_World_vessels, d_World_channel, d_World_vessel, d_World_told, d_channel_anew, d_breaker_anew, d_ship_anew, d_world_anew, d_turned, d_with_ship, d_without, d__law_cell, d__law_box, d__law_take, d__law_names, d__law_number, d__law_channel, d__law_breaker, d__law_ship, d__law_world, d__law_few, d__law_made]
def fn2 : List He.DefD := [d__law_turned_due, d__law_ship_due, d__law_with, d__law_without_due, d__law_same_things, d__law_new_ship, d__law_right, d_law]
def fn : List He.DefD := fn0 ++ fn1 ++ fn2
def fa0 : List He.Fa := [.free "isinstance", .free "bool", .free "int", .glo "is_whole", .free "len", .int "LONGEST_NAME" 8, .free "str", .str "LETTERS" "abcdefghijklmnopqrstuvwxyz", .free "all", .glo "is_name", .glo "NoName", .glo "is_within", .glo "NoNumber", .glo "need_names", .glo "Doubled", .glo "need_numbers", .int "MOST_ICE" 1000000, .int "MOST_DEPTH" 1000, .int "MOST_LENGTH" 1000, .int "MOST_GROWTH" 1000, .int "MOST_HOUR" 1000000, .glo "Vessel", .free "list", .free "tuple", .glo "is_list", .int "MOST_PORTS" 8, .glo "NoWorld", .glo "Channel", .int "MOST_CHANNELS" 12, .glo "Breaker"]
def fa1 : List He.Fa := [.int "MOST_BREAKERS" 4, .glo "Ship", .int "MOST_SHIPS" 6, .glo "NoPort", .int "MOST_BEGIN" 1000000, .glo "need_kinds", .glo "need_unlike", .glo "need_ports", .glo "NoChannel", .glo "NoVessel", .mkr "Channel", .mkr "Breaker", .mkr "Ship", .glo "channel_anew", .glo "World", .mkr "World", .glo "ship_anew", .glo "breaker_anew", .glo "world_anew", .glo "NoKind", .free "max", .glo "_law_take", .free "range", .glo "_law_number", .glo "_law_names", .glo "_law_channel", .glo "_law_breaker", .glo "_law_ship", .glo "with_ship", .glo "IceError"]
def fa2 : List He.Fa := [.glo "turned", .free "repr", .glo "_law_turned_due", .glo "_law_new_ship", .glo "_law_ship_due", .glo "_law_with", .glo "_law_same_things", .glo "without", .glo "_law_without_due", .free "min", .glo "_law_box", .glo "_law_cell", .glo "_law_world", .glo "_law_few", .glo "_law_made", .glo "_law_right", .cls "World", .noat "World" "beginning", .noat "World" "all_ports", .noat "World" "all_channels", .noat "World" "all_breakers", .noat "World" "all_ships", .cls "Channel", .noat "Channel" "name", .noat "Channel" "one", .noat "Channel" "other", .noat "Channel" "hours", .noat "Channel" "depth", .noat "Channel" "first", .noat "Channel" "growth"]
def fa3 : List He.Fa := [.noat "Channel" "most", .cls "Breaker", .noat "Breaker" "name", .noat "Breaker" "port", .noat "Breaker" "hour", .noat "Breaker" "strength", .noat "Breaker" "draught", .noat "Breaker" "cut", .cls "Ship", .noat "Ship" "name", .noat "Ship" "port", .noat "Ship" "hour", .noat "Ship" "strength", .noat "Ship" "draught", .noat "Ship" "goal", .meth "Breaker" "settle", .meth "Ship" "settle", .meth "Channel" "row", .meth "Breaker" "row", .meth "Ship" "row", .meth "World" "begin_hour", .meth "World" "ports", .meth "World" "channels", .meth "World" "breakers", .meth "World" "ships", .meth "World" "vessels", .meth "World" "vessel", .meth "World" "told", .exm "NoWorld" "NoWorld" true, .exm "Doubled" "NoWorld" false]
def fa4 : List He.Fa := [.exm "Doubled" "Doubled" true, .exm "NoPort" "NoWorld" false, .exm "NoPort" "Doubled" false, .exm "NoPort" "NoPort" true, .glo "law"]
def fa : List He.Fa := fa0 ++ fa1 ++ fa2 ++ fa3 ++ fa4
def fy0 : List Fy := [.oex "NoName" "found", .oex "NoNumber" "found", .oex "Doubled" "name", .crd "Vessel", .cm "Vessel" "__init__", .cm "Vessel" "row", .oex "NoWorld" "found", .oex "NoPort" "found", .oex "NoChannel" "found", .oex "NoVessel" "found", .oex "NoKind" "found", .crd "IceError", .cb "IceError" "__init__" "ValueError.__init__", .iq ("Breaker", some "settle") ("Vessel", some "settle"), .iq ("Ship", some "settle") ("Vessel", some "settle"), .kin "Channel", .kit "Channel" "Channel" true, .oeq "Channel", .kin "Breaker", .kit "Breaker" "Breaker" true, .oeq "Breaker", .kin "Ship", .kit "Ship" "Ship" true, .oeq "Ship"]
def fy : List Fy := fy0
def nm0 : List PySem.Str := ["_wall", "IceError", "NoName", "NoNumber", "NoPort", "NoChannel", "NoVessel", "NoKind", "NoWorld", "Doubled", "LETTERS", "LONGEST_NAME", "is_whole", "is_within", "is_name", "MOST_HOUR", "MOST_ICE", "MOST_DEPTH", "MOST_LENGTH", "MOST_GROWTH", "need_names", "need_numbers", "Channel", "Vessel", "Breaker", "Ship", "MOST_BEGIN", "MOST_PORTS", "MOST_CHANNELS", "MOST_BREAKERS"]
def nm1 : List PySem.Str := ["MOST_SHIPS", "is_list", "need_kinds", "need_unlike", "need_ports", "World", "channel_anew", "breaker_anew", "ship_anew", "world_anew", "turned", "with_ship", "without", "_law_cell", "_law_box", "_law_take", "_law_names", "_law_number", "_law_channel", "_law_breaker", "_law_ship", "_law_world", "_law_few", "_law_made", "_law_turned_due", "_law_ship_due", "_law_with", "_law_without_due", "_law_same_things", "_law_new_ship"]
def nm2 : List PySem.Str := ["_law_right"]
def nm : List PySem.Str := nm0 ++ nm1 ++ nm2
abbrev Tp (K : PySem.W.Frag) (mg : Str → Option Value) : Prop := TpG fa fy fn K mg
end K76
/-! each def does what its reading says: printed by a program of mine -/
namespace K76
open PySem PySem.Spec PyProof.Rows L2 SX
open He (ga ma fAd)
variable {P : Program} {w : World} {K : PySem.W.Frag} {mg : Str → Option Value} {base : Heap}
theorem sc_NoName___init__ : FnScope ["self", "found"] ["self", "found"] (defScope s_NoName___init__) := ⟨rfl, rfl, rfl, by decide +kernel, rfl, by decide +kernel, by decide +kernel⟩
theorem E_NoName (T : Tp K mg) : FnE P w K mg base 1 (ma K (ga K "NoName") "__init__") (spExc K "NoName" "found") := by
  obtain ⟨fd, FD⟩ := T.c.def_ 0 (d := d_NoName___init__)
  refine ⟨fd, ["self", "found"], FD.ok sc_NoName___init__ (fun vs H Q E h => ?_) (fun cdv A outer s H vs Q E hr hsp => ⟨tExc K "found" "what is no name", ?_, r_exc (T.oex 0) hsp⟩), FD.bindsN fun _ _ _ _ _ _ us hl => match us, hl with | [_, _], _ => rfl⟩
  · obtain ⟨a, v, rfl, _⟩ := h
    rfl
  · exact pss_cons (ps_expr (px_binit (T.crd 11) (T.cb 12) (T.glo 59) rfl (pa_cons (mv 0) (pa_cons pe_str pa_nil)))) (pss_one (ps_ost (mv 0) (mv 1)))
theorem sc_NoNumber___init__ : FnScope ["self", "found"] ["self", "found"] (defScope s_NoNumber___init__) := ⟨rfl, rfl, rfl, by decide +kernel, rfl, by decide +kernel, by decide +kernel⟩
theorem E_NoNumber (T : Tp K mg) : FnE P w K mg base 1 (ma K (ga K "NoNumber") "__init__") (spExc K "NoNumber" "found") := by
  obtain ⟨fd, FD⟩ := T.c.def_ 1 (d := d_NoNumber___init__)
  refine ⟨fd, ["self", "found"], FD.ok sc_NoNumber___init__ (fun vs H Q E h => ?_) (fun cdv A outer s H vs Q E hr hsp => ⟨tExc K "found" "what is no number within its bounds", ?_, r_exc (T.oex 1) hsp⟩), FD.bindsN fun _ _ _ _ _ _ us hl => match us, hl with | [_, _], _ => rfl⟩
  · obtain ⟨a, v, rfl, _⟩ := h
    rfl
  · exact pss_cons (ps_expr (px_binit (T.crd 11) (T.cb 12) (T.glo 59) rfl (pa_cons (mv 0) (pa_cons pe_str pa_nil)))) (pss_one (ps_ost (mv 0) (mv 1)))
theorem sc_NoPort___init__ : FnScope ["self", "found"] ["self", "found"] (defScope s_NoPort___init__) := ⟨rfl, rfl, rfl, by decide +kernel, rfl, by decide +kernel, by decide +kernel⟩
theorem E_NoPort (T : Tp K mg) : FnE P w K mg base 1 (ma K (ga K "NoPort") "__init__") (spExc K "NoPort" "found") := by
  obtain ⟨fd, FD⟩ := T.c.def_ 2 (d := d_NoPort___init__)
  refine ⟨fd, ["self", "found"], FD.ok sc_NoPort___init__ (fun vs H Q E h => ?_) (fun cdv A outer s H vs Q E hr hsp => ⟨tExc K "found" "what is no port", ?_, r_exc (T.oex 7) hsp⟩), FD.bindsN fun _ _ _ _ _ _ us hl => match us, hl with | [_, _], _ => rfl⟩
  · obtain ⟨a, v, rfl, _⟩ := h
    rfl
  · exact pss_cons (ps_expr (px_binit (T.crd 11) (T.cb 12) (T.glo 59) rfl (pa_cons (mv 0) (pa_cons pe_str pa_nil)))) (pss_one (ps_ost (mv 0) (mv 1)))
theorem sc_NoChannel___init__ : FnScope ["self", "found"] ["self", "found"] (defScope s_NoChannel___init__) := ⟨rfl, rfl, rfl, by decide +kernel, rfl, by decide +kernel, by decide +kernel⟩
theorem E_NoChannel (T : Tp K mg) : FnE P w K mg base 1 (ma K (ga K "NoChannel") "__init__") (spExc K "NoChannel" "found") := by
  obtain ⟨fd, FD⟩ := T.c.def_ 3 (d := d_NoChannel___init__)
  refine ⟨fd, ["self", "found"], FD.ok sc_NoChannel___init__ (fun vs H Q E h => ?_) (fun cdv A outer s H vs Q E hr hsp => ⟨tExc K "found" "what is no channel", ?_, r_exc (T.oex 8) hsp⟩), FD.bindsN fun _ _ _ _ _ _ us hl => match us, hl with | [_, _], _ => rfl⟩
  · obtain ⟨a, v, rfl, _⟩ := h
    rfl
  · exact pss_cons (ps_expr (px_binit (T.crd 11) (T.cb 12) (T.glo 59) rfl (pa_cons (mv 0) (pa_cons pe_str pa_nil)))) (pss_one (ps_ost (mv 0) (mv 1)))
theorem sc_NoVessel___init__ : FnScope ["self", "found"] ["self", "found"] (defScope s_NoVessel___init__) := ⟨rfl, rfl, rfl, by decide +kernel, rfl, by decide +kernel, by decide +kernel⟩
theorem E_NoVessel (T : Tp K mg) : FnE P w K mg base 1 (ma K (ga K "NoVessel") "__init__") (spExc K "NoVessel" "found") := by
  obtain ⟨fd, FD⟩ := T.c.def_ 4 (d := d_NoVessel___init__)
  refine ⟨fd, ["self", "found"], FD.ok sc_NoVessel___init__ (fun vs H Q E h => ?_) (fun cdv A outer s H vs Q E hr hsp => ⟨tExc K "found" "what is no vessel", ?_, r_exc (T.oex 9) hsp⟩), FD.bindsN fun _ _ _ _ _ _ us hl => match us, hl with | [_, _], _ => rfl⟩
  · obtain ⟨a, v, rfl, _⟩ := h
    rfl
  · exact pss_cons (ps_expr (px_binit (T.crd 11) (T.cb 12) (T.glo 59) rfl (pa_cons (mv 0) (pa_cons pe_str pa_nil)))) (pss_one (ps_ost (mv 0) (mv 1)))
theorem sc_NoKind___init__ : FnScope ["self", "found"] ["self", "found"] (defScope s_NoKind___init__) := ⟨rfl, rfl, rfl, by decide +kernel, rfl, by decide +kernel, by decide +kernel⟩
theorem E_NoKind (T : Tp K mg) : FnE P w K mg base 1 (ma K (ga K "NoKind") "__init__") (spExc K "NoKind" "found") := by
  obtain ⟨fd, FD⟩ := T.c.def_ 5 (d := d_NoKind___init__)
  refine ⟨fd, ["self", "found"], FD.ok sc_NoKind___init__ (fun vs H Q E h => ?_) (fun cdv A outer s H vs Q E hr hsp => ⟨tExc K "found" "what is of another kind", ?_, r_exc (T.oex 10) hsp⟩), FD.bindsN fun _ _ _ _ _ _ us hl => match us, hl with | [_, _], _ => rfl⟩
  · obtain ⟨a, v, rfl, _⟩ := h
    rfl
  · exact pss_cons (ps_expr (px_binit (T.crd 11) (T.cb 12) (T.glo 59) rfl (pa_cons (mv 0) (pa_cons pe_str pa_nil)))) (pss_one (ps_ost (mv 0) (mv 1)))
theorem sc_NoWorld___init__ : FnScope ["self", "found"] ["self", "found"] (defScope s_NoWorld___init__) := ⟨rfl, rfl, rfl, by decide +kernel, rfl, by decide +kernel, by decide +kernel⟩
theorem E_NoWorld (T : Tp K mg) : FnE P w K mg base 1 (ma K (ga K "NoWorld") "__init__") (spExc K "NoWorld" "found") := by
  obtain ⟨fd, FD⟩ := T.c.def_ 6 (d := d_NoWorld___init__)
  refine ⟨fd, ["self", "found"], FD.ok sc_NoWorld___init__ (fun vs H Q E h => ?_) (fun cdv A outer s H vs Q E hr hsp => ⟨tExc K "found" "what makes no world", ?_, r_exc (T.oex 6) hsp⟩), FD.bindsN fun _ _ _ _ _ _ us hl => match us, hl with | [_, _], _ => rfl⟩
  · obtain ⟨a, v, rfl, _⟩ := h
    rfl
  · exact pss_cons (ps_expr (px_binit (T.crd 11) (T.cb 12) (T.glo 59) rfl (pa_cons (mv 0) (pa_cons pe_str pa_nil)))) (pss_one (ps_ost (mv 0) (mv 1)))
theorem sc_Doubled___init__ : FnScope ["self", "name"] ["self", "name"] (defScope s_Doubled___init__) := ⟨rfl, rfl, rfl, by decide +kernel, rfl, by decide +kernel, by decide +kernel⟩
theorem E_Doubled (T : Tp K mg) : FnE P w K mg base 1 (ma K (ga K "Doubled") "__init__") (spExc K "Doubled" "name") := by
  obtain ⟨fd, FD⟩ := T.c.def_ 7 (d := d_Doubled___init__)
  refine ⟨fd, ["self", "name"], FD.ok sc_Doubled___init__ (fun vs H Q E h => ?_) (fun cdv A outer s H vs Q E hr hsp => ⟨tExc K "name" "a name that stands ahead", ?_, r_exc (T.oex 2) hsp⟩), FD.bindsN fun _ _ _ _ _ _ us hl => match us, hl with | [_, _], _ => rfl⟩
  · obtain ⟨a, v, rfl, _⟩ := h
    rfl
  · exact pss_cons (ps_expr (px_binit (T.crd 11) (T.cb 12) (T.glo 59) rfl (pa_cons (mv 0) (pa_cons pe_str pa_nil)))) (pss_one (ps_ost (mv 0) (mv 1)))
theorem sc_is_whole : FnScope n_is_whole ["thing"] (defScope s_is_whole) := ⟨rfl, rfl, rfl, by decide +kernel, rfl, by decide +kernel, by decide +kernel⟩
theorem w_is_whole  (T : Tp K mg)  {sp : Sp} (len : ∀ vs H Q E, sp vs H Q E → vs.length = 1)
    (rd : ∀ vs H Q E, sp vs H Q E → t_is_whole K  E { nx := fun _ H' => Q .non H', rt := Q } (start n_is_whole vs) H) : FnX P w K mg base 1 (fAd K ("is_whole", none)) sp := by
  obtain ⟨fd, FD⟩ := T.c.def_ 8 (d := d_is_whole)
  refine fnx (k := 0) FD sc_is_whole (fun _ _ _ _ _ _ us hl => match us, hl with | [_], _ => rfl) len fun cdv A outer s H vs Q E hr hsp => ⟨t_is_whole K  E, ?_, rd vs H Q E hsp⟩
  have hu := hr.r.units
  exact (pss_one (ps_ret (pe_and (px_isT (Tn := "int") isb_int (by decide +kernel) rfl (T.free 0) rfl (T.free 2) (mv 0)) (pe_one (pe_not (px_isT (Tn := "bool") isb_bool (by decide +kernel) rfl (T.free 0) rfl (T.free 1) (mv 0)))))))
theorem sc_is_within : FnScope n_is_within ["thing", "low", "high"] (defScope s_is_within) := ⟨rfl, rfl, rfl, by decide +kernel, rfl, by decide +kernel, by decide +kernel⟩
theorem w_is_within {s_is_whole : Sp} (T : Tp K mg) (F_is_whole : FnX P w K mg base 1 (fAd K ("is_whole", none)) s_is_whole) {sp : Sp} (len : ∀ vs H Q E, sp vs H Q E → vs.length = 3)
    (rd : ∀ vs H Q E, sp vs H Q E → t_is_within K s_is_whole E { nx := fun _ H' => Q .non H', rt := Q } (start n_is_within vs) H) : FnX P w K mg base 2 (fAd K ("is_within", none)) sp := by
  obtain ⟨fd, FD⟩ := T.c.def_ 9 (d := d_is_within)
  refine fnx (k := 1) FD sc_is_within (fun _ _ _ _ _ _ us hl => match us, hl with | [_, _, _], _ => rfl) len fun cdv A outer s H vs Q E hr hsp => ⟨t_is_within K s_is_whole E, ?_, rd vs H Q E hsp⟩
  have hu := hr.r.units
  exact (pss_one (ps_ret (pe_and (px_call F_is_whole (T.glo 3) hr (by decide) take_def rfl (pa_cons (mv 0) pa_nil)) (pe_one (pe_chain om_le om_le (mv 1) (mv 0) (mv 2))))))
theorem sc_is_name : FnScope n_is_name ["thing"] (defScope s_is_name) := ⟨rfl, rfl, rfl, by decide +kernel, rfl, by decide +kernel, by decide +kernel⟩
theorem w_is_name  (T : Tp K mg)  {sp : Sp} (len : ∀ vs H Q E, sp vs H Q E → vs.length = 1)
    (rd : ∀ vs H Q E, sp vs H Q E → t_is_name K  E { nx := fun _ H' => Q .non H', rt := Q } (start n_is_name vs) H) : FnX P w K mg base 1 (fAd K ("is_name", none)) sp := by
  obtain ⟨fd, FD⟩ := T.c.def_ 10 (d := d_is_name)
  refine fnx (k := 0) FD sc_is_name (fun _ _ _ _ _ _ us hl => match us, hl with | [_], _ => rfl) len fun cdv A outer s H vs Q E hr hsp => ⟨t_is_name K  E, ?_, rd vs H Q E hsp⟩
  have hu := hr.r.units
  exact (pss_cons (ps_if (PW.pt (pw_or (pt_not (pt_val (px_isT (Tn := "str") isb_str (by decide +kernel) rfl (T.free 0) rfl (T.free 6) (mv 0)))) (pw_or1 (pt_not (pt_chain om_le om_le pe_int (pe_callB cm_len rfl (T.free 4) b_len (pa_cons (mv 0) pa_nil)) (px_gi rfl (T.int 5))))))) (pss_one (ps_ret pe_bl)) pss_nil)
  (pss_one (ps_ret (pe_callB (cm_all rfl) rfl (T.free 8) b_all (pa_cons (pe_lc (own := [("sign", 1)]) rfl sc_is_name.nd (pi_seq (mv 0)) (blk_ok (by kernel_rfl)) (fun _ _ _ _ _ => (pg_name sc_is_name.nd rfl (.inl rfl))) (fun _ _ _ _ _ => pts_nil) (fun _ _ _ _ _ => (pe_cmpR (om_in hu) (mv 1) (px_gs rfl (T.str 7)) (by with_unfolding_all rfl)))) pa_nil)))))
theorem sc_need_names : FnScope n_need_names ["things"] (defScope s_need_names) := ⟨rfl, rfl, rfl, by decide +kernel, rfl, by decide +kernel, by decide +kernel⟩
theorem w_need_names {s_is_name : Sp} (T : Tp K mg) (F_is_name : FnX P w K mg base 1 (fAd K ("is_name", none)) s_is_name) (E_NoName : FnE P w K mg base 1 (ma K (ga K "NoName") "__init__") (spExc K "NoName" "found")) {sp : Sp} (len : ∀ vs H Q E, sp vs H Q E → vs.length = 1)
    (rd : ∀ vs H Q E, sp vs H Q E → t_need_names K s_is_name E { nx := fun _ H' => Q .non H', rt := Q } (start n_need_names vs) H) : FnX P w K mg base 3 (fAd K ("need_names", none)) sp := by
  obtain ⟨fd, FD⟩ := T.c.def_ 11 (d := d_need_names)
  refine fnx (k := 2) FD sc_need_names (fun _ _ _ _ _ _ us hl => match us, hl with | [_], _ => rfl) len fun cdv A outer s H vs Q E hr hsp => ⟨t_need_names K s_is_name E, ?_, rd vs H Q E hsp⟩
  have hu := hr.r.units
  exact (pss_one (ps_for pass_def rfl (pi_seq (mv 0)) (pg_name sc_need_names.nd rfl (.inl rfl)) (pss_one (ps_if (pt_not (pt_val (px_call F_is_name (T.glo 9) hr (by decide) take_def rfl (pa_cons (mv 1) pa_nil)))) (pss_one (px_raise (T.oex 0) E_NoName (T.glo 10) rfl hr (by decide) take_def rfl (mv 1))) pss_nil))))
theorem sc_need_numbers : FnScope n_need_numbers ["rows"] (defScope s_need_numbers) := ⟨rfl, rfl, rfl, by decide +kernel, rfl, by decide +kernel, by decide +kernel⟩
theorem w_need_numbers {s_is_within : Sp} (T : Tp K mg) (F_is_within : FnX P w K mg base 2 (fAd K ("is_within", none)) s_is_within) (E_NoNumber : FnE P w K mg base 1 (ma K (ga K "NoNumber") "__init__") (spExc K "NoNumber" "found")) {sp : Sp} (len : ∀ vs H Q E, sp vs H Q E → vs.length = 1)
    (rd : ∀ vs H Q E, sp vs H Q E → t_need_numbers K s_is_within E { nx := fun _ H' => Q .non H', rt := Q } (start n_need_numbers vs) H) : FnX P w K mg base 3 (fAd K ("need_numbers", none)) sp := by
  obtain ⟨fd, FD⟩ := T.c.def_ 12 (d := d_need_numbers)
  refine fnx (k := 2) FD sc_need_numbers (fun _ _ _ _ _ _ us hl => match us, hl with | [_], _ => rfl) len fun cdv A outer s H vs Q E hr hsp => ⟨t_need_numbers K s_is_within E, ?_, rd vs H Q E hsp⟩
  have hu := hr.r.units
  exact (pss_one (ps_for pass_def rfl (pi_seq (mv 0)) (pg_tup rfl (pgs_cons (pg_name sc_need_numbers.nd rfl (.inl rfl)) (pgs_cons (pg_name sc_need_numbers.nd rfl (.inl rfl)) (pgs_cons (pg_name sc_need_numbers.nd rfl (.inl rfl)) pgs_nil)))) (pss_one (ps_if (pt_not (pt_val (px_call F_is_within (T.glo 11) hr (by decide) take_def rfl (pa_cons (mv 1) (pa_cons (mv 2) (pa_cons (mv 3) pa_nil)))))) (pss_one (px_raise (T.oex 1) E_NoNumber (T.glo 12) rfl hr (by decide) take_def rfl (mv 1))) pss_nil))))
theorem sc_Channel___init__ : FnScope n_Channel___init__ ["self", "name", "one", "other", "hours", "depth", "first", "growth", "most"] (defScope s_Channel___init__) := ⟨rfl, rfl, rfl, by decide +kernel, rfl, by decide +kernel, by decide +kernel⟩
theorem w_Channel___init__ {s_need_names : Sp} {s_need_numbers : Sp} (T : Tp K mg) (F_need_names : FnX P w K mg base 3 (fAd K ("need_names", none)) s_need_names) (E_Doubled : FnE P w K mg base 1 (ma K (ga K "Doubled") "__init__") (spExc K "Doubled" "name")) (F_need_numbers : FnX P w K mg base 3 (fAd K ("need_numbers", none)) s_need_numbers) {sp : Sp} (len : ∀ vs H Q E, sp vs H Q E → vs.length = 9)
    (rd : ∀ vs H Q E, sp vs H Q E → t_Channel___init__ K s_need_names s_need_numbers E { nx := fun _ H' => Q .non H', rt := Q } (start n_Channel___init__ vs) H) : FnX P w K mg base 4 (fAd K ("Channel", some "__init__")) sp := by
  obtain ⟨fd, FD⟩ := T.c.def_ 13 (d := d_Channel___init__)
  refine fnx (k := 3) FD sc_Channel___init__ (fun _ _ _ _ _ _ us hl => match us, hl with | [_, _, _, _, _, _, _, _, _], _ => rfl) len fun cdv A outer s H vs Q E hr hsp => ⟨t_Channel___init__ K s_need_names s_need_numbers E, ?_, rd vs H Q E hsp⟩
  have hu := hr.r.units
  exact (pss_cons (ps_expr (px_call F_need_names (T.glo 13) hr (by decide) take_def rfl (pa_cons (pe_lst (pa_cons (mv 1) (pa_cons (mv 2) (pa_cons (mv 3) pa_nil)))) pa_nil)))
  (pss_cons (ps_if (pt_cmpR (om_eq hu) (mv 2) (mv 3) (nomark _)) (pss_one (px_raise (T.oex 2) E_Doubled (T.glo 14) rfl hr (by decide) take_def rfl (mv 2))) pss_nil)
  (pss_cons (ps_expr (px_call F_need_numbers (T.glo 15) hr (by decide) take_def rfl (pa_cons (pe_lst (pa_cons (pe_tup (pa_cons (mv 4) (pa_cons pe_int (pa_cons (px_gi rfl (T.int 18)) pa_nil)))) (pa_cons (pe_tup (pa_cons (mv 5) (pa_cons pe_int (pa_cons (px_gi rfl (T.int 17)) pa_nil)))) (pa_cons (pe_tup (pa_cons (mv 6) (pa_cons pe_int (pa_cons (px_gi rfl (T.int 16)) pa_nil)))) pa_nil)))) pa_nil)))
  (pss_cons (ps_expr (px_call F_need_numbers (T.glo 15) hr (by decide) take_def rfl (pa_cons (pe_lst (pa_cons (pe_tup (pa_cons (mv 7) (pa_cons pe_int (pa_cons (px_gi rfl (T.int 19)) pa_nil)))) (pa_cons (pe_tup (pa_cons (mv 8) (pa_cons (mv 6) (pa_cons (px_gi rfl (T.int 16)) pa_nil)))) pa_nil))) pa_nil)))
  (pss_cons (px_setF (mv 0) (mv 1))
  (pss_cons (px_setF (mv 0) (mv 2))
  (pss_cons (px_setF (mv 0) (mv 3))
  (pss_cons (px_setF (mv 0) (mv 4))
  (pss_cons (px_setF (mv 0) (mv 5))
  (pss_cons (px_setF (mv 0) (mv 6))
  (pss_cons (px_setF (mv 0) (mv 7))
  (pss_one (px_setF (mv 0) (mv 8))))))))))))))
theorem sc_Channel_ends : FnScope n_Channel_ends ["self"] (defScope s_Channel_ends) := ⟨rfl, rfl, rfl, by decide +kernel, rfl, by decide +kernel, by decide +kernel⟩
theorem w_Channel_ends  (T : Tp K mg)  {sp : Sp} (len : ∀ vs H Q E, sp vs H Q E → vs.length = 1)
    (rd : ∀ vs H Q E, sp vs H Q E → t_Channel_ends K  E { nx := fun _ H' => Q .non H', rt := Q } (start n_Channel_ends vs) H) : FnX P w K mg base 1 (fAd K ("Channel", some "ends")) sp := by
  obtain ⟨fd, FD⟩ := T.c.def_ 14 (d := d_Channel_ends)
  refine fnx (k := 0) FD sc_Channel_ends (fun _ _ _ _ _ _ us hl => match us, hl with | [_], _ => rfl) len fun cdv A outer s H vs Q E hr hsp => ⟨t_Channel_ends K  E, ?_, rd vs H Q E hsp⟩
  have hu := hr.r.units
  exact (pss_one (ps_ret (pe_tup (pa_cons (px_fld (mv 0)) (pa_cons (px_fld (mv 0)) pa_nil)))))
theorem sc_Channel_row : FnScope n_Channel_row ["self"] (defScope s_Channel_row) := ⟨rfl, rfl, rfl, by decide +kernel, rfl, by decide +kernel, by decide +kernel⟩
theorem w_Channel_row  (T : Tp K mg)  {sp : Sp} (len : ∀ vs H Q E, sp vs H Q E → vs.length = 1)
    (rd : ∀ vs H Q E, sp vs H Q E → t_Channel_row K  E { nx := fun _ H' => Q .non H', rt := Q } (start n_Channel_row vs) H) : FnX P w K mg base 1 (fAd K ("Channel", some "row")) sp := by
  obtain ⟨fd, FD⟩ := T.c.def_ 15 (d := d_Channel_row)
  refine fnx (k := 0) FD sc_Channel_row (fun _ _ _ _ _ _ us hl => match us, hl with | [_], _ => rfl) len fun cdv A outer s H vs Q E hr hsp => ⟨t_Channel_row K  E, ?_, rd vs H Q E hsp⟩
  have hu := hr.r.units
  exact (pss_one (ps_ret (pe_tup (pa_cons (px_fld (mv 0)) (pa_cons (px_fld (mv 0)) (pa_cons (px_fld (mv 0)) (pa_cons (px_fld (mv 0)) (pa_cons (px_fld (mv 0)) (pa_cons (px_fld (mv 0)) (pa_cons (px_fld (mv 0)) (pa_cons (px_fld (mv 0)) pa_nil)))))))))))
theorem sc_Vessel___init__ : FnScope n_Vessel___init__ ["self", "name", "port", "hour", "strength", "draught"] (defScope s_Vessel___init__) := ⟨rfl, rfl, rfl, by decide +kernel, rfl, by decide +kernel, by decide +kernel⟩
theorem w_Vessel___init__ {s_need_names : Sp} {s_need_numbers : Sp} {ok_settle : Addr → Sp → Prop} (T : Tp K mg) (F_need_names : FnX P w K mg base 3 (fAd K ("need_names", none)) s_need_names) (F_need_numbers : FnX P w K mg base 3 (fAd K ("need_numbers", none)) s_need_numbers) (F_settle : ∀ C sp, ok_settle C sp → MetX P w K mg base 1 "settle" C sp) {sp : Sp} (len : ∀ vs H Q E, sp vs H Q E → vs.length = 6)
    (rd : ∀ vs H Q E, sp vs H Q E → t_Vessel___init__ K s_need_names s_need_numbers ok_settle E { nx := fun _ H' => Q .non H', rt := Q } (start n_Vessel___init__ vs) H) : FnX P w K mg base 4 (fAd K ("Vessel", some "__init__")) sp := by
  obtain ⟨fd, FD⟩ := T.c.def_ 16 (d := d_Vessel___init__)
  refine fnx (k := 3) FD sc_Vessel___init__ (fun _ _ _ _ _ _ us hl => match us, hl with | [_, _, _, _, _, _], _ => rfl) len fun cdv A outer s H vs Q E hr hsp => ⟨t_Vessel___init__ K s_need_names s_need_numbers ok_settle E, ?_, rd vs H Q E hsp⟩
  have hu := hr.r.units
  exact (pss_cons (ps_expr (px_call F_need_names (T.glo 13) hr (by decide) take_def rfl (pa_cons (pe_lst (pa_cons (mv 1) (pa_cons (mv 2) pa_nil))) pa_nil)))
  (pss_cons (ps_expr (px_call F_need_numbers (T.glo 15) hr (by decide) take_def rfl (pa_cons (pe_lst (pa_cons (pe_tup (pa_cons (mv 3) (pa_cons pe_int (pa_cons (px_gi rfl (T.int 20)) pa_nil)))) (pa_cons (pe_tup (pa_cons (mv 4) (pa_cons pe_int (pa_cons (px_gi rfl (T.int 16)) pa_nil)))) (pa_cons (pe_tup (pa_cons (mv 5) (pa_cons pe_int (pa_cons (px_gi rfl (T.int 17)) pa_nil)))) pa_nil)))) pa_nil)))
  (pss_one (ps_expr (px_meth (mv 0) F_settle hr (by decide) take_def (pa_cons (mv 1) (pa_cons (mv 2) (pa_cons (mv 3) (pa_cons (mv 4) (pa_cons (mv 5) pa_nil))))))))))
theorem sc_Vessel_settle : FnScope n_Vessel_settle ["self", "name", "port", "hour", "strength", "draught"] (defScope s_Vessel_settle) := ⟨rfl, rfl, rfl, by decide +kernel, rfl, by decide +kernel, by decide +kernel⟩
theorem w_Vessel_settle  (T : Tp K mg)  {sp : Sp} (len : ∀ vs H Q E, sp vs H Q E → vs.length = 6)
    (rd : ∀ vs H Q E, sp vs H Q E → t_Vessel_settle K  E { nx := fun _ H' => Q .non H', rt := Q } (start n_Vessel_settle vs) H) : FnX P w K mg base 1 (fAd K ("Vessel", some "settle")) sp := by
  obtain ⟨fd, FD⟩ := T.c.def_ 17 (d := d_Vessel_settle)
  refine fnx (k := 0) FD sc_Vessel_settle (fun _ _ _ _ _ _ us hl => match us, hl with | [_, _, _, _, _, _], _ => rfl) len fun cdv A outer s H vs Q E hr hsp => ⟨t_Vessel_settle K  E, ?_, rd vs H Q E hsp⟩
  have hu := hr.r.units
  exact (pss_cons (px_setF (mv 0) (mv 1))
  (pss_cons (px_setF (mv 0) (mv 2))
  (pss_cons (px_setF (mv 0) (mv 3))
  (pss_cons (px_setF (mv 0) (mv 4))
  (pss_one (px_setF (mv 0) (mv 5)))))))
theorem sc_Vessel_kind : FnScope n_Vessel_kind ["self"] (defScope s_Vessel_kind) := ⟨rfl, rfl, rfl, by decide +kernel, rfl, by decide +kernel, by decide +kernel⟩
theorem w_Vessel_kind  (T : Tp K mg)  {sp : Sp} (len : ∀ vs H Q E, sp vs H Q E → vs.length = 1)
    (rd : ∀ vs H Q E, sp vs H Q E → t_Vessel_kind K  E { nx := fun _ H' => Q .non H', rt := Q } (start n_Vessel_kind vs) H) : FnX P w K mg base 1 (fAd K ("Vessel", some "kind")) sp := by
  obtain ⟨fd, FD⟩ := T.c.def_ 18 (d := d_Vessel_kind)
  refine fnx (k := 0) FD sc_Vessel_kind (fun _ _ _ _ _ _ us hl => match us, hl with | [_], _ => rfl) len fun cdv A outer s H vs Q E hr hsp => ⟨t_Vessel_kind K  E, ?_, rd vs H Q E hsp⟩
  have hu := hr.r.units
  exact (pss_one (ps_ret pe_str))
theorem sc_Vessel_thins : FnScope n_Vessel_thins ["self"] (defScope s_Vessel_thins) := ⟨rfl, rfl, rfl, by decide +kernel, rfl, by decide +kernel, by decide +kernel⟩
theorem w_Vessel_thins  (T : Tp K mg)  {sp : Sp} (len : ∀ vs H Q E, sp vs H Q E → vs.length = 1)
    (rd : ∀ vs H Q E, sp vs H Q E → t_Vessel_thins K  E { nx := fun _ H' => Q .non H', rt := Q } (start n_Vessel_thins vs) H) : FnX P w K mg base 1 (fAd K ("Vessel", some "thins")) sp := by
  obtain ⟨fd, FD⟩ := T.c.def_ 19 (d := d_Vessel_thins)
  refine fnx (k := 0) FD sc_Vessel_thins (fun _ _ _ _ _ _ us hl => match us, hl with | [_], _ => rfl) len fun cdv A outer s H vs Q E hr hsp => ⟨t_Vessel_thins K  E, ?_, rd vs H Q E hsp⟩
  have hu := hr.r.units
  exact (pss_one (ps_ret pe_int))
theorem sc_Vessel_row : FnScope n_Vessel_row ["self"] (defScope s_Vessel_row) := ⟨rfl, rfl, rfl, by decide +kernel, rfl, by decide +kernel, by decide +kernel⟩
theorem w_Vessel_row  (T : Tp K mg)  {sp : Sp} (len : ∀ vs H Q E, sp vs H Q E → vs.length = 1)
    (rd : ∀ vs H Q E, sp vs H Q E → t_Vessel_row K  E { nx := fun _ H' => Q .non H', rt := Q } (start n_Vessel_row vs) H) : FnX P w K mg base 1 (fAd K ("Vessel", some "row")) sp := by
  obtain ⟨fd, FD⟩ := T.c.def_ 20 (d := d_Vessel_row)
  refine fnx (k := 0) FD sc_Vessel_row (fun _ _ _ _ _ _ us hl => match us, hl with | [_], _ => rfl) len fun cdv A outer s H vs Q E hr hsp => ⟨t_Vessel_row K  E, ?_, rd vs H Q E hsp⟩
  have hu := hr.r.units
  exact (pss_one (ps_ret (pe_tup (pa_cons (px_fld (mv 0)) (pa_cons (px_fld (mv 0)) (pa_cons (px_fld (mv 0)) (pa_cons (px_fld (mv 0)) (pa_cons (px_fld (mv 0)) pa_nil))))))))
theorem sc_Breaker___init__ : FnScope n_Breaker___init__ ["self", "name", "port", "hour", "strength", "draught", "cut"] (defScope s_Breaker___init__) := ⟨rfl, rfl, rfl, by decide +kernel, rfl, by decide +kernel, by decide +kernel⟩
theorem w_Breaker___init__ {s_Vessel___init__ : Sp} {s_need_numbers : Sp} (T : Tp K mg) (F_Vessel___init__ : FnX P w K mg base 4 (fAd K ("Vessel", some "__init__")) s_Vessel___init__) (F_need_numbers : FnX P w K mg base 3 (fAd K ("need_numbers", none)) s_need_numbers) {sp : Sp} (len : ∀ vs H Q E, sp vs H Q E → vs.length = 7)
    (rd : ∀ vs H Q E, sp vs H Q E → t_Breaker___init__ K s_Vessel___init__ s_need_numbers E { nx := fun _ H' => Q .non H', rt := Q } (start n_Breaker___init__ vs) H) : FnX P w K mg base 5 (fAd K ("Breaker", some "__init__")) sp := by
  obtain ⟨fd, FD⟩ := T.c.def_ 21 (d := d_Breaker___init__)
  refine fnx (k := 4) FD sc_Breaker___init__ (fun _ _ _ _ _ _ us hl => match us, hl with | [_, _, _, _, _, _, _], _ => rfl) len fun cdv A outer s H vs Q E hr hsp => ⟨t_Breaker___init__ K s_Vessel___init__ s_need_numbers E, ?_, rd vs H Q E hsp⟩
  have hu := hr.r.units
  exact (pss_cons (ps_expr (px_cm F_Vessel___init__ (T.crd 3) (T.cm 4) (T.glo 21) hr (by decide) take_def rfl (pa_cons (mv 0) (pa_cons (mv 1) (pa_cons (mv 2) (pa_cons (mv 3) (pa_cons (mv 4) (pa_cons (mv 5) pa_nil))))))))
  (pss_cons (ps_expr (px_call F_need_numbers (T.glo 15) hr (by decide) take_def rfl (pa_cons (pe_lst (pa_cons (pe_tup (pa_cons (mv 6) (pa_cons pe_int (pa_cons (px_gi rfl (T.int 16)) pa_nil)))) pa_nil)) pa_nil)))
  (pss_one (px_setF (mv 0) (mv 6)))))
theorem sc_Breaker_kind : FnScope n_Breaker_kind ["self"] (defScope s_Breaker_kind) := ⟨rfl, rfl, rfl, by decide +kernel, rfl, by decide +kernel, by decide +kernel⟩
theorem w_Breaker_kind  (T : Tp K mg)  {sp : Sp} (len : ∀ vs H Q E, sp vs H Q E → vs.length = 1)
    (rd : ∀ vs H Q E, sp vs H Q E → t_Breaker_kind K  E { nx := fun _ H' => Q .non H', rt := Q } (start n_Breaker_kind vs) H) : FnX P w K mg base 1 (fAd K ("Breaker", some "kind")) sp := by
  obtain ⟨fd, FD⟩ := T.c.def_ 22 (d := d_Breaker_kind)
  refine fnx (k := 0) FD sc_Breaker_kind (fun _ _ _ _ _ _ us hl => match us, hl with | [_], _ => rfl) len fun cdv A outer s H vs Q E hr hsp => ⟨t_Breaker_kind K  E, ?_, rd vs H Q E hsp⟩
  have hu := hr.r.units
  exact (pss_one (ps_ret pe_str))
end K76
/-! each def does what its reading says: printed by a program of mine -/
namespace K76
open PySem PySem.Spec PyProof.Rows L2 SX
open He (ga ma fAd)
variable {P : Program} {w : World} {K : PySem.W.Frag} {mg : Str → Option Value} {base : Heap}
theorem sc_Breaker_thins : FnScope n_Breaker_thins ["self"] (defScope s_Breaker_thins) := ⟨rfl, rfl, rfl, by decide +kernel, rfl, by decide +kernel, by decide +kernel⟩
theorem w_Breaker_thins  (T : Tp K mg)  {sp : Sp} (len : ∀ vs H Q E, sp vs H Q E → vs.length = 1)
    (rd : ∀ vs H Q E, sp vs H Q E → t_Breaker_thins K  E { nx := fun _ H' => Q .non H', rt := Q } (start n_Breaker_thins vs) H) : FnX P w K mg base 1 (fAd K ("Breaker", some "thins")) sp := by
  obtain ⟨fd, FD⟩ := T.c.def_ 23 (d := d_Breaker_thins)
  refine fnx (k := 0) FD sc_Breaker_thins (fun _ _ _ _ _ _ us hl => match us, hl with | [_], _ => rfl) len fun cdv A outer s H vs Q E hr hsp => ⟨t_Breaker_thins K  E, ?_, rd vs H Q E hsp⟩
  have hu := hr.r.units
  exact (pss_one (ps_ret (px_fld (mv 0))))
theorem sc_Breaker_row : FnScope n_Breaker_row ["self"] (defScope s_Breaker_row) := ⟨rfl, rfl, rfl, by decide +kernel, rfl, by decide +kernel, by decide +kernel⟩
theorem w_Breaker_row {s_Vessel_row : Sp} (T : Tp K mg) (F_Vessel_row : FnX P w K mg base 1 (fAd K ("Vessel", some "row")) s_Vessel_row) {sp : Sp} (len : ∀ vs H Q E, sp vs H Q E → vs.length = 1)
    (rd : ∀ vs H Q E, sp vs H Q E → t_Breaker_row K s_Vessel_row E { nx := fun _ H' => Q .non H', rt := Q } (start n_Breaker_row vs) H) : FnX P w K mg base 2 (fAd K ("Breaker", some "row")) sp := by
  obtain ⟨fd, FD⟩ := T.c.def_ 24 (d := d_Breaker_row)
  refine fnx (k := 1) FD sc_Breaker_row (fun _ _ _ _ _ _ us hl => match us, hl with | [_], _ => rfl) len fun cdv A outer s H vs Q E hr hsp => ⟨t_Breaker_row K s_Vessel_row E, ?_, rd vs H Q E hsp⟩
  have hu := hr.r.units
  exact (pss_one (ps_ret (pe_op om_add (px_cm F_Vessel_row (T.crd 3) (T.cm 5) (T.glo 21) hr (by decide) take_def rfl (pa_cons (mv 0) pa_nil)) (pe_tup (pa_cons (px_fld (mv 0)) pa_nil)))))
theorem sc_Ship___init__ : FnScope n_Ship___init__ ["self", "name", "port", "goal", "hour", "strength", "draught"] (defScope s_Ship___init__) := ⟨rfl, rfl, rfl, by decide +kernel, rfl, by decide +kernel, by decide +kernel⟩
theorem w_Ship___init__ {s_need_names : Sp} {s_Vessel___init__ : Sp} (T : Tp K mg) (F_need_names : FnX P w K mg base 3 (fAd K ("need_names", none)) s_need_names) (F_Vessel___init__ : FnX P w K mg base 4 (fAd K ("Vessel", some "__init__")) s_Vessel___init__) {sp : Sp} (len : ∀ vs H Q E, sp vs H Q E → vs.length = 7)
    (rd : ∀ vs H Q E, sp vs H Q E → t_Ship___init__ K s_need_names s_Vessel___init__ E { nx := fun _ H' => Q .non H', rt := Q } (start n_Ship___init__ vs) H) : FnX P w K mg base 5 (fAd K ("Ship", some "__init__")) sp := by
  obtain ⟨fd, FD⟩ := T.c.def_ 25 (d := d_Ship___init__)
  refine fnx (k := 4) FD sc_Ship___init__ (fun _ _ _ _ _ _ us hl => match us, hl with | [_, _, _, _, _, _, _], _ => rfl) len fun cdv A outer s H vs Q E hr hsp => ⟨t_Ship___init__ K s_need_names s_Vessel___init__ E, ?_, rd vs H Q E hsp⟩
  have hu := hr.r.units
  exact (pss_cons (ps_expr (px_call F_need_names (T.glo 13) hr (by decide) take_def rfl (pa_cons (pe_lst (pa_cons (mv 1) (pa_cons (mv 2) (pa_cons (mv 3) pa_nil)))) pa_nil)))
  (pss_cons (ps_expr (px_cm F_Vessel___init__ (T.crd 3) (T.cm 4) (T.glo 21) hr (by decide) take_def rfl (pa_cons (mv 0) (pa_cons (mv 1) (pa_cons (mv 2) (pa_cons (mv 4) (pa_cons (mv 5) (pa_cons (mv 6) pa_nil))))))))
  (pss_one (px_setF (mv 0) (mv 3)))))
theorem sc_Ship_kind : FnScope n_Ship_kind ["self"] (defScope s_Ship_kind) := ⟨rfl, rfl, rfl, by decide +kernel, rfl, by decide +kernel, by decide +kernel⟩
theorem w_Ship_kind  (T : Tp K mg)  {sp : Sp} (len : ∀ vs H Q E, sp vs H Q E → vs.length = 1)
    (rd : ∀ vs H Q E, sp vs H Q E → t_Ship_kind K  E { nx := fun _ H' => Q .non H', rt := Q } (start n_Ship_kind vs) H) : FnX P w K mg base 1 (fAd K ("Ship", some "kind")) sp := by
  obtain ⟨fd, FD⟩ := T.c.def_ 26 (d := d_Ship_kind)
  refine fnx (k := 0) FD sc_Ship_kind (fun _ _ _ _ _ _ us hl => match us, hl with | [_], _ => rfl) len fun cdv A outer s H vs Q E hr hsp => ⟨t_Ship_kind K  E, ?_, rd vs H Q E hsp⟩
  have hu := hr.r.units
  exact (pss_one (ps_ret pe_str))
theorem sc_Ship_row : FnScope n_Ship_row ["self"] (defScope s_Ship_row) := ⟨rfl, rfl, rfl, by decide +kernel, rfl, by decide +kernel, by decide +kernel⟩
theorem w_Ship_row  (T : Tp K mg)  {sp : Sp} (len : ∀ vs H Q E, sp vs H Q E → vs.length = 1)
    (rd : ∀ vs H Q E, sp vs H Q E → t_Ship_row K  E { nx := fun _ H' => Q .non H', rt := Q } (start n_Ship_row vs) H) : FnX P w K mg base 1 (fAd K ("Ship", some "row")) sp := by
  obtain ⟨fd, FD⟩ := T.c.def_ 27 (d := d_Ship_row)
  refine fnx (k := 0) FD sc_Ship_row (fun _ _ _ _ _ _ us hl => match us, hl with | [_], _ => rfl) len fun cdv A outer s H vs Q E hr hsp => ⟨t_Ship_row K  E, ?_, rd vs H Q E hsp⟩
  have hu := hr.r.units
  exact (pss_one (ps_ret (pe_tup (pa_cons (px_fld (mv 0)) (pa_cons (px_fld (mv 0)) (pa_cons (px_fld (mv 0)) (pa_cons (px_fld (mv 0)) (pa_cons (px_fld (mv 0)) (pa_cons (px_fld (mv 0)) pa_nil)))))))))
theorem sc_is_list : FnScope n_is_list ["thing", "low", "high"] (defScope s_is_list) := ⟨rfl, rfl, rfl, by decide +kernel, rfl, by decide +kernel, by decide +kernel⟩
theorem w_is_list  (T : Tp K mg)  {sp : Sp} (len : ∀ vs H Q E, sp vs H Q E → vs.length = 3)
    (rd : ∀ vs H Q E, sp vs H Q E → t_is_list K  E { nx := fun _ H' => Q .non H', rt := Q } (start n_is_list vs) H) : FnX P w K mg base 1 (fAd K ("is_list", none)) sp := by
  obtain ⟨fd, FD⟩ := T.c.def_ 28 (d := d_is_list)
  refine fnx (k := 0) FD sc_is_list (fun _ _ _ _ _ _ us hl => match us, hl with | [_, _, _], _ => rfl) len fun cdv A outer s H vs Q E hr hsp => ⟨t_is_list K  E, ?_, rd vs H Q E hsp⟩
  have hu := hr.r.units
  exact (pss_one (ps_ret (pe_and (px_isSeq rfl (T.free 0) rfl (T.free 22) rfl (T.free 23) (mv 0)) (pe_one (pe_chain om_le om_le (mv 1) (pe_callB cm_len rfl (T.free 4) b_len (pa_cons (mv 0) pa_nil)) (mv 2))))))
theorem sc_need_kinds : FnScope n_need_kinds ["ports", "channels", "breakers", "ships"] (defScope s_need_kinds) := ⟨rfl, rfl, rfl, by decide +kernel, rfl, by decide +kernel, by decide +kernel⟩
theorem w_need_kinds {s_is_name : Sp} {s_is_list : Sp} (T : Tp K mg) (F_is_name : FnX P w K mg base 1 (fAd K ("is_name", none)) s_is_name) (F_is_list : FnX P w K mg base 1 (fAd K ("is_list", none)) s_is_list) (E_NoWorld : FnE P w K mg base 1 (ma K (ga K "NoWorld") "__init__") (spExc K "NoWorld" "found")) {sp : Sp} (len : ∀ vs H Q E, sp vs H Q E → vs.length = 4)
    (rd : ∀ vs H Q E, sp vs H Q E → t_need_kinds K s_is_name s_is_list E { nx := fun _ H' => Q .non H', rt := Q } (start n_need_kinds vs) H) : FnX P w K mg base 3 (fAd K ("need_kinds", none)) sp := by
  obtain ⟨fd, FD⟩ := T.c.def_ 29 (d := d_need_kinds)
  refine fnx (k := 2) FD sc_need_kinds (fun _ _ _ _ _ _ us hl => match us, hl with | [_, _, _, _], _ => rfl) len fun cdv A outer s H vs Q E hr hsp => ⟨t_need_kinds K s_is_name s_is_list E, ?_, rd vs H Q E hsp⟩
  have hu := hr.r.units
  exact (pss_cons (ps_if (PW.pt (pw_or (pt_not (pt_val (px_call F_is_list (T.glo 24) hr (by decide) take_def rfl (pa_cons (mv 0) (pa_cons pe_int (pa_cons (px_gi rfl (T.int 25)) pa_nil)))))) (pw_or1 (pt_not (pt_val (pe_callB (cm_all rfl) rfl (T.free 8) b_all (pa_cons (pe_lc (own := [("port", 4)]) rfl sc_need_kinds.nd (pi_seq (mv 0)) (blk_ok (by kernel_rfl)) (fun _ _ _ _ _ => (pg_name sc_need_kinds.nd rfl (.inl rfl))) (fun _ _ _ _ _ => pts_nil) (fun _ _ _ _ _ => (px_call F_is_name (T.glo 9) hr (by decide) takes0 rfl (pa_cons (mv 4) pa_nil)))) pa_nil))))))) (pss_one (px_raise (T.oex 6) E_NoWorld (T.glo 26) rfl hr (by decide) take_def rfl pe_str)) pss_nil)
  (pss_cons (ps_if (PW.pt (pw_or (pt_not (pt_val (px_call F_is_list (T.glo 24) hr (by decide) take_def rfl (pa_cons (mv 1) (pa_cons pe_int (pa_cons (px_gi rfl (T.int 28)) pa_nil)))))) (pw_or1 (pt_not (pt_val (pe_callB (cm_all rfl) rfl (T.free 8) b_all (pa_cons (pe_lc (own := [("one", 5)]) rfl sc_need_kinds.nd (pi_seq (mv 1)) (blk_ok (by kernel_rfl)) (fun _ _ _ _ _ => (pg_name sc_need_kinds.nd rfl (.inl rfl))) (fun _ _ _ _ _ => pts_nil) (fun _ _ _ _ _ => (px_isC rfl (T.free 0) rfl (T.glo 27) (mv 5)))) pa_nil))))))) (pss_one (px_raise (T.oex 6) E_NoWorld (T.glo 26) rfl hr (by decide) take_def rfl pe_str)) pss_nil)
  (pss_cons (ps_if (PW.pt (pw_or (pt_not (pt_val (px_call F_is_list (T.glo 24) hr (by decide) take_def rfl (pa_cons (mv 2) (pa_cons pe_int (pa_cons (px_gi rfl (T.int 30)) pa_nil)))))) (pw_or1 (pt_not (pt_val (pe_callB (cm_all rfl) rfl (T.free 8) b_all (pa_cons (pe_lc (own := [("one", 5)]) rfl sc_need_kinds.nd (pi_seq (mv 2)) (blk_ok (by kernel_rfl)) (fun _ _ _ _ _ => (pg_name sc_need_kinds.nd rfl (.inl rfl))) (fun _ _ _ _ _ => pts_nil) (fun _ _ _ _ _ => (px_isC rfl (T.free 0) rfl (T.glo 29) (mv 5)))) pa_nil))))))) (pss_one (px_raise (T.oex 6) E_NoWorld (T.glo 26) rfl hr (by decide) take_def rfl pe_str)) pss_nil)
  (pss_one (ps_if (PW.pt (pw_or (pt_not (pt_val (px_call F_is_list (T.glo 24) hr (by decide) take_def rfl (pa_cons (mv 3) (pa_cons pe_int (pa_cons (px_gi rfl (T.int 32)) pa_nil)))))) (pw_or1 (pt_not (pt_val (pe_callB (cm_all rfl) rfl (T.free 8) b_all (pa_cons (pe_lc (own := [("one", 5)]) rfl sc_need_kinds.nd (pi_seq (mv 3)) (blk_ok (by kernel_rfl)) (fun _ _ _ _ _ => (pg_name sc_need_kinds.nd rfl (.inl rfl))) (fun _ _ _ _ _ => pts_nil) (fun _ _ _ _ _ => (px_isC rfl (T.free 0) rfl (T.glo 31) (mv 5)))) pa_nil))))))) (pss_one (px_raise (T.oex 6) E_NoWorld (T.glo 26) rfl hr (by decide) take_def rfl pe_str)) pss_nil)))))
theorem sc_need_unlike : FnScope n_need_unlike ["names"] (defScope s_need_unlike) := ⟨rfl, rfl, rfl, by decide +kernel, rfl, by decide +kernel, by decide +kernel⟩
theorem w_need_unlike  (T : Tp K mg) (E_Doubled : FnE P w K mg base 1 (ma K (ga K "Doubled") "__init__") (spExc K "Doubled" "name")) {sp : Sp} (len : ∀ vs H Q E, sp vs H Q E → vs.length = 1)
    (rd : ∀ vs H Q E, sp vs H Q E → t_need_unlike K  E { nx := fun _ H' => Q .non H', rt := Q } (start n_need_unlike vs) H) : FnX P w K mg base 3 (fAd K ("need_unlike", none)) sp := by
  obtain ⟨fd, FD⟩ := T.c.def_ 30 (d := d_need_unlike)
  refine fnx (k := 2) FD sc_need_unlike (fun _ _ _ _ _ _ us hl => match us, hl with | [_], _ => rfl) len fun cdv A outer s H vs Q E hr hsp => ⟨t_need_unlike K  E, ?_, rd vs H Q E hsp⟩
  have hu := hr.r.units
  exact (pss_cons (ps_set sc_need_unlike.nd rfl (.inl rfl) pe_dnewK)
  (pss_one (ps_for pass_def rfl (pi_seq (mv 0)) (pg_name sc_need_unlike.nd rfl (.inl rfl)) (pss_cons (ps_if (pt_cmp (pc_din (lt1 hu) (mv 2) (mv 1))) (pss_one (px_raise (T.oex 2) E_Doubled (T.glo 14) rfl hr (by decide) take_def rfl (mv 2))) pss_nil)
  (pss_one (ps_asg pe_bl (pg_sub (mv 1) (mv 2) (sm_set hu))))))))
theorem sc_need_ports : FnScope n_need_ports ["names", "ports"] (defScope s_need_ports) := ⟨rfl, rfl, rfl, by decide +kernel, rfl, by decide +kernel, by decide +kernel⟩
theorem w_need_ports  (T : Tp K mg) (E_NoPort : FnE P w K mg base 1 (ma K (ga K "NoPort") "__init__") (spExc K "NoPort" "found")) {sp : Sp} (len : ∀ vs H Q E, sp vs H Q E → vs.length = 2)
    (rd : ∀ vs H Q E, sp vs H Q E → t_need_ports K  E { nx := fun _ H' => Q .non H', rt := Q } (start n_need_ports vs) H) : FnX P w K mg base 3 (fAd K ("need_ports", none)) sp := by
  obtain ⟨fd, FD⟩ := T.c.def_ 31 (d := d_need_ports)
  refine fnx (k := 2) FD sc_need_ports (fun _ _ _ _ _ _ us hl => match us, hl with | [_, _], _ => rfl) len fun cdv A outer s H vs Q E hr hsp => ⟨t_need_ports K  E, ?_, rd vs H Q E hsp⟩
  have hu := hr.r.units
  exact (pss_one (ps_for pass_def rfl (pi_seq (mv 0)) (pg_name sc_need_ports.nd rfl (.inl rfl)) (pss_one (ps_if (pt_cmpR (om_notIn hu) (mv 2) (mv 1) (by with_unfolding_all rfl)) (pss_one (px_raise (T.oex 7) E_NoPort (T.glo 33) rfl hr (by decide) take_def rfl (mv 2))) pss_nil))))
theorem sc_World___init__ : FnScope n_World___init__ ["self", "begin", "ports", "channels", "breakers", "ships"] (defScope s_World___init__) := ⟨rfl, rfl, rfl, by decide +kernel, rfl, by decide +kernel, by decide +kernel⟩
theorem w_World___init__ {s_is_within : Sp} {s_need_kinds : Sp} {s_need_unlike : Sp} {s_need_ports : Sp} (T : Tp K mg) (F_is_within : FnX P w K mg base 2 (fAd K ("is_within", none)) s_is_within) (E_NoNumber : FnE P w K mg base 1 (ma K (ga K "NoNumber") "__init__") (spExc K "NoNumber" "found")) (F_need_kinds : FnX P w K mg base 3 (fAd K ("need_kinds", none)) s_need_kinds) (F_need_unlike : FnX P w K mg base 3 (fAd K ("need_unlike", none)) s_need_unlike) (F_need_ports : FnX P w K mg base 3 (fAd K ("need_ports", none)) s_need_ports) {sp : Sp} (len : ∀ vs H Q E, sp vs H Q E → vs.length = 6)
    (rd : ∀ vs H Q E, sp vs H Q E → t_World___init__ K s_is_within s_need_kinds s_need_unlike s_need_ports E { nx := fun _ H' => Q .non H', rt := Q } (start n_World___init__ vs) H) : FnX P w K mg base 4 (fAd K ("World", some "__init__")) sp := by
  obtain ⟨fd, FD⟩ := T.c.def_ 32 (d := d_World___init__)
  refine fnx (k := 3) FD sc_World___init__ (fun _ _ _ _ _ _ us hl => match us, hl with | [_, _, _, _, _, _], _ => rfl) len fun cdv A outer s H vs Q E hr hsp => ⟨t_World___init__ K s_is_within s_need_kinds s_need_unlike s_need_ports E, ?_, rd vs H Q E hsp⟩
  have hu := hr.r.units
  exact (pss_cons (ps_if (pt_not (pt_val (px_call F_is_within (T.glo 11) hr (by decide) take_def rfl (pa_cons (mv 1) (pa_cons pe_int (pa_cons (px_gi rfl (T.int 34)) pa_nil)))))) (pss_one (px_raise (T.oex 1) E_NoNumber (T.glo 12) rfl hr (by decide) take_def rfl (mv 1))) pss_nil)
  (pss_cons (ps_expr (px_call F_need_kinds (T.glo 35) hr (by decide) take_def rfl (pa_cons (mv 2) (pa_cons (mv 3) (pa_cons (mv 4) (pa_cons (mv 5) pa_nil))))))
  (pss_cons (ps_expr (px_call F_need_unlike (T.glo 36) hr (by decide) take_def rfl (pa_cons (mv 2) pa_nil)))
  (pss_cons (ps_expr (px_call F_need_unlike (T.glo 36) hr (by decide) take_def rfl (pa_cons (pe_lc (own := [("channel", 6)]) rfl sc_World___init__.nd (pi_seq (mv 3)) (blk_ok (by kernel_rfl)) (fun _ _ _ _ _ => (pg_name sc_World___init__.nd rfl (.inl rfl))) (fun _ _ _ _ _ => pts_nil) (fun _ _ _ _ _ => (px_fld (mv 6)))) pa_nil)))
  (pss_cons (ps_expr (px_call F_need_unlike (T.glo 36) hr (by decide) take_def rfl (pa_cons (pe_lc (own := [("vessel", 8)]) rfl sc_World___init__.nd (pi_seq (pe_op om_add (pe_callTy cm_list rfl (T.free 22) b_list (pa_cons (mv 4) pa_nil)) (pe_callTy cm_list rfl (T.free 22) b_list (pa_cons (mv 5) pa_nil)))) (blk_ok (by kernel_rfl)) (fun _ _ _ _ _ => (pg_name sc_World___init__.nd rfl (.inl rfl))) (fun _ _ _ _ _ => pts_nil) (fun _ _ _ _ _ => (px_fld (mv 8)))) pa_nil)))
  (pss_cons (ps_for pass_def rfl (pi_seq (mv 3)) (pg_name sc_World___init__.nd rfl (.inl rfl)) (pss_one (ps_expr (px_call F_need_ports (T.glo 37) hr (by decide) take_def rfl (pa_cons (pe_lst (pa_cons (px_fld (mv 6)) (pa_cons (px_fld (mv 6)) pa_nil))) (pa_cons (mv 2) pa_nil))))))
  (pss_cons (ps_expr (px_call F_need_ports (T.glo 37) hr (by decide) take_def rfl (pa_cons (pe_lc (own := [("breaker", 9)]) rfl sc_World___init__.nd (pi_seq (mv 4)) (blk_ok (by kernel_rfl)) (fun _ _ _ _ _ => (pg_name sc_World___init__.nd rfl (.inl rfl))) (fun _ _ _ _ _ => pts_nil) (fun _ _ _ _ _ => (px_fld (mv 9)))) (pa_cons (mv 2) pa_nil))))
  (pss_cons (ps_for pass_def rfl (pi_seq (mv 5)) (pg_name sc_World___init__.nd rfl (.inl rfl)) (pss_one (ps_expr (px_call F_need_ports (T.glo 37) hr (by decide) take_def rfl (pa_cons (pe_lst (pa_cons (px_fld (mv 7)) (pa_cons (px_fld (mv 7)) pa_nil))) (pa_cons (mv 2) pa_nil))))))
  (pss_cons (px_setF (mv 0) (mv 1))
  (pss_cons (px_setF (mv 0) (pe_callTy cm_list rfl (T.free 22) b_list (pa_cons (mv 2) pa_nil)))
  (pss_cons (px_setF (mv 0) (pe_callTy cm_list rfl (T.free 22) b_list (pa_cons (mv 3) pa_nil)))
  (pss_cons (px_setF (mv 0) (pe_callTy cm_list rfl (T.free 22) b_list (pa_cons (mv 4) pa_nil)))
  (pss_one (px_setF (mv 0) (pe_callTy cm_list rfl (T.free 22) b_list (pa_cons (mv 5) pa_nil))))))))))))))))
theorem sc_World_begin_hour : FnScope n_World_begin_hour ["self"] (defScope s_World_begin_hour) := ⟨rfl, rfl, rfl, by decide +kernel, rfl, by decide +kernel, by decide +kernel⟩
theorem w_World_begin_hour  (T : Tp K mg)  {sp : Sp} (len : ∀ vs H Q E, sp vs H Q E → vs.length = 1)
    (rd : ∀ vs H Q E, sp vs H Q E → t_World_begin_hour K  E { nx := fun _ H' => Q .non H', rt := Q } (start n_World_begin_hour vs) H) : FnX P w K mg base 1 (fAd K ("World", some "begin_hour")) sp := by
  obtain ⟨fd, FD⟩ := T.c.def_ 33 (d := d_World_begin_hour)
  refine fnx (k := 0) FD sc_World_begin_hour (fun _ _ _ _ _ _ us hl => match us, hl with | [_], _ => rfl) len fun cdv A outer s H vs Q E hr hsp => ⟨t_World_begin_hour K  E, ?_, rd vs H Q E hsp⟩
  have hu := hr.r.units
  exact (pss_one (ps_ret (px_fld (mv 0))))
theorem sc_World_ports : FnScope n_World_ports ["self"] (defScope s_World_ports) := ⟨rfl, rfl, rfl, by decide +kernel, rfl, by decide +kernel, by decide +kernel⟩
theorem w_World_ports  (T : Tp K mg)  {sp : Sp} (len : ∀ vs H Q E, sp vs H Q E → vs.length = 1)
    (rd : ∀ vs H Q E, sp vs H Q E → t_World_ports K  E { nx := fun _ H' => Q .non H', rt := Q } (start n_World_ports vs) H) : FnX P w K mg base 1 (fAd K ("World", some "ports")) sp := by
  obtain ⟨fd, FD⟩ := T.c.def_ 34 (d := d_World_ports)
  refine fnx (k := 0) FD sc_World_ports (fun _ _ _ _ _ _ us hl => match us, hl with | [_], _ => rfl) len fun cdv A outer s H vs Q E hr hsp => ⟨t_World_ports K  E, ?_, rd vs H Q E hsp⟩
  have hu := hr.r.units
  exact (pss_one (ps_ret (pe_callTy cm_list rfl (T.free 22) b_list (pa_cons (px_fld (mv 0)) pa_nil))))
theorem sc_World_channels : FnScope n_World_channels ["self"] (defScope s_World_channels) := ⟨rfl, rfl, rfl, by decide +kernel, rfl, by decide +kernel, by decide +kernel⟩
theorem w_World_channels  (T : Tp K mg)  {sp : Sp} (len : ∀ vs H Q E, sp vs H Q E → vs.length = 1)
    (rd : ∀ vs H Q E, sp vs H Q E → t_World_channels K  E { nx := fun _ H' => Q .non H', rt := Q } (start n_World_channels vs) H) : FnX P w K mg base 1 (fAd K ("World", some "channels")) sp := by
  obtain ⟨fd, FD⟩ := T.c.def_ 35 (d := d_World_channels)
  refine fnx (k := 0) FD sc_World_channels (fun _ _ _ _ _ _ us hl => match us, hl with | [_], _ => rfl) len fun cdv A outer s H vs Q E hr hsp => ⟨t_World_channels K  E, ?_, rd vs H Q E hsp⟩
  have hu := hr.r.units
  exact (pss_one (ps_ret (pe_callTy cm_list rfl (T.free 22) b_list (pa_cons (px_fld (mv 0)) pa_nil))))
theorem sc_World_breakers : FnScope n_World_breakers ["self"] (defScope s_World_breakers) := ⟨rfl, rfl, rfl, by decide +kernel, rfl, by decide +kernel, by decide +kernel⟩
theorem w_World_breakers  (T : Tp K mg)  {sp : Sp} (len : ∀ vs H Q E, sp vs H Q E → vs.length = 1)
    (rd : ∀ vs H Q E, sp vs H Q E → t_World_breakers K  E { nx := fun _ H' => Q .non H', rt := Q } (start n_World_breakers vs) H) : FnX P w K mg base 1 (fAd K ("World", some "breakers")) sp := by
  obtain ⟨fd, FD⟩ := T.c.def_ 36 (d := d_World_breakers)
  refine fnx (k := 0) FD sc_World_breakers (fun _ _ _ _ _ _ us hl => match us, hl with | [_], _ => rfl) len fun cdv A outer s H vs Q E hr hsp => ⟨t_World_breakers K  E, ?_, rd vs H Q E hsp⟩
  have hu := hr.r.units
  exact (pss_one (ps_ret (pe_callTy cm_list rfl (T.free 22) b_list (pa_cons (px_fld (mv 0)) pa_nil))))
theorem sc_World_ships : FnScope n_World_ships ["self"] (defScope s_World_ships) := ⟨rfl, rfl, rfl, by decide +kernel, rfl, by decide +kernel, by decide +kernel⟩
theorem w_World_ships  (T : Tp K mg)  {sp : Sp} (len : ∀ vs H Q E, sp vs H Q E → vs.length = 1)
    (rd : ∀ vs H Q E, sp vs H Q E → t_World_ships K  E { nx := fun _ H' => Q .non H', rt := Q } (start n_World_ships vs) H) : FnX P w K mg base 1 (fAd K ("World", some "ships")) sp := by
  obtain ⟨fd, FD⟩ := T.c.def_ 37 (d := d_World_ships)
  refine fnx (k := 0) FD sc_World_ships (fun _ _ _ _ _ _ us hl => match us, hl with | [_], _ => rfl) len fun cdv A outer s H vs Q E hr hsp => ⟨t_World_ships K  E, ?_, rd vs H Q E hsp⟩
  have hu := hr.r.units
  exact (pss_one (ps_ret (pe_callTy cm_list rfl (T.free 22) b_list (pa_cons (px_fld (mv 0)) pa_nil))))
end K76
/-! each def does what its reading says: printed by a program of mine -/
namespace K76
open PySem PySem.Spec PyProof.Rows L2 SX
open He (ga ma fAd)
variable {P : Program} {w : World} {K : PySem.W.Frag} {mg : Str → Option Value} {base : Heap}
theorem sc_World_vessels : FnScope n_World_vessels ["self"] (defScope s_World_vessels) := ⟨rfl, rfl, rfl, by decide +kernel, rfl, by decide +kernel, by decide +kernel⟩
theorem w_World_vessels  (T : Tp K mg)  {sp : Sp} (len : ∀ vs H Q E, sp vs H Q E → vs.length = 1)
    (rd : ∀ vs H Q E, sp vs H Q E → t_World_vessels K  E { nx := fun _ H' => Q .non H', rt := Q } (start n_World_vessels vs) H) : FnX P w K mg base 1 (fAd K ("World", some "vessels")) sp := by
  obtain ⟨fd, FD⟩ := T.c.def_ 38 (d := d_World_vessels)
  refine fnx (k := 0) FD sc_World_vessels (fun _ _ _ _ _ _ us hl => match us, hl with | [_], _ => rfl) len fun cdv A outer s H vs Q E hr hsp => ⟨t_World_vessels K  E, ?_, rd vs H Q E hsp⟩
  have hu := hr.r.units
  exact (pss_one (ps_ret (pe_op om_add (px_fld (mv 0)) (px_fld (mv 0)))))
theorem sc_World_channel : FnScope n_World_channel ["self", "name"] (defScope s_World_channel) := ⟨rfl, rfl, rfl, by decide +kernel, rfl, by decide +kernel, by decide +kernel⟩
theorem w_World_channel  (T : Tp K mg) (E_NoChannel : FnE P w K mg base 1 (ma K (ga K "NoChannel") "__init__") (spExc K "NoChannel" "found")) {sp : Sp} (len : ∀ vs H Q E, sp vs H Q E → vs.length = 2)
    (rd : ∀ vs H Q E, sp vs H Q E → t_World_channel K  E { nx := fun _ H' => Q .non H', rt := Q } (start n_World_channel vs) H) : FnX P w K mg base 3 (fAd K ("World", some "channel")) sp := by
  obtain ⟨fd, FD⟩ := T.c.def_ 39 (d := d_World_channel)
  refine fnx (k := 2) FD sc_World_channel (fun _ _ _ _ _ _ us hl => match us, hl with | [_, _], _ => rfl) len fun cdv A outer s H vs Q E hr hsp => ⟨t_World_channel K  E, ?_, rd vs H Q E hsp⟩
  have hu := hr.r.units
  exact (pss_cons (ps_for pass_def rfl (pi_seq (px_fld (mv 0))) (pg_name sc_World_channel.nd rfl (.inl rfl)) (pss_one (ps_if (pt_cmpR (om_eq hu) (px_fld (mv 2)) (mv 1) (nomark _)) (pss_one (ps_ret (mv 2))) pss_nil)))
  (pss_one (px_raise (T.oex 8) E_NoChannel (T.glo 38) rfl hr (by decide) take_def rfl (mv 1))))
theorem sc_World_vessel : FnScope n_World_vessel ["self", "name"] (defScope s_World_vessel) := ⟨rfl, rfl, rfl, by decide +kernel, rfl, by decide +kernel, by decide +kernel⟩
theorem w_World_vessel {ok_vessels : Addr → Sp → Prop} (T : Tp K mg) (F_vessels : ∀ C sp, ok_vessels C sp → MetX P w K mg base 1 "vessels" C sp) (E_NoVessel : FnE P w K mg base 1 (ma K (ga K "NoVessel") "__init__") (spExc K "NoVessel" "found")) {sp : Sp} (len : ∀ vs H Q E, sp vs H Q E → vs.length = 2)
    (rd : ∀ vs H Q E, sp vs H Q E → t_World_vessel K ok_vessels E { nx := fun _ H' => Q .non H', rt := Q } (start n_World_vessel vs) H) : FnX P w K mg base 3 (fAd K ("World", some "vessel")) sp := by
  obtain ⟨fd, FD⟩ := T.c.def_ 40 (d := d_World_vessel)
  refine fnx (k := 2) FD sc_World_vessel (fun _ _ _ _ _ _ us hl => match us, hl with | [_, _], _ => rfl) len fun cdv A outer s H vs Q E hr hsp => ⟨t_World_vessel K ok_vessels E, ?_, rd vs H Q E hsp⟩
  have hu := hr.r.units
  exact (pss_cons (ps_for pass_def rfl (pi_seq (px_meth0 (mv 0) F_vessels hr (by decide) take_def)) (pg_name sc_World_vessel.nd rfl (.inl rfl)) (pss_one (ps_if (pt_cmpR (om_eq hu) (px_fld (mv 2)) (mv 1) (nomark _)) (pss_one (ps_ret (mv 2))) pss_nil)))
  (pss_one (px_raise (T.oex 9) E_NoVessel (T.glo 39) rfl hr (by decide) take_def rfl (mv 1))))
theorem sc_World_told : FnScope n_World_told ["self"] (defScope s_World_told) := ⟨rfl, rfl, rfl, by decide +kernel, rfl, by decide +kernel, by decide +kernel⟩
theorem w_World_told {ok_row : Addr → Sp → Prop} (T : Tp K mg) (F_row : ∀ C sp, ok_row C sp → MetX P w K mg base 2 "row" C sp) {sp : Sp} (len : ∀ vs H Q E, sp vs H Q E → vs.length = 1)
    (rd : ∀ vs H Q E, sp vs H Q E → t_World_told K ok_row E { nx := fun _ H' => Q .non H', rt := Q } (start n_World_told vs) H) : FnX P w K mg base 3 (fAd K ("World", some "told")) sp := by
  obtain ⟨fd, FD⟩ := T.c.def_ 41 (d := d_World_told)
  refine fnx (k := 2) FD sc_World_told (fun _ _ _ _ _ _ us hl => match us, hl with | [_], _ => rfl) len fun cdv A outer s H vs Q E hr hsp => ⟨t_World_told K ok_row E, ?_, rd vs H Q E hsp⟩
  have hu := hr.r.units
  exact (pss_cons (ps_set sc_World_told.nd rfl (.inl rfl) (pe_callTy cm_tuple rfl (T.free 23) b_tuple (pa_cons (pe_lc (own := [("channel", 4)]) rfl sc_World_told.nd (pi_seq (px_fld (mv 0))) (blk_ok (by kernel_rfl)) (fun _ _ _ _ _ => (pg_name sc_World_told.nd rfl (.inl rfl))) (fun _ _ _ _ _ => pts_nil) (fun _ _ _ _ _ => (px_meth0 (mv 4) F_row hr (by decide) takes0))) pa_nil)))
  (pss_cons (ps_set sc_World_told.nd rfl (.inl rfl) (pe_callTy cm_tuple rfl (T.free 23) b_tuple (pa_cons (pe_lc (own := [("breaker", 5)]) rfl sc_World_told.nd (pi_seq (px_fld (mv 0))) (blk_ok (by kernel_rfl)) (fun _ _ _ _ _ => (pg_name sc_World_told.nd rfl (.inl rfl))) (fun _ _ _ _ _ => pts_nil) (fun _ _ _ _ _ => (px_meth0 (mv 5) F_row hr (by decide) takes0))) pa_nil)))
  (pss_cons (ps_set sc_World_told.nd rfl (.inl rfl) (pe_callTy cm_tuple rfl (T.free 23) b_tuple (pa_cons (pe_lc (own := [("ship", 6)]) rfl sc_World_told.nd (pi_seq (px_fld (mv 0))) (blk_ok (by kernel_rfl)) (fun _ _ _ _ _ => (pg_name sc_World_told.nd rfl (.inl rfl))) (fun _ _ _ _ _ => pts_nil) (fun _ _ _ _ _ => (px_meth0 (mv 6) F_row hr (by decide) takes0))) pa_nil)))
  (pss_one (ps_ret (pe_tup (pa_cons (px_fld (mv 0)) (pa_cons (pe_callTy cm_tuple rfl (T.free 23) b_tuple (pa_cons (px_fld (mv 0)) pa_nil)) (pa_cons (mv 1) (pa_cons (mv 2) (pa_cons (mv 3) pa_nil)))))))))))
theorem sc_channel_anew : FnScope n_channel_anew ["row"] (defScope s_channel_anew) := ⟨rfl, rfl, rfl, by decide +kernel, rfl, by decide +kernel, by decide +kernel⟩
theorem w_channel_anew {s_Channel___init__ : Sp} (T : Tp K mg) (F_Channel___init__ : FnX P w K mg base 4 (fAd K ("Channel", some "__init__")) s_Channel___init__) {sp : Sp} (len : ∀ vs H Q E, sp vs H Q E → vs.length = 1)
    (rd : ∀ vs H Q E, sp vs H Q E → t_channel_anew K s_Channel___init__ E { nx := fun _ H' => Q .non H', rt := Q } (start n_channel_anew vs) H) : FnX P w K mg base 6 (fAd K ("channel_anew", none)) sp := by
  obtain ⟨fd, FD⟩ := T.c.def_ 42 (d := d_channel_anew)
  refine fnx (k := 5) FD sc_channel_anew (fun _ _ _ _ _ _ us hl => match us, hl with | [_], _ => rfl) len fun cdv A outer s H vs Q E hr hsp => ⟨t_channel_anew K s_Channel___init__ E, ?_, rd vs H Q E hsp⟩
  have hu := hr.r.units
  exact (pss_one (ps_ret (px_make (T.mkr 40) F_Channel___init__ (T.glo 27) hr (by decide) take_def rfl (pa_cons (pe_ix im_ix (mv 0) pe_int (by intro _ _; rfl)) (pa_cons (pe_ix im_ix (mv 0) pe_int (by intro _ _; rfl)) (pa_cons (pe_ix im_ix (mv 0) pe_int (by intro _ _; rfl)) (pa_cons (pe_ix im_ix (mv 0) pe_int (by intro _ _; rfl)) (pa_cons (pe_ix im_ix (mv 0) pe_int (by intro _ _; rfl)) (pa_cons (pe_ix im_ix (mv 0) pe_int (by intro _ _; rfl)) (pa_cons (pe_ix im_ix (mv 0) pe_int (by intro _ _; rfl)) (pa_cons (pe_ix im_ix (mv 0) pe_int (by intro _ _; rfl)) pa_nil)))))))))))
theorem sc_breaker_anew : FnScope n_breaker_anew ["row"] (defScope s_breaker_anew) := ⟨rfl, rfl, rfl, by decide +kernel, rfl, by decide +kernel, by decide +kernel⟩
theorem w_breaker_anew {s_Breaker___init__ : Sp} (T : Tp K mg) (F_Breaker___init__ : FnX P w K mg base 5 (fAd K ("Breaker", some "__init__")) s_Breaker___init__) {sp : Sp} (len : ∀ vs H Q E, sp vs H Q E → vs.length = 1)
    (rd : ∀ vs H Q E, sp vs H Q E → t_breaker_anew K s_Breaker___init__ E { nx := fun _ H' => Q .non H', rt := Q } (start n_breaker_anew vs) H) : FnX P w K mg base 7 (fAd K ("breaker_anew", none)) sp := by
  obtain ⟨fd, FD⟩ := T.c.def_ 43 (d := d_breaker_anew)
  refine fnx (k := 6) FD sc_breaker_anew (fun _ _ _ _ _ _ us hl => match us, hl with | [_], _ => rfl) len fun cdv A outer s H vs Q E hr hsp => ⟨t_breaker_anew K s_Breaker___init__ E, ?_, rd vs H Q E hsp⟩
  have hu := hr.r.units
  exact (pss_one (ps_ret (px_make (T.mkr 41) F_Breaker___init__ (T.glo 29) hr (by decide) take_def rfl (pa_cons (pe_ix im_ix (mv 0) pe_int (by intro _ _; rfl)) (pa_cons (pe_ix im_ix (mv 0) pe_int (by intro _ _; rfl)) (pa_cons (pe_ix im_ix (mv 0) pe_int (by intro _ _; rfl)) (pa_cons (pe_ix im_ix (mv 0) pe_int (by intro _ _; rfl)) (pa_cons (pe_ix im_ix (mv 0) pe_int (by intro _ _; rfl)) (pa_cons (pe_ix im_ix (mv 0) pe_int (by intro _ _; rfl)) pa_nil)))))))))
theorem sc_ship_anew : FnScope n_ship_anew ["row"] (defScope s_ship_anew) := ⟨rfl, rfl, rfl, by decide +kernel, rfl, by decide +kernel, by decide +kernel⟩
theorem w_ship_anew {s_Ship___init__ : Sp} (T : Tp K mg) (F_Ship___init__ : FnX P w K mg base 5 (fAd K ("Ship", some "__init__")) s_Ship___init__) {sp : Sp} (len : ∀ vs H Q E, sp vs H Q E → vs.length = 1)
    (rd : ∀ vs H Q E, sp vs H Q E → t_ship_anew K s_Ship___init__ E { nx := fun _ H' => Q .non H', rt := Q } (start n_ship_anew vs) H) : FnX P w K mg base 7 (fAd K ("ship_anew", none)) sp := by
  obtain ⟨fd, FD⟩ := T.c.def_ 44 (d := d_ship_anew)
  refine fnx (k := 6) FD sc_ship_anew (fun _ _ _ _ _ _ us hl => match us, hl with | [_], _ => rfl) len fun cdv A outer s H vs Q E hr hsp => ⟨t_ship_anew K s_Ship___init__ E, ?_, rd vs H Q E hsp⟩
  have hu := hr.r.units
  exact (pss_one (ps_ret (px_make (T.mkr 42) F_Ship___init__ (T.glo 31) hr (by decide) take_def rfl (pa_cons (pe_ix im_ix (mv 0) pe_int (by intro _ _; rfl)) (pa_cons (pe_ix im_ix (mv 0) pe_int (by intro _ _; rfl)) (pa_cons (pe_ix im_ix (mv 0) pe_int (by intro _ _; rfl)) (pa_cons (pe_ix im_ix (mv 0) pe_int (by intro _ _; rfl)) (pa_cons (pe_ix im_ix (mv 0) pe_int (by intro _ _; rfl)) (pa_cons (pe_ix im_ix (mv 0) pe_int (by intro _ _; rfl)) pa_nil)))))))))
theorem sc_world_anew : FnScope n_world_anew ["told"] (defScope s_world_anew) := ⟨rfl, rfl, rfl, by decide +kernel, rfl, by decide +kernel, by decide +kernel⟩
theorem w_world_anew {s_channel_anew : Sp} {s_World___init__ : Sp} {s_ship_anew : Sp} {s_breaker_anew : Sp} (T : Tp K mg) (F_channel_anew : FnX P w K mg base 6 (fAd K ("channel_anew", none)) s_channel_anew) (F_World___init__ : FnX P w K mg base 4 (fAd K ("World", some "__init__")) s_World___init__) (F_ship_anew : FnX P w K mg base 7 (fAd K ("ship_anew", none)) s_ship_anew) (F_breaker_anew : FnX P w K mg base 7 (fAd K ("breaker_anew", none)) s_breaker_anew) {sp : Sp} (len : ∀ vs H Q E, sp vs H Q E → vs.length = 1)
    (rd : ∀ vs H Q E, sp vs H Q E → t_world_anew K s_channel_anew s_World___init__ s_ship_anew s_breaker_anew E { nx := fun _ H' => Q .non H', rt := Q } (start n_world_anew vs) H) : FnX P w K mg base 8 (fAd K ("world_anew", none)) sp := by
  obtain ⟨fd, FD⟩ := T.c.def_ 45 (d := d_world_anew)
  refine fnx (k := 7) FD sc_world_anew (fun _ _ _ _ _ _ us hl => match us, hl with | [_], _ => rfl) len fun cdv A outer s H vs Q E hr hsp => ⟨t_world_anew K s_channel_anew s_World___init__ s_ship_anew s_breaker_anew E, ?_, rd vs H Q E hsp⟩
  have hu := hr.r.units
  exact (pss_cons (ps_asg (mv 0) (pg_tup rfl (pgs_cons (pg_name sc_world_anew.nd rfl (.inl rfl)) (pgs_cons (pg_name sc_world_anew.nd rfl (.inl rfl)) (pgs_cons (pg_name sc_world_anew.nd rfl (.inl rfl)) (pgs_cons (pg_name sc_world_anew.nd rfl (.inl rfl)) (pgs_cons (pg_name sc_world_anew.nd rfl (.inl rfl)) pgs_nil)))))))
  (pss_cons (ps_setLc (own := [("row", 7)]) rfl sc_world_anew.nd rfl rfl rfl (pi_seq (mv 3)) (blk_ok (by kernel_rfl)) (fun _ _ _ _ _ => (pg_name sc_world_anew.nd rfl (.inl rfl))) (fun _ _ _ _ _ => pts_nil) (fun _ _ _ _ _ => (px_call F_channel_anew (T.glo 43) hr (by decide) takes0 rfl (pa_cons (mv 7) pa_nil))))
  (pss_one (ps_ret (px_make (T.mkr 45) F_World___init__ (T.glo 44) hr (by decide) take_def rfl (pa_cons (mv 1) (pa_cons (mv 2) (pa_cons (mv 6) (pa_cons (pe_lc (own := [("row", 7)]) rfl sc_world_anew.nd (pi_seq (mv 4)) (blk_ok (by kernel_rfl)) (fun _ _ _ _ _ => (pg_name sc_world_anew.nd rfl (.inl rfl))) (fun _ _ _ _ _ => pts_nil) (fun _ _ _ _ _ => (px_call F_breaker_anew (T.glo 47) hr (by decide) takes0 rfl (pa_cons (mv 7) pa_nil)))) (pa_cons (pe_lc (own := [("row", 7)]) rfl sc_world_anew.nd (pi_seq (mv 5)) (blk_ok (by kernel_rfl)) (fun _ _ _ _ _ => (pg_name sc_world_anew.nd rfl (.inl rfl))) (fun _ _ _ _ _ => pts_nil) (fun _ _ _ _ _ => (px_call F_ship_anew (T.glo 46) hr (by decide) takes0 rfl (pa_cons (mv 7) pa_nil)))) pa_nil))))))))))
theorem sc_turned : FnScope n_turned ["world"] (defScope s_turned) := ⟨rfl, rfl, rfl, by decide +kernel, rfl, by decide +kernel, by decide +kernel⟩
theorem w_turned {ok_told : Addr → Sp → Prop} {s_world_anew : Sp} (T : Tp K mg) (F_told : ∀ C sp, ok_told C sp → MetX P w K mg base 3 "told" C sp) (F_world_anew : FnX P w K mg base 8 (fAd K ("world_anew", none)) s_world_anew) {sp : Sp} (len : ∀ vs H Q E, sp vs H Q E → vs.length = 1)
    (rd : ∀ vs H Q E, sp vs H Q E → t_turned K ok_told s_world_anew E { nx := fun _ H' => Q .non H', rt := Q } (start n_turned vs) H) : FnX P w K mg base 9 (fAd K ("turned", none)) sp := by
  obtain ⟨fd, FD⟩ := T.c.def_ 46 (d := d_turned)
  refine fnx (k := 8) FD sc_turned (fun _ _ _ _ _ _ us hl => match us, hl with | [_], _ => rfl) len fun cdv A outer s H vs Q E hr hsp => ⟨t_turned K ok_told s_world_anew E, ?_, rd vs H Q E hsp⟩
  have hu := hr.r.units
  exact (pss_cons (ps_asg (px_meth0 (mv 0) F_told hr (by decide) take_def) (pg_tup rfl (pgs_cons (pg_name sc_turned.nd rfl (.inl rfl)) (pgs_cons (pg_name sc_turned.nd rfl (.inl rfl)) (pgs_cons (pg_name sc_turned.nd rfl (.inl rfl)) (pgs_cons (pg_name sc_turned.nd rfl (.inl rfl)) (pgs_cons (pg_name sc_turned.nd rfl (.inl rfl)) pgs_nil)))))))
  (pss_one (ps_ret (px_call F_world_anew (T.glo 48) hr (by decide) take_def rfl (pa_cons (pe_tup (pa_cons (mv 1) (pa_cons (mv 2) (pa_cons (pe_lc (own := [("row", 6)]) rfl sc_turned.nd (pi_seq (mv 3)) (blk_ok (by kernel_rfl)) (fun _ _ _ _ _ => (pg_name sc_turned.nd rfl (.inl rfl))) (fun _ _ _ _ _ => pts_nil) (fun _ _ _ _ _ => (pe_op om_add (pe_op om_add (pe_slice sm_sl (mv 6) po_none (po_some pe_int)) (pe_tup (pa_cons (pe_ix im_ix (mv 6) pe_int (by intro _ _; rfl)) (pa_cons (pe_ix im_ix (mv 6) pe_int (by intro _ _; rfl)) pa_nil)))) (pe_slice sm_sl (mv 6) (po_some pe_int) po_none)))) (pa_cons (mv 4) (pa_cons (mv 5) pa_nil)))))) pa_nil)))))
theorem sc_with_ship : FnScope n_with_ship ["world", "ship"] (defScope s_with_ship) := ⟨rfl, rfl, rfl, by decide +kernel, rfl, by decide +kernel, by decide +kernel⟩
theorem w_with_ship {s_World___init__ : Sp} {ok_ships : Addr → Sp → Prop} {ok_breakers : Addr → Sp → Prop} {ok_channels : Addr → Sp → Prop} {ok_ports : Addr → Sp → Prop} {ok_begin_hour : Addr → Sp → Prop} (T : Tp K mg) (E_NoKind : FnE P w K mg base 1 (ma K (ga K "NoKind") "__init__") (spExc K "NoKind" "found")) (F_World___init__ : FnX P w K mg base 4 (fAd K ("World", some "__init__")) s_World___init__) (F_ships : ∀ C sp, ok_ships C sp → MetX P w K mg base 1 "ships" C sp) (F_breakers : ∀ C sp, ok_breakers C sp → MetX P w K mg base 1 "breakers" C sp) (F_channels : ∀ C sp, ok_channels C sp → MetX P w K mg base 1 "channels" C sp) (F_ports : ∀ C sp, ok_ports C sp → MetX P w K mg base 1 "ports" C sp) (F_begin_hour : ∀ C sp, ok_begin_hour C sp → MetX P w K mg base 1 "begin_hour" C sp) {sp : Sp} (len : ∀ vs H Q E, sp vs H Q E → vs.length = 2)
    (rd : ∀ vs H Q E, sp vs H Q E → t_with_ship K s_World___init__ ok_ships ok_breakers ok_channels ok_ports ok_begin_hour E { nx := fun _ H' => Q .non H', rt := Q } (start n_with_ship vs) H) : FnX P w K mg base 6 (fAd K ("with_ship", none)) sp := by
  obtain ⟨fd, FD⟩ := T.c.def_ 47 (d := d_with_ship)
  refine fnx (k := 5) FD sc_with_ship (fun _ _ _ _ _ _ us hl => match us, hl with | [_, _], _ => rfl) len fun cdv A outer s H vs Q E hr hsp => ⟨t_with_ship K s_World___init__ ok_ships ok_breakers ok_channels ok_ports ok_begin_hour E, ?_, rd vs H Q E hsp⟩
  have hu := hr.r.units
  exact (pss_cons (ps_if (pt_not (pt_val (px_isC rfl (T.free 0) rfl (T.glo 31) (mv 1)))) (pss_one (px_raise (T.oex 10) E_NoKind (T.glo 49) rfl hr (by decide) take_def rfl (mv 1))) pss_nil)
  (pss_one (ps_ret (px_make (T.mkr 45) F_World___init__ (T.glo 44) hr (by decide) take_def rfl (pa_cons (px_meth0 (mv 0) F_begin_hour hr (by decide) take_def) (pa_cons (px_meth0 (mv 0) F_ports hr (by decide) take_def) (pa_cons (px_meth0 (mv 0) F_channels hr (by decide) take_def) (pa_cons (px_meth0 (mv 0) F_breakers hr (by decide) take_def) (pa_cons (pe_op om_add (px_meth0 (mv 0) F_ships hr (by decide) take_def) (pe_lst (pa_cons (mv 1) pa_nil))) pa_nil)))))))))
theorem sc_without : FnScope n_without ["world", "name"] (defScope s_without) := ⟨rfl, rfl, rfl, by decide +kernel, rfl, by decide +kernel, by decide +kernel⟩
theorem w_without {ok_vessel : Addr → Sp → Prop} {ok_breakers : Addr → Sp → Prop} {ok_ships : Addr → Sp → Prop} {s_World___init__ : Sp} {ok_channels : Addr → Sp → Prop} {ok_ports : Addr → Sp → Prop} {ok_begin_hour : Addr → Sp → Prop} (T : Tp K mg) (F_vessel : ∀ C sp, ok_vessel C sp → MetX P w K mg base 3 "vessel" C sp) (F_breakers : ∀ C sp, ok_breakers C sp → MetX P w K mg base 1 "breakers" C sp) (F_ships : ∀ C sp, ok_ships C sp → MetX P w K mg base 1 "ships" C sp) (F_World___init__ : FnX P w K mg base 4 (fAd K ("World", some "__init__")) s_World___init__) (F_channels : ∀ C sp, ok_channels C sp → MetX P w K mg base 1 "channels" C sp) (F_ports : ∀ C sp, ok_ports C sp → MetX P w K mg base 1 "ports" C sp) (F_begin_hour : ∀ C sp, ok_begin_hour C sp → MetX P w K mg base 1 "begin_hour" C sp) {sp : Sp} (len : ∀ vs H Q E, sp vs H Q E → vs.length = 2)
    (rd : ∀ vs H Q E, sp vs H Q E → t_without K ok_vessel ok_breakers ok_ships s_World___init__ ok_channels ok_ports ok_begin_hour E { nx := fun _ H' => Q .non H', rt := Q } (start n_without vs) H) : FnX P w K mg base 6 (fAd K ("without", none)) sp := by
  obtain ⟨fd, FD⟩ := T.c.def_ 48 (d := d_without)
  refine fnx (k := 5) FD sc_without (fun _ _ _ _ _ _ us hl => match us, hl with | [_, _], _ => rfl) len fun cdv A outer s H vs Q E hr hsp => ⟨t_without K ok_vessel ok_breakers ok_ships s_World___init__ ok_channels ok_ports ok_begin_hour E, ?_, rd vs H Q E hsp⟩
  have hu := hr.r.units
  exact (pss_cons (ps_set sc_without.nd rfl (.inr rfl) (px_meth (mv 0) F_vessel hr (by decide) take_def (pa_cons (mv 1) pa_nil)))
  (pss_cons (ps_setLc (own := [("breaker", 5)]) rfl sc_without.nd rfl rfl rfl (pi_seq (px_meth0 (mv 0) F_breakers hr (by decide) take_def)) (blk_ok (by kernel_rfl)) (fun _ _ _ _ _ => (pg_name sc_without.nd rfl (.inl rfl))) (fun _ _ _ _ _ => (pts_one (pt_cmpR (om_ne hu) (px_fld (mv 5)) (px_fld (mv 2)) (nomark _)))) (fun _ _ _ _ _ => (mv 5)))
  (pss_cons (ps_setLc (own := [("ship", 6)]) rfl sc_without.nd rfl rfl rfl (pi_seq (px_meth0 (mv 0) F_ships hr (by decide) take_def)) (blk_ok (by kernel_rfl)) (fun _ _ _ _ _ => (pg_name sc_without.nd rfl (.inl rfl))) (fun _ _ _ _ _ => (pts_one (pt_cmpR (om_ne hu) (px_fld (mv 6)) (px_fld (mv 2)) (nomark _)))) (fun _ _ _ _ _ => (mv 6)))
  (pss_one (ps_ret (px_make (T.mkr 45) F_World___init__ (T.glo 44) hr (by decide) take_def rfl (pa_cons (px_meth0 (mv 0) F_begin_hour hr (by decide) take_def) (pa_cons (px_meth0 (mv 0) F_ports hr (by decide) take_def) (pa_cons (px_meth0 (mv 0) F_channels hr (by decide) take_def) (pa_cons (mv 3) (pa_cons (mv 4) pa_nil)))))))))))
theorem sc__law_cell : FnScope n__law_cell ["script", "k"] (defScope s__law_cell) := ⟨rfl, rfl, rfl, by decide +kernel, rfl, by decide +kernel, by decide +kernel⟩
theorem w__law_cell  (T : Tp K mg)  {sp : Sp} (len : ∀ vs H Q E, sp vs H Q E → vs.length = 2)
    (rd : ∀ vs H Q E, sp vs H Q E → t__law_cell K  E { nx := fun _ H' => Q .non H', rt := Q } (start n__law_cell vs) H) : FnX P w K mg base 1 (fAd K ("_law_cell", none)) sp := by
  obtain ⟨fd, FD⟩ := T.c.def_ 49 (d := d__law_cell)
  refine fnx (k := 0) FD sc__law_cell (fun _ _ _ _ _ _ us hl => match us, hl with | [_, _], _ => rfl) len fun cdv A outer s H vs Q E hr hsp => ⟨t__law_cell K  E, ?_, rd vs H Q E hsp⟩
  have hu := hr.r.units
  exact (pss_cons (ps_if (pt_cmpR om_lt (mv 1) (pe_callB cm_len rfl (T.free 4) b_len (pa_cons (mv 0) pa_nil)) (nomark _)) (pss_one (ps_ret (pe_ix im_ix (mv 0) (mv 1) (by intro _ _; rfl)))) pss_nil)
  (pss_one (ps_ret (pe_op om_add (pe_op om_mul pe_int (mv 1)) pe_int))))
theorem sc__law_box : FnScope n__law_box ["cell"] (defScope s__law_box) := ⟨rfl, rfl, rfl, by decide +kernel, rfl, by decide +kernel, by decide +kernel⟩
theorem w__law_box  (T : Tp K mg)  {sp : Sp} (len : ∀ vs H Q E, sp vs H Q E → vs.length = 1)
    (rd : ∀ vs H Q E, sp vs H Q E → t__law_box K  E { nx := fun _ H' => Q .non H', rt := Q } (start n__law_box vs) H) : FnX P w K mg base 1 (fAd K ("_law_box", none)) sp := by
  obtain ⟨fd, FD⟩ := T.c.def_ 50 (d := d__law_box)
  refine fnx (k := 0) FD sc__law_box (fun _ _ _ _ _ _ us hl => match us, hl with | [_], _ => rfl) len fun cdv A outer s H vs Q E hr hsp => ⟨t__law_box K  E, ?_, rd vs H Q E hsp⟩
  have hu := hr.r.units
  exact (pss_one (ps_ret (pe_lst (pa_cons (pe_callB (cm_max2 rfl) rfl (T.free 50) b_max (pa_cons pe_int (pa_cons (pe_op om_sub (mv 0) (pe_op om_pow pe_int pe_int)) pa_nil))) (pa_cons (pe_op om_mod (mv 0) pe_int) (pa_cons pe_int pa_nil))))))
theorem sc__law_take : FnScope n__law_take ["box", "many"] (defScope s__law_take) := ⟨rfl, rfl, rfl, by decide +kernel, rfl, by decide +kernel, by decide +kernel⟩
theorem w__law_take  (T : Tp K mg)  {sp : Sp} (len : ∀ vs H Q E, sp vs H Q E → vs.length = 2)
    (rd : ∀ vs H Q E, sp vs H Q E → t__law_take K  E { nx := fun _ H' => Q .non H', rt := Q } (start n__law_take vs) H) : FnX P w K mg base 1 (fAd K ("_law_take", none)) sp := by
  obtain ⟨fd, FD⟩ := T.c.def_ 51 (d := d__law_take)
  refine fnx (k := 0) FD sc__law_take (fun _ _ _ _ _ _ us hl => match us, hl with | [_, _], _ => rfl) len fun cdv A outer s H vs Q E hr hsp => ⟨t__law_take K  E, ?_, rd vs H Q E hsp⟩
  have hu := hr.r.units
  exact (pss_cons (ps_if (pt_cmpR om_gt (pe_ix im_ix (mv 0) pe_int (by intro _ _; rfl)) pe_int (nomark _)) (pss_cons (ps_set sc__law_take.nd rfl (.inl rfl) (pe_op om_mod (pe_ix im_ix (mv 0) pe_int (by intro _ _; rfl)) (mv 1)))
  (pss_cons (ps_asg (pe_op om_div (pe_ix im_ix (mv 0) pe_int (by intro _ _; rfl)) (mv 1)) (pg_sub (mv 0) pe_int (sm_set hu)))
  (pss_one (ps_ret (mv 2))))) pss_nil)
  (pss_cons (ps_asg (pe_op om_add (pe_ix im_ix (mv 0) pe_int (by intro _ _; rfl)) pe_int) (pg_sub (mv 0) pe_int (sm_set hu)))
  (pss_cons (ps_set sc__law_take.nd rfl (.inl rfl) (pe_op om_mod (pe_op om_pow (pe_op om_add (pe_op om_add (pe_ix im_ix (mv 0) pe_int (by intro _ _; rfl)) (pe_op om_mul pe_int (pe_ix im_ix (mv 0) pe_int (by intro _ _; rfl)))) pe_int) pe_int) pe_int))
  (pss_cons (ps_set sc__law_take.nd rfl (.inl rfl) (pe_op om_mod (pe_op om_pow (pe_op om_add (pe_op om_add (pe_op om_div (mv 3) pe_int) (pe_op om_mul pe_int (pe_ix im_ix (mv 0) pe_int (by intro _ _; rfl)))) pe_int) pe_int) pe_int))
  (pss_one (ps_ret (pe_op om_mod (pe_op om_add (pe_op om_div (mv 3) pe_int) (pe_op om_mul pe_int (pe_op om_div (mv 4) pe_int))) (mv 1))))))))
theorem sc__law_names : FnScope n__law_names ["box", "many"] (defScope s__law_names) := ⟨rfl, rfl, rfl, by decide +kernel, rfl, by decide +kernel, by decide +kernel⟩
theorem w__law_names {s__law_take : Sp} (T : Tp K mg) (F__law_take : FnX P w K mg base 1 (fAd K ("_law_take", none)) s__law_take) {sp : Sp} (len : ∀ vs H Q E, sp vs H Q E → vs.length = 2)
    (rd : ∀ vs H Q E, sp vs H Q E → t__law_names K s__law_take E { nx := fun _ H' => Q .non H', rt := Q } (start n__law_names vs) H) : FnX P w K mg base 2 (fAd K ("_law_names", none)) sp := by
  obtain ⟨fd, FD⟩ := T.c.def_ 52 (d := d__law_names)
  refine fnx (k := 1) FD sc__law_names (fun _ _ _ _ _ _ us hl => match us, hl with | [_, _], _ => rfl) len fun cdv A outer s H vs Q E hr hsp => ⟨t__law_names K s__law_take E, ?_, rd vs H Q E hsp⟩
  have hu := hr.r.units
  exact (pss_cons (ps_set sc__law_names.nd rfl (.inr rfl) pe_str)
  (pss_cons (ps_set sc__law_names.nd rfl (.inl rfl) (px_call F__law_take (T.glo 51) hr (by decide) take_def rfl (pa_cons (mv 0) (pa_cons pe_int pa_nil))))
  (pss_cons (ps_set sc__law_names.nd rfl (.inr rfl) (px_call F__law_take (T.glo 51) hr (by decide) take_def rfl (pa_cons (mv 0) (pa_cons pe_int pa_nil))))
  (pss_cons (ps_set sc__law_names.nd rfl (.inr rfl) (pe_ix im_ix (pe_lst (pa_cons pe_int (pa_cons pe_int (pa_cons pe_int (pa_cons pe_int (pa_cons pe_int (pa_cons pe_int pa_nil))))))) (px_call F__law_take (T.glo 51) hr (by decide) take_def rfl (pa_cons (mv 0) (pa_cons pe_int pa_nil))) (by intro _ _; rfl)))
  (pss_cons (ps_if (pt_cmpR (om_eq hu) (mv 3) pe_int (nomark _)) (pss_cons (ps_set sc__law_names.nd rfl (.inr rfl) (px_split pe_str pe_str))
  (pss_one (ps_ret (pe_lc (own := [("k", 11)]) rfl sc__law_names.nd (pi_range1 rfl (T.free 52) (pa_cons (mv 1) pa_nil)) (blk_ok (by kernel_rfl)) (fun _ _ _ _ _ => (pg_name sc__law_names.nd rfl (.inl rfl))) (fun _ _ _ _ _ => pts_nil) (fun _ _ _ _ _ => (pe_ix im_ix (mv 6) (pe_op om_mod (pe_op om_add (mv 4) (pe_op om_mul (mv 5) (mv 11))) pe_int) (by intro _ _; rfl))))))) pss_nil)
  (pss_cons (ps_set sc__law_names.nd rfl (.inr rfl) (px_join pe_str (pe_lc (own := [("k", 11)]) rfl sc__law_names.nd (pi_range1 rfl (T.free 52) (pa_cons pe_int pa_nil)) (blk_ok (by kernel_rfl)) (fun _ _ _ _ _ => (pg_name sc__law_names.nd rfl (.inl rfl))) (fun _ _ _ _ _ => pts_nil) (fun _ _ _ _ _ => (pe_ix im_ix (mv 2) (px_call F__law_take (T.glo 51) hr (by decide) takes0 rfl (pa_cons (mv 0) (pa_cons pe_int pa_nil))) (by intro _ _; rfl))))))
  (pss_cons (ps_if (pt_cmpR (om_eq hu) (mv 3) pe_int (nomark _)) (pss_cons (ps_setLc (own := [("k", 11)]) rfl sc__law_names.nd rfl rfl rfl (pi_range1 rfl (T.free 52) (pa_cons (mv 1) pa_nil)) (blk_ok (by kernel_rfl)) (fun _ _ _ _ _ => (pg_name sc__law_names.nd rfl (.inl rfl))) (fun _ _ _ _ _ => pts_nil) (fun _ _ _ _ _ => (pe_op om_add (pe_ix im_ix (mv 2) (pe_op om_mod (pe_op om_add (mv 4) (pe_op om_div (mv 11) pe_int)) pe_int) (by intro _ _; rfl)) (pe_slice sm_sl (mv 7) po_none (po_some (pe_op om_mod (mv 11) pe_int))))))
  (pss_cons (ps_set sc__law_names.nd rfl (.inr rfl) (px_call F__law_take (T.glo 51) hr (by decide) take_def rfl (pa_cons (mv 0) (pa_cons (pe_op om_add (mv 1) pe_int) pa_nil))))
  (pss_one (ps_ret (pe_op om_add (pe_slice sm_sl (mv 8) (po_some (mv 9)) po_none) (pe_revL (pe_slice sm_sl (mv 8) po_none (po_some (mv 9))))))))) pss_nil)
  (pss_cons (ps_set sc__law_names.nd rfl (.inr rfl) (px_call F__law_take (T.glo 51) hr (by decide) take_def rfl (pa_cons (mv 0) (pa_cons pe_int pa_nil))))
  (pss_cons (ps_set sc__law_names.nd rfl (.inr rfl) (pe_callB (cm_max2 rfl) rfl (T.free 50) b_max (pa_cons (mv 9) (pa_cons (px_call F__law_take (T.glo 51) hr (by decide) take_def rfl (pa_cons (mv 0) (pa_cons pe_int pa_nil))) pa_nil))))
  (pss_one (ps_ret (pe_lc (own := [("k", 11)]) rfl sc__law_names.nd (pi_range1 rfl (T.free 52) (pa_cons (mv 1) pa_nil)) (blk_ok (by kernel_rfl)) (fun _ _ _ _ _ => (pg_name sc__law_names.nd rfl (.inl rfl))) (fun _ _ _ _ _ => pts_nil) (fun _ _ _ _ _ => (pe_op om_add (pe_op om_add (pe_slice sm_sl (mv 7) po_none (po_some (mv 9))) (pe_ix im_ix (mv 2) (pe_op om_mod (pe_op om_add (mv 4) (pe_op om_mul (mv 5) (mv 11))) pe_int) (by intro _ _; rfl))) (pe_slice sm_sl (mv 7) (po_some (mv 9)) (po_some (mv 10)))))))))))))))))
end K76
/-! each def does what its reading says: printed by a program of mine -/
namespace K76
open PySem PySem.Spec PyProof.Rows L2 SX
open He (ga ma fAd)
variable {P : Program} {w : World} {K : PySem.W.Frag} {mg : Str → Option Value} {base : Heap}
theorem sc__law_number : FnScope n__law_number ["box", "low", "high"] (defScope s__law_number) := ⟨rfl, rfl, rfl, by decide +kernel, rfl, by decide +kernel, by decide +kernel⟩
theorem w__law_number {s__law_take : Sp} (T : Tp K mg) (F__law_take : FnX P w K mg base 1 (fAd K ("_law_take", none)) s__law_take) {sp : Sp} (len : ∀ vs H Q E, sp vs H Q E → vs.length = 3)
    (rd : ∀ vs H Q E, sp vs H Q E → t__law_number K s__law_take E { nx := fun _ H' => Q .non H', rt := Q } (start n__law_number vs) H) : FnX P w K mg base 2 (fAd K ("_law_number", none)) sp := by
  obtain ⟨fd, FD⟩ := T.c.def_ 53 (d := d__law_number)
  refine fnx (k := 1) FD sc__law_number (fun _ _ _ _ _ _ us hl => match us, hl with | [_, _, _], _ => rfl) len fun cdv A outer s H vs Q E hr hsp => ⟨t__law_number K s__law_take E, ?_, rd vs H Q E hsp⟩
  have hu := hr.r.units
  exact (pss_cons (ps_set sc__law_number.nd rfl (.inl rfl) (px_call F__law_take (T.glo 51) hr (by decide) take_def rfl (pa_cons (mv 0) (pa_cons pe_int pa_nil))))
  (pss_cons (ps_set sc__law_number.nd rfl (.inl rfl) (pe_op om_add (mv 1) (px_call F__law_take (T.glo 51) hr (by decide) take_def rfl (pa_cons (mv 0) (pa_cons (pe_op om_add (pe_op om_sub (mv 2) (mv 1)) pe_int) pa_nil)))))
  (pss_one (ps_ret (pe_ix im_ix (pe_lst (pa_cons (mv 1) (pa_cons (mv 2) (pa_cons (mv 4) (pa_cons (mv 4) (pa_cons (pe_op om_add (mv 1) (pe_op om_mod (pe_op om_mod (pe_op om_sub (mv 4) (mv 1)) pe_int) (pe_op om_add (pe_op om_sub (mv 2) (mv 1)) pe_int))) pa_nil)))))) (mv 3) (by intro _ _; rfl))))))
theorem sc__law_channel : FnScope n__law_channel ["box", "name", "ports"] (defScope s__law_channel) := ⟨rfl, rfl, rfl, by decide +kernel, rfl, by decide +kernel, by decide +kernel⟩
theorem w__law_channel {s__law_take : Sp} {s__law_number : Sp} (T : Tp K mg) (F__law_take : FnX P w K mg base 1 (fAd K ("_law_take", none)) s__law_take) (F__law_number : FnX P w K mg base 2 (fAd K ("_law_number", none)) s__law_number) {sp : Sp} (len : ∀ vs H Q E, sp vs H Q E → vs.length = 3)
    (rd : ∀ vs H Q E, sp vs H Q E → t__law_channel K s__law_take s__law_number E { nx := fun _ H' => Q .non H', rt := Q } (start n__law_channel vs) H) : FnX P w K mg base 3 (fAd K ("_law_channel", none)) sp := by
  obtain ⟨fd, FD⟩ := T.c.def_ 54 (d := d__law_channel)
  refine fnx (k := 2) FD sc__law_channel (fun _ _ _ _ _ _ us hl => match us, hl with | [_, _, _], _ => rfl) len fun cdv A outer s H vs Q E hr hsp => ⟨t__law_channel K s__law_take s__law_number E, ?_, rd vs H Q E hsp⟩
  have hu := hr.r.units
  exact (pss_cons (ps_set sc__law_channel.nd rfl (.inl rfl) (px_call F__law_take (T.glo 51) hr (by decide) take_def rfl (pa_cons (mv 0) (pa_cons (pe_callB cm_len rfl (T.free 4) b_len (pa_cons (mv 2) pa_nil)) pa_nil))))
  (pss_cons (ps_set sc__law_channel.nd rfl (.inl rfl) (pe_op om_mod (pe_op om_add (pe_op om_add (mv 3) pe_int) (px_call F__law_take (T.glo 51) hr (by decide) take_def rfl (pa_cons (mv 0) (pa_cons (pe_op om_sub (pe_callB cm_len rfl (T.free 4) b_len (pa_cons (mv 2) pa_nil)) pe_int) pa_nil)))) (pe_callB cm_len rfl (T.free 4) b_len (pa_cons (mv 2) pa_nil))))
  (pss_cons (ps_set sc__law_channel.nd rfl (.inl rfl) (px_call F__law_number (T.glo 53) hr (by decide) take_def rfl (pa_cons (mv 0) (pa_cons pe_int (pa_cons (pe_op om_pow pe_int pe_int) pa_nil)))))
  (pss_cons (ps_set sc__law_channel.nd rfl (.inl rfl) (pe_tup (pa_cons (mv 1) (pa_cons (pe_ix im_ix (mv 2) (mv 3) (by intro _ _; rfl)) (pa_cons (pe_ix im_ix (mv 2) (mv 4) (by intro _ _; rfl)) (pa_cons (px_call F__law_number (T.glo 53) hr (by decide) take_def rfl (pa_cons (mv 0) (pa_cons pe_int (pa_cons pe_int pa_nil)))) (pa_cons (px_call F__law_number (T.glo 53) hr (by decide) take_def rfl (pa_cons (mv 0) (pa_cons pe_int (pa_cons pe_int pa_nil)))) (pa_cons (mv 5) pa_nil))))))))
  (pss_one (ps_ret (pe_op om_add (mv 6) (pe_tup (pa_cons (px_call F__law_number (T.glo 53) hr (by decide) take_def rfl (pa_cons (mv 0) (pa_cons pe_int (pa_cons pe_int pa_nil)))) (pa_cons (px_call F__law_number (T.glo 53) hr (by decide) take_def rfl (pa_cons (mv 0) (pa_cons (mv 5) (pa_cons (pe_op om_pow pe_int pe_int) pa_nil)))) pa_nil))))))))))
theorem sc__law_breaker : FnScope n__law_breaker ["box", "name", "ports"] (defScope s__law_breaker) := ⟨rfl, rfl, rfl, by decide +kernel, rfl, by decide +kernel, by decide +kernel⟩
theorem w__law_breaker {s__law_number : Sp} {s__law_take : Sp} (T : Tp K mg) (F__law_number : FnX P w K mg base 2 (fAd K ("_law_number", none)) s__law_number) (F__law_take : FnX P w K mg base 1 (fAd K ("_law_take", none)) s__law_take) {sp : Sp} (len : ∀ vs H Q E, sp vs H Q E → vs.length = 3)
    (rd : ∀ vs H Q E, sp vs H Q E → t__law_breaker K s__law_number s__law_take E { nx := fun _ H' => Q .non H', rt := Q } (start n__law_breaker vs) H) : FnX P w K mg base 3 (fAd K ("_law_breaker", none)) sp := by
  obtain ⟨fd, FD⟩ := T.c.def_ 55 (d := d__law_breaker)
  refine fnx (k := 2) FD sc__law_breaker (fun _ _ _ _ _ _ us hl => match us, hl with | [_, _, _], _ => rfl) len fun cdv A outer s H vs Q E hr hsp => ⟨t__law_breaker K s__law_number s__law_take E, ?_, rd vs H Q E hsp⟩
  have hu := hr.r.units
  exact (pss_cons (ps_set sc__law_breaker.nd rfl (.inl rfl) (pe_tup (pa_cons (mv 1) (pa_cons (pe_ix im_ix (mv 2) (px_call F__law_take (T.glo 51) hr (by decide) take_def rfl (pa_cons (mv 0) (pa_cons (pe_callB cm_len rfl (T.free 4) b_len (pa_cons (mv 2) pa_nil)) pa_nil))) (by intro _ _; rfl)) (pa_cons (px_call F__law_number (T.glo 53) hr (by decide) take_def rfl (pa_cons (mv 0) (pa_cons pe_int (pa_cons (pe_op om_pow pe_int pe_int) pa_nil)))) (pa_cons (px_call F__law_number (T.glo 53) hr (by decide) take_def rfl (pa_cons (mv 0) (pa_cons pe_int (pa_cons (pe_op om_pow pe_int pe_int) pa_nil)))) pa_nil))))))
  (pss_one (ps_ret (pe_op om_add (mv 3) (pe_tup (pa_cons (px_call F__law_number (T.glo 53) hr (by decide) take_def rfl (pa_cons (mv 0) (pa_cons pe_int (pa_cons pe_int pa_nil)))) (pa_cons (px_call F__law_number (T.glo 53) hr (by decide) take_def rfl (pa_cons (mv 0) (pa_cons pe_int (pa_cons (pe_op om_pow pe_int pe_int) pa_nil)))) pa_nil)))))))
theorem sc__law_ship : FnScope n__law_ship ["box", "name", "ports"] (defScope s__law_ship) := ⟨rfl, rfl, rfl, by decide +kernel, rfl, by decide +kernel, by decide +kernel⟩
theorem w__law_ship {s__law_take : Sp} {s__law_number : Sp} (T : Tp K mg) (F__law_take : FnX P w K mg base 1 (fAd K ("_law_take", none)) s__law_take) (F__law_number : FnX P w K mg base 2 (fAd K ("_law_number", none)) s__law_number) {sp : Sp} (len : ∀ vs H Q E, sp vs H Q E → vs.length = 3)
    (rd : ∀ vs H Q E, sp vs H Q E → t__law_ship K s__law_take s__law_number E { nx := fun _ H' => Q .non H', rt := Q } (start n__law_ship vs) H) : FnX P w K mg base 3 (fAd K ("_law_ship", none)) sp := by
  obtain ⟨fd, FD⟩ := T.c.def_ 56 (d := d__law_ship)
  refine fnx (k := 2) FD sc__law_ship (fun _ _ _ _ _ _ us hl => match us, hl with | [_, _, _], _ => rfl) len fun cdv A outer s H vs Q E hr hsp => ⟨t__law_ship K s__law_take s__law_number E, ?_, rd vs H Q E hsp⟩
  have hu := hr.r.units
  exact (pss_cons (ps_set sc__law_ship.nd rfl (.inl rfl) (pe_tup (pa_cons (mv 1) (pa_cons (pe_ix im_ix (mv 2) (px_call F__law_take (T.glo 51) hr (by decide) take_def rfl (pa_cons (mv 0) (pa_cons (pe_callB cm_len rfl (T.free 4) b_len (pa_cons (mv 2) pa_nil)) pa_nil))) (by intro _ _; rfl)) (pa_cons (pe_ix im_ix (mv 2) (px_call F__law_take (T.glo 51) hr (by decide) take_def rfl (pa_cons (mv 0) (pa_cons (pe_callB cm_len rfl (T.free 4) b_len (pa_cons (mv 2) pa_nil)) pa_nil))) (by intro _ _; rfl)) pa_nil)))))
  (pss_cons (ps_set sc__law_ship.nd rfl (.inl rfl) (pe_op om_add (mv 3) (pe_tup (pa_cons (px_call F__law_number (T.glo 53) hr (by decide) take_def rfl (pa_cons (mv 0) (pa_cons pe_int (pa_cons (pe_op om_pow pe_int pe_int) pa_nil)))) (pa_cons (px_call F__law_number (T.glo 53) hr (by decide) take_def rfl (pa_cons (mv 0) (pa_cons pe_int (pa_cons (pe_op om_pow pe_int pe_int) pa_nil)))) pa_nil)))))
  (pss_one (ps_ret (pe_op om_add (mv 3) (pe_tup (pa_cons (px_call F__law_number (T.glo 53) hr (by decide) take_def rfl (pa_cons (mv 0) (pa_cons pe_int (pa_cons pe_int pa_nil)))) pa_nil)))))))
theorem sc__law_world : FnScope n__law_world ["box", "sizes"] (defScope s__law_world) := ⟨rfl, rfl, rfl, by decide +kernel, rfl, by decide +kernel, by decide +kernel⟩
theorem w__law_world {s__law_names : Sp} {s__law_channel : Sp} {s__law_breaker : Sp} {s__law_ship : Sp} {s__law_number : Sp} (T : Tp K mg) (F__law_names : FnX P w K mg base 2 (fAd K ("_law_names", none)) s__law_names) (F__law_channel : FnX P w K mg base 3 (fAd K ("_law_channel", none)) s__law_channel) (F__law_breaker : FnX P w K mg base 3 (fAd K ("_law_breaker", none)) s__law_breaker) (F__law_ship : FnX P w K mg base 3 (fAd K ("_law_ship", none)) s__law_ship) (F__law_number : FnX P w K mg base 2 (fAd K ("_law_number", none)) s__law_number) {sp : Sp} (len : ∀ vs H Q E, sp vs H Q E → vs.length = 2)
    (rd : ∀ vs H Q E, sp vs H Q E → t__law_world K s__law_names s__law_channel s__law_breaker s__law_ship s__law_number E { nx := fun _ H' => Q .non H', rt := Q } (start n__law_world vs) H) : FnX P w K mg base 4 (fAd K ("_law_world", none)) sp := by
  obtain ⟨fd, FD⟩ := T.c.def_ 57 (d := d__law_world)
  refine fnx (k := 3) FD sc__law_world (fun _ _ _ _ _ _ us hl => match us, hl with | [_, _], _ => rfl) len fun cdv A outer s H vs Q E hr hsp => ⟨t__law_world K s__law_names s__law_channel s__law_breaker s__law_ship s__law_number E, ?_, rd vs H Q E hsp⟩
  have hu := hr.r.units
  exact (pss_cons (ps_set sc__law_world.nd rfl (.inr rfl) (px_call F__law_names (T.glo 54) hr (by decide) take_def rfl (pa_cons (mv 0) (pa_cons (pe_ix im_ix (mv 1) pe_int (by intro _ _; rfl)) pa_nil))))
  (pss_cons (ps_set sc__law_world.nd rfl (.inl rfl) (px_call F__law_names (T.glo 54) hr (by decide) take_def rfl (pa_cons (mv 0) (pa_cons (pe_op om_mul (pe_ix im_ix (mv 1) pe_int (by intro _ _; rfl)) (pe_callTy cm_int rfl (T.free 2) b_int (pa_cons (pe_cmpR om_gt (pe_ix im_ix (mv 1) pe_int (by intro _ _; rfl)) pe_int (nomark _)) pa_nil))) pa_nil))))
  (pss_cons (ps_set sc__law_world.nd rfl (.inl rfl) (px_call F__law_names (T.glo 54) hr (by decide) take_def rfl (pa_cons (mv 0) (pa_cons (pe_op om_add (pe_ix im_ix (mv 1) pe_int (by intro _ _; rfl)) (pe_ix im_ix (mv 1) pe_int (by intro _ _; rfl))) pa_nil))))
  (pss_cons (ps_set sc__law_world.nd rfl (.inl rfl) (pe_callTy cm_tuple rfl (T.free 23) b_tuple (pa_cons (pe_lc (own := [("name", 8)]) rfl sc__law_world.nd (pi_seq (mv 3)) (blk_ok (by kernel_rfl)) (fun _ _ _ _ _ => (pg_name sc__law_world.nd rfl (.inl rfl))) (fun _ _ _ _ _ => pts_nil) (fun _ _ _ _ _ => (px_call F__law_channel (T.glo 55) hr (by decide) takes0 rfl (pa_cons (mv 0) (pa_cons (mv 8) (pa_cons (mv 2) pa_nil)))))) pa_nil)))
  (pss_cons (ps_set sc__law_world.nd rfl (.inl rfl) (pe_callTy cm_tuple rfl (T.free 23) b_tuple (pa_cons (pe_lc (own := [("name", 8)]) rfl sc__law_world.nd (pi_seq (pe_slice sm_sl (mv 4) po_none (po_some (pe_ix im_ix (mv 1) pe_int (by intro _ _; rfl))))) (blk_ok (by kernel_rfl)) (fun _ _ _ _ _ => (pg_name sc__law_world.nd rfl (.inl rfl))) (fun _ _ _ _ _ => pts_nil) (fun _ _ _ _ _ => (px_call F__law_breaker (T.glo 56) hr (by decide) takes0 rfl (pa_cons (mv 0) (pa_cons (mv 8) (pa_cons (mv 2) pa_nil)))))) pa_nil)))
  (pss_cons (ps_set sc__law_world.nd rfl (.inl rfl) (pe_callTy cm_tuple rfl (T.free 23) b_tuple (pa_cons (pe_lc (own := [("name", 8)]) rfl sc__law_world.nd (pi_seq (pe_slice sm_sl (mv 4) (po_some (pe_ix im_ix (mv 1) pe_int (by intro _ _; rfl))) po_none)) (blk_ok (by kernel_rfl)) (fun _ _ _ _ _ => (pg_name sc__law_world.nd rfl (.inl rfl))) (fun _ _ _ _ _ => pts_nil) (fun _ _ _ _ _ => (px_call F__law_ship (T.glo 57) hr (by decide) takes0 rfl (pa_cons (mv 0) (pa_cons (mv 8) (pa_cons (mv 2) pa_nil)))))) pa_nil)))
  (pss_one (ps_ret (pe_tup (pa_cons (px_call F__law_number (T.glo 53) hr (by decide) take_def rfl (pa_cons (mv 0) (pa_cons pe_int (pa_cons (pe_op om_pow pe_int pe_int) pa_nil)))) (pa_cons (pe_callTy cm_tuple rfl (T.free 23) b_tuple (pa_cons (mv 2) pa_nil)) (pa_cons (mv 5) (pa_cons (mv 6) (pa_cons (mv 7) pa_nil))))))))))))))
theorem sc__law_few : FnScope n__law_few ["box"] (defScope s__law_few) := ⟨rfl, rfl, rfl, by decide +kernel, rfl, by decide +kernel, by decide +kernel⟩
theorem w__law_few {s__law_take : Sp} (T : Tp K mg) (F__law_take : FnX P w K mg base 1 (fAd K ("_law_take", none)) s__law_take) {sp : Sp} (len : ∀ vs H Q E, sp vs H Q E → vs.length = 1)
    (rd : ∀ vs H Q E, sp vs H Q E → t__law_few K s__law_take E { nx := fun _ H' => Q .non H', rt := Q } (start n__law_few vs) H) : FnX P w K mg base 2 (fAd K ("_law_few", none)) sp := by
  obtain ⟨fd, FD⟩ := T.c.def_ 58 (d := d__law_few)
  refine fnx (k := 1) FD sc__law_few (fun _ _ _ _ _ _ us hl => match us, hl with | [_], _ => rfl) len fun cdv A outer s H vs Q E hr hsp => ⟨t__law_few K s__law_take E, ?_, rd vs H Q E hsp⟩
  have hu := hr.r.units
  exact (pss_cons (ps_set sc__law_few.nd rfl (.inl rfl) (px_call F__law_take (T.glo 51) hr (by decide) take_def rfl (pa_cons (mv 0) (pa_cons pe_int pa_nil))))
  (pss_cons (ps_set sc__law_few.nd rfl (.inl rfl) (pe_lst (pa_cons (pe_op om_add pe_int (px_call F__law_take (T.glo 51) hr (by decide) take_def rfl (pa_cons (mv 0) (pa_cons pe_int pa_nil)))) (pa_cons (px_call F__law_take (T.glo 51) hr (by decide) take_def rfl (pa_cons (mv 0) (pa_cons pe_int pa_nil))) (pa_cons (px_call F__law_take (T.glo 51) hr (by decide) take_def rfl (pa_cons (mv 0) (pa_cons pe_int pa_nil))) (pa_cons (px_call F__law_take (T.glo 51) hr (by decide) take_def rfl (pa_cons (mv 0) (pa_cons pe_int pa_nil))) pa_nil))))))
  (pss_one (ps_ret (pe_ix im_ix (pe_lst (pa_cons (pe_lst (pa_cons pe_int (pa_cons pe_int (pa_cons pe_int (pa_cons pe_int pa_nil))))) (pa_cons (pe_lst (pa_cons pe_int (pa_cons pe_int (pa_cons pe_int (pa_cons pe_int pa_nil))))) (pa_cons (mv 2) (pa_cons (mv 2) (pa_cons (mv 2) (pa_cons (mv 2) pa_nil))))))) (mv 1) (by intro _ _; rfl))))))
theorem sc__law_made : FnScope n__law_made ["world"] (defScope s__law_made) := ⟨rfl, rfl, rfl, by decide +kernel, rfl, by decide +kernel, by decide +kernel⟩
theorem w__law_made {s_Channel___init__ : Sp} {s_Breaker___init__ : Sp} {s_Ship___init__ : Sp} {s_World___init__ : Sp} (T : Tp K mg) (F_Channel___init__ : FnX P w K mg base 4 (fAd K ("Channel", some "__init__")) s_Channel___init__) (F_Breaker___init__ : FnX P w K mg base 5 (fAd K ("Breaker", some "__init__")) s_Breaker___init__) (F_Ship___init__ : FnX P w K mg base 5 (fAd K ("Ship", some "__init__")) s_Ship___init__) (F_World___init__ : FnX P w K mg base 4 (fAd K ("World", some "__init__")) s_World___init__) {sp : Sp} (len : ∀ vs H Q E, sp vs H Q E → vs.length = 1)
    (rd : ∀ vs H Q E, sp vs H Q E → t__law_made K s_Channel___init__ s_Breaker___init__ s_Ship___init__ s_World___init__ E { nx := fun _ H' => Q .non H', rt := Q } (start n__law_made vs) H) : FnX P w K mg base 7 (fAd K ("_law_made", none)) sp := by
  obtain ⟨fd, FD⟩ := T.c.def_ 59 (d := d__law_made)
  refine fnx (k := 6) FD sc__law_made (fun _ _ _ _ _ _ us hl => match us, hl with | [_], _ => rfl) len fun cdv A outer s H vs Q E hr hsp => ⟨t__law_made K s_Channel___init__ s_Breaker___init__ s_Ship___init__ s_World___init__ E, ?_, rd vs H Q E hsp⟩
  have hu := hr.r.units
  exact (pss_cons (ps_setLc (own := [("a", 4), ("b", 5), ("c", 6), ("d", 7), ("e", 8), ("f", 9), ("g", 10), ("h", 11)]) rfl sc__law_made.nd rfl rfl rfl (pi_seq (pe_ix im_ix (mv 0) pe_int (by intro _ _; rfl))) (blk_ok (by kernel_rfl)) (fun _ _ _ _ _ => (pg_tup rfl (pgs_cons (pg_name sc__law_made.nd rfl (.inl rfl)) (pgs_cons (pg_name sc__law_made.nd rfl (.inl rfl)) (pgs_cons (pg_name sc__law_made.nd rfl (.inl rfl)) (pgs_cons (pg_name sc__law_made.nd rfl (.inl rfl)) (pgs_cons (pg_name sc__law_made.nd rfl (.inl rfl)) (pgs_cons (pg_name sc__law_made.nd rfl (.inl rfl)) (pgs_cons (pg_name sc__law_made.nd rfl (.inl rfl)) (pgs_cons (pg_name sc__law_made.nd rfl (.inl rfl)) pgs_nil)))))))))) (fun _ _ _ _ _ => pts_nil) (fun _ _ _ _ _ => (px_make (T.mkr 40) F_Channel___init__ (T.glo 27) hr (by decide) takes0 rfl (pa_cons (mv 4) (pa_cons (mv 5) (pa_cons (mv 6) (pa_cons (mv 7) (pa_cons (mv 8) (pa_cons (mv 9) (pa_cons (mv 10) (pa_cons (mv 11) pa_nil)))))))))))
  (pss_cons (ps_set sc__law_made.nd rfl (.inl rfl) (pe_callTy cm_tuple rfl (T.free 23) b_tuple (pa_cons (pe_lc (own := [("a", 4), ("b", 5), ("c", 6), ("d", 7), ("e", 8), ("f", 9)]) rfl sc__law_made.nd (pi_seq (pe_ix im_ix (mv 0) pe_int (by intro _ _; rfl))) (blk_ok (by kernel_rfl)) (fun _ _ _ _ _ => (pg_tup rfl (pgs_cons (pg_name sc__law_made.nd rfl (.inl rfl)) (pgs_cons (pg_name sc__law_made.nd rfl (.inl rfl)) (pgs_cons (pg_name sc__law_made.nd rfl (.inl rfl)) (pgs_cons (pg_name sc__law_made.nd rfl (.inl rfl)) (pgs_cons (pg_name sc__law_made.nd rfl (.inl rfl)) (pgs_cons (pg_name sc__law_made.nd rfl (.inl rfl)) pgs_nil)))))))) (fun _ _ _ _ _ => pts_nil) (fun _ _ _ _ _ => (px_make (T.mkr 41) F_Breaker___init__ (T.glo 29) hr (by decide) takes0 rfl (pa_cons (mv 4) (pa_cons (mv 5) (pa_cons (mv 6) (pa_cons (mv 7) (pa_cons (mv 8) (pa_cons (mv 9) pa_nil))))))))) pa_nil)))
  (pss_cons (ps_setLc (own := [("a", 4), ("b", 5), ("c", 6), ("d", 7), ("e", 8), ("f", 9)]) rfl sc__law_made.nd rfl rfl rfl (pi_seq (pe_ix im_ix (mv 0) pe_int (by intro _ _; rfl))) (blk_ok (by kernel_rfl)) (fun _ _ _ _ _ => (pg_tup rfl (pgs_cons (pg_name sc__law_made.nd rfl (.inl rfl)) (pgs_cons (pg_name sc__law_made.nd rfl (.inl rfl)) (pgs_cons (pg_name sc__law_made.nd rfl (.inl rfl)) (pgs_cons (pg_name sc__law_made.nd rfl (.inl rfl)) (pgs_cons (pg_name sc__law_made.nd rfl (.inl rfl)) (pgs_cons (pg_name sc__law_made.nd rfl (.inl rfl)) pgs_nil)))))))) (fun _ _ _ _ _ => pts_nil) (fun _ _ _ _ _ => (px_make (T.mkr 42) F_Ship___init__ (T.glo 31) hr (by decide) takes0 rfl (pa_cons (mv 4) (pa_cons (mv 5) (pa_cons (mv 6) (pa_cons (mv 7) (pa_cons (mv 8) (pa_cons (mv 9) pa_nil)))))))))
  (pss_one (ps_ret (px_make (T.mkr 45) F_World___init__ (T.glo 44) hr (by decide) take_def rfl (pa_cons (pe_ix im_ix (mv 0) pe_int (by intro _ _; rfl)) (pa_cons (pe_callTy cm_list rfl (T.free 22) b_list (pa_cons (pe_ix im_ix (mv 0) pe_int (by intro _ _; rfl)) pa_nil)) (pa_cons (mv 1) (pa_cons (mv 2) (pa_cons (mv 3) pa_nil)))))))))))
theorem sc__law_turned_due : FnScope n__law_turned_due ["world"] (defScope s__law_turned_due) := ⟨rfl, rfl, rfl, by decide +kernel, rfl, by decide +kernel, by decide +kernel⟩
theorem w__law_turned_due  (T : Tp K mg)  {sp : Sp} (len : ∀ vs H Q E, sp vs H Q E → vs.length = 1)
    (rd : ∀ vs H Q E, sp vs H Q E → t__law_turned_due K  E { nx := fun _ H' => Q .non H', rt := Q } (start n__law_turned_due vs) H) : FnX P w K mg base 1 (fAd K ("_law_turned_due", none)) sp := by
  obtain ⟨fd, FD⟩ := T.c.def_ 60 (d := d__law_turned_due)
  refine fnx (k := 0) FD sc__law_turned_due (fun _ _ _ _ _ _ us hl => match us, hl with | [_], _ => rfl) len fun cdv A outer s H vs Q E hr hsp => ⟨t__law_turned_due K  E, ?_, rd vs H Q E hsp⟩
  have hu := hr.r.units
  exact (pss_cons (ps_set sc__law_turned_due.nd rfl (.inl rfl) (pe_callTy cm_tuple rfl (T.free 23) b_tuple (pa_cons (pe_lc (own := [("row", 2)]) rfl sc__law_turned_due.nd (pi_seq (pe_ix im_ix (mv 0) pe_int (by intro _ _; rfl))) (blk_ok (by kernel_rfl)) (fun _ _ _ _ _ => (pg_name sc__law_turned_due.nd rfl (.inl rfl))) (fun _ _ _ _ _ => pts_nil) (fun _ _ _ _ _ => (pe_op om_add (pe_op om_add (pe_slice sm_sl (mv 2) po_none (po_some pe_int)) (pe_tup (pa_cons (pe_ix im_ix (mv 2) pe_int (by intro _ _; rfl)) (pa_cons (pe_ix im_ix (mv 2) pe_int (by intro _ _; rfl)) pa_nil)))) (pe_slice sm_sl (mv 2) (po_some pe_int) po_none)))) pa_nil)))
  (pss_one (ps_ret (pe_op om_add (pe_op om_add (pe_slice sm_sl (mv 0) po_none (po_some pe_int)) (pe_tup (pa_cons (mv 1) pa_nil))) (pe_slice sm_sl (mv 0) (po_some pe_int) po_none)))))
theorem sc__law_ship_due : FnScope n__law_ship_due ["world", "row"] (defScope s__law_ship_due) := ⟨rfl, rfl, rfl, by decide +kernel, rfl, by decide +kernel, by decide +kernel⟩
theorem w__law_ship_due  (T : Tp K mg)  {sp : Sp} (len : ∀ vs H Q E, sp vs H Q E → vs.length = 2)
    (rd : ∀ vs H Q E, sp vs H Q E → t__law_ship_due K  E { nx := fun _ H' => Q .non H', rt := Q } (start n__law_ship_due vs) H) : FnX P w K mg base 1 (fAd K ("_law_ship_due", none)) sp := by
  obtain ⟨fd, FD⟩ := T.c.def_ 61 (d := d__law_ship_due)
  refine fnx (k := 0) FD sc__law_ship_due (fun _ _ _ _ _ _ us hl => match us, hl with | [_, _], _ => rfl) len fun cdv A outer s H vs Q E hr hsp => ⟨t__law_ship_due K  E, ?_, rd vs H Q E hsp⟩
  have hu := hr.r.units
  exact (pss_cons (ps_if (pt_cmpR om_gt (pe_callB cm_len rfl (T.free 4) b_len (pa_cons (pe_ix im_ix (mv 0) pe_int (by intro _ _; rfl)) pa_nil)) pe_int (nomark _)) (pss_one (ps_ret (pe_tup (pa_cons pe_str (pa_cons pe_str pa_nil))))) pss_nil)
  (pss_cons (ps_if (pt_cmpR (om_in hu) (pe_ix im_ix (mv 1) pe_int (by intro _ _; rfl)) (pe_lc (own := [("one", 3)]) rfl sc__law_ship_due.nd (pi_seq (pe_op om_add (pe_ix im_ix (mv 0) pe_int (by intro _ _; rfl)) (pe_ix im_ix (mv 0) pe_int (by intro _ _; rfl)))) (blk_ok (by kernel_rfl)) (fun _ _ _ _ _ => (pg_name sc__law_ship_due.nd rfl (.inl rfl))) (fun _ _ _ _ _ => pts_nil) (fun _ _ _ _ _ => (pe_ix im_ix (mv 3) pe_int (by intro _ _; rfl)))) (by with_unfolding_all rfl)) (pss_one (ps_ret (pe_tup (pa_cons pe_str (pa_cons (pe_ix im_ix (mv 1) pe_int (by intro _ _; rfl)) pa_nil))))) pss_nil)
  (pss_cons (ps_for pass_def rfl (pi_seq (pe_slice sm_sl (mv 1) (po_some pe_int) (po_some pe_int))) (pg_name sc__law_ship_due.nd rfl (.inl rfl)) (pss_one (ps_if (pt_cmpR (om_notIn hu) (mv 2) (pe_ix im_ix (mv 0) pe_int (by intro _ _; rfl)) (by with_unfolding_all rfl)) (pss_one (ps_ret (pe_tup (pa_cons pe_str (pa_cons (mv 2) pa_nil))))) pss_nil)))
  (pss_one (ps_ret (pe_tup (pa_cons pe_str (pa_cons (pe_op om_add (pe_slice sm_sl (mv 0) po_none (po_some pe_int)) (pe_tup (pa_cons (pe_op om_add (pe_ix im_ix (mv 0) pe_int (by intro _ _; rfl)) (pe_tup (pa_cons (mv 1) pa_nil))) pa_nil))) pa_nil))))))))
theorem sc__law_with : FnScope n__law_with ["made", "row"] (defScope s__law_with) := ⟨rfl, rfl, rfl, by decide +kernel, rfl, by decide +kernel, by decide +kernel⟩
theorem w__law_with {s_with_ship : Sp} {s_Ship___init__ : Sp} {ok_told : Addr → Sp → Prop} (T : Tp K mg) (F_with_ship : FnX P w K mg base 6 (fAd K ("with_ship", none)) s_with_ship) (F_Ship___init__ : FnX P w K mg base 5 (fAd K ("Ship", some "__init__")) s_Ship___init__) (F_told : ∀ C sp, ok_told C sp → MetX P w K mg base 3 "told" C sp) {sp : Sp} (len : ∀ vs H Q E, sp vs H Q E → vs.length = 2)
    (rd : ∀ vs H Q E, sp vs H Q E → t__law_with K s_with_ship s_Ship___init__ ok_told E { nx := fun _ H' => Q .non H', rt := Q } (start n__law_with vs) H) : FnX P w K mg base 7 (fAd K ("_law_with", none)) sp := by
  obtain ⟨fd, FD⟩ := T.c.def_ 62 (d := d__law_with)
  refine fnx (k := 6) FD sc__law_with (fun _ _ _ _ _ _ us hl => match us, hl with | [_, _], _ => rfl) len fun cdv A outer s H vs Q E hr hsp => ⟨t__law_with K s_with_ship s_Ship___init__ ok_told E, ?_, rd vs H Q E hsp⟩
  have hu := hr.r.units
  exact (pss_cons (ps_set sc__law_with.nd rfl (.inl rfl) (pe_tup (pa_cons pe_str pa_nil)))
  (pss_cons (px_try rfl rfl take_def (fun W pn xe tk hp => (pss_one (ps_set sc__law_with.nd rfl (.inl rfl) (pe_tup (pa_cons pe_str (pa_cons (px_meth0 (px_call F_with_ship (T.glo 58) hr (by decide) tk rfl (pa_cons (mv 0) (pa_cons (px_make (T.mkr 42) F_Ship___init__ (T.glo 31) hr (by decide) tk rfl (pa_cons (pe_ix im_ix (mv 1) pe_int (by intro _ _; rfl)) (pa_cons (pe_ix im_ix (mv 1) pe_int (by intro _ _; rfl)) (pa_cons (pe_ix im_ix (mv 1) pe_int (by intro _ _; rfl)) (pa_cons (pe_ix im_ix (mv 1) pe_int (by intro _ _; rfl)) (pa_cons (pe_ix im_ix (mv 1) pe_int (by intro _ _; rfl)) (pa_cons (pe_ix im_ix (mv 1) pe_int (by intro _ _; rfl)) pa_nil))))))) pa_nil))) F_told hr (by decide) tk) pa_nil)))))) (.named sc__law_with.nd rfl rfl ⟨rfl, rfl, .inl (T.glo 26)⟩ (fun a oe cls d pn hz hf => (pss_one (ps_set sc__law_with.nd rfl (.inl rfl) (pe_tup (pa_cons pe_str (pa_cons (pe_xf (T.oex 6).xf (T.oex 6).no hz hf (mv 3)) pa_nil)))))) (.named sc__law_with.nd rfl rfl ⟨rfl, rfl, .inl (T.glo 14)⟩ (fun a oe cls d pn hz hf => (pss_one (ps_set sc__law_with.nd rfl (.inl rfl) (pe_tup (pa_cons pe_str (pa_cons (pe_xf (T.oex 2).xf (T.oex 2).no hz hf (mv 3)) pa_nil)))))) (.named sc__law_with.nd rfl rfl ⟨rfl, rfl, .inl (T.glo 33)⟩ (fun a oe cls d pn hz hf => (pss_one (ps_set sc__law_with.nd rfl (.inl rfl) (pe_tup (pa_cons pe_str (pa_cons (pe_xf (T.oex 7).xf (T.oex 7).no hz hf (mv 3)) pa_nil)))))) (.bare ⟨rfl, rfl, .inl (T.glo 59)⟩ (fun a oe cls d pn hz hf => (pss_one (ps_set sc__law_with.nd rfl (.inl rfl) (pe_tup (pa_cons pe_str pa_nil))))) .nil)))))
  (pss_one (ps_ret (mv 2)))))
theorem sc__law_without_due : FnScope n__law_without_due ["world", "name"] (defScope s__law_without_due) := ⟨rfl, rfl, rfl, by decide +kernel, rfl, by decide +kernel, by decide +kernel⟩
theorem w__law_without_due  (T : Tp K mg)  {sp : Sp} (len : ∀ vs H Q E, sp vs H Q E → vs.length = 2)
    (rd : ∀ vs H Q E, sp vs H Q E → t__law_without_due K  E { nx := fun _ H' => Q .non H', rt := Q } (start n__law_without_due vs) H) : FnX P w K mg base 1 (fAd K ("_law_without_due", none)) sp := by
  obtain ⟨fd, FD⟩ := T.c.def_ 63 (d := d__law_without_due)
  refine fnx (k := 0) FD sc__law_without_due (fun _ _ _ _ _ _ us hl => match us, hl with | [_, _], _ => rfl) len fun cdv A outer s H vs Q E hr hsp => ⟨t__law_without_due K  E, ?_, rd vs H Q E hsp⟩
  have hu := hr.r.units
  exact (pss_cons (ps_setLc (own := [("some", 3)]) rfl sc__law_without_due.nd rfl rfl rfl (pi_seq (pe_slice sm_sl (mv 0) (po_some pe_int) po_none)) (blk_ok (by kernel_rfl)) (fun _ _ _ _ _ => (pg_name sc__law_without_due.nd rfl (.inl rfl))) (fun _ _ _ _ _ => pts_nil) (fun _ _ _ _ _ => (pe_callTy cm_tuple rfl (T.free 23) b_tuple (pa_cons (pe_lc (own := [("row", 4)]) rfl sc__law_without_due.nd (pi_seq (mv 3)) (blk_ok (by kernel_rfl)) (fun _ _ _ _ _ => (pg_name sc__law_without_due.nd rfl (.inl rfl))) (fun _ _ _ _ _ => (pts_one (pt_cmpR (om_ne hu) (pe_ix im_ix (mv 4) pe_int (by intro _ _; rfl)) (mv 1) (nomark _)))) (fun _ _ _ _ _ => (mv 4))) pa_nil))))
  (pss_one (ps_ret (pe_op om_add (pe_slice sm_sl (mv 0) po_none (po_some pe_int)) (pe_tup (pa_cons (pe_ix im_ix (mv 2) pe_int (by intro _ _; rfl)) (pa_cons (pe_ix im_ix (mv 2) pe_int (by intro _ _; rfl)) pa_nil)))))))
theorem sc__law_same_things : FnScope n__law_same_things ["one", "other"] (defScope s__law_same_things) := ⟨rfl, rfl, rfl, by decide +kernel, rfl, by decide +kernel, by decide +kernel⟩
theorem w__law_same_things {ok_vessels : Addr → Sp → Prop} {ok_channels : Addr → Sp → Prop} (T : Tp K mg) (F_vessels : ∀ C sp, ok_vessels C sp → MetX P w K mg base 1 "vessels" C sp) (F_channels : ∀ C sp, ok_channels C sp → MetX P w K mg base 1 "channels" C sp) {sp : Sp} (len : ∀ vs H Q E, sp vs H Q E → vs.length = 2)
    (rd : ∀ vs H Q E, sp vs H Q E → t__law_same_things K ok_vessels ok_channels E { nx := fun _ H' => Q .non H', rt := Q } (start n__law_same_things vs) H) : FnX P w K mg base 2 (fAd K ("_law_same_things", none)) sp := by
  obtain ⟨fd, FD⟩ := T.c.def_ 64 (d := d__law_same_things)
  refine fnx (k := 1) FD sc__law_same_things (fun _ _ _ _ _ _ us hl => match us, hl with | [_, _], _ => rfl) len fun cdv A outer s H vs Q E hr hsp => ⟨t__law_same_things K ok_vessels ok_channels E, ?_, rd vs H Q E hsp⟩
  have hu := hr.r.units
  exact (pss_cons (ps_for pass_def rfl (pi_seq (pe_lst (pa_cons (pe_tup (pa_cons (px_meth0 (mv 0) F_channels hr (by decide) take_def) (pa_cons (px_meth0 (mv 1) F_channels hr (by decide) take_def) pa_nil))) (pa_cons (pe_tup (pa_cons (px_meth0 (mv 0) F_vessels hr (by decide) take_def) (pa_cons (px_meth0 (mv 1) F_vessels hr (by decide) take_def) pa_nil))) pa_nil)))) (pg_tup rfl (pgs_cons (pg_name sc__law_same_things.nd rfl (.inl rfl)) (pgs_cons (pg_name sc__law_same_things.nd rfl (.inr rfl)) pgs_nil))) (pss_one (ps_if (pt_cmpR (om_ne hu) (pe_lc (own := [("thing", 4)]) rfl sc__law_same_things.nd (pi_seq (mv 2)) (blk_ok (by kernel_rfl)) (fun _ _ _ _ _ => (pg_name sc__law_same_things.nd rfl (.inl rfl))) (fun _ _ _ _ _ => (pts_one (pt_cmpR (om_notIn hu) (mv 4) (mv 3) (by with_unfolding_all rfl)))) (fun _ _ _ _ _ => (mv 4))) (pe_lst pa_nil) (nomark _)) (pss_one (ps_ret pe_bl)) pss_nil)))
  (pss_one (ps_ret pe_bl)))
theorem sc__law_new_ship : FnScope n__law_new_ship ["box", "world"] (defScope s__law_new_ship) := ⟨rfl, rfl, rfl, by decide +kernel, rfl, by decide +kernel, by decide +kernel⟩
theorem w__law_new_ship {s__law_take : Sp} {s__law_names : Sp} {s__law_ship : Sp} (T : Tp K mg) (F__law_take : FnX P w K mg base 1 (fAd K ("_law_take", none)) s__law_take) (F__law_names : FnX P w K mg base 2 (fAd K ("_law_names", none)) s__law_names) (F__law_ship : FnX P w K mg base 3 (fAd K ("_law_ship", none)) s__law_ship) {sp : Sp} (len : ∀ vs H Q E, sp vs H Q E → vs.length = 2)
    (rd : ∀ vs H Q E, sp vs H Q E → t__law_new_ship K s__law_take s__law_names s__law_ship E { nx := fun _ H' => Q .non H', rt := Q } (start n__law_new_ship vs) H) : FnX P w K mg base 4 (fAd K ("_law_new_ship", none)) sp := by
  obtain ⟨fd, FD⟩ := T.c.def_ 65 (d := d__law_new_ship)
  refine fnx (k := 3) FD sc__law_new_ship (fun _ _ _ _ _ _ us hl => match us, hl with | [_, _], _ => rfl) len fun cdv A outer s H vs Q E hr hsp => ⟨t__law_new_ship K s__law_take s__law_names s__law_ship E, ?_, rd vs H Q E hsp⟩
  have hu := hr.r.units
  exact (pss_cons (ps_par rfl sc__law_new_ship.nd rfl rfl (by decide) rfl rfl (pa_cons (px_call F__law_take (T.glo 51) hr (by decide) take_def rfl (pa_cons (mv 0) (pa_cons pe_int pa_nil))) (pa_cons (px_call F__law_take (T.glo 51) hr (by decide) take_def rfl (pa_cons (mv 0) (pa_cons pe_int pa_nil))) pa_nil)) rfl)
  (pss_cons (ps_setLc (own := [("name", 8)]) rfl sc__law_new_ship.nd rfl rfl rfl (pi_seq (px_call F__law_names (T.glo 54) hr (by decide) take_def rfl (pa_cons (mv 0) (pa_cons pe_int pa_nil)))) (blk_ok (by kernel_rfl)) (fun _ _ _ _ _ => (pg_name sc__law_new_ship.nd rfl (.inl rfl))) (fun _ _ _ _ _ => (pts_one (pt_cmpR (om_notIn hu) (mv 8) (pe_lc (own := [("row", 5)]) rfl sc__law_new_ship.nd (pi_seq (pe_op om_add (pe_ix im_ix (mv 1) pe_int (by intro _ _; rfl)) (pe_ix im_ix (mv 1) pe_int (by intro _ _; rfl)))) (blk_ok (by kernel_rfl)) (fun _ _ _ _ _ => (pg_name sc__law_new_ship.nd rfl (.inl rfl))) (fun _ _ _ _ _ => pts_nil) (fun _ _ _ _ _ => (pe_ix im_ix (mv 5) pe_int (by intro _ _; rfl)))) (by with_unfolding_all rfl)))) (fun _ _ _ _ _ => (mv 8)))
  (pss_cons (ps_set sc__law_new_ship.nd rfl (.inl rfl) (px_call F__law_ship (T.glo 57) hr (by decide) take_def rfl (pa_cons (mv 0) (pa_cons (pe_ix im_ix (mv 4) pe_int (by intro _ _; rfl)) (pa_cons (pe_callTy cm_list rfl (T.free 22) b_list (pa_cons (pe_ix im_ix (mv 1) pe_int (by intro _ _; rfl)) pa_nil)) pa_nil)))))
  (pss_cons (ps_setLc (own := [("one", 9)]) rfl sc__law_new_ship.nd rfl rfl rfl (pi_seq (pe_op om_add (pe_ix im_ix (mv 1) pe_int (by intro _ _; rfl)) (pe_ix im_ix (mv 1) pe_int (by intro _ _; rfl)))) (blk_ok (by kernel_rfl)) (fun _ _ _ _ _ => (pg_name sc__law_new_ship.nd rfl (.inl rfl))) (fun _ _ _ _ _ => pts_nil) (fun _ _ _ _ _ => (pe_ix im_ix (mv 9) pe_int (by intro _ _; rfl))))
  (pss_cons (ps_if (PW.pt (pw_and (pt_cmpR (om_eq hu) (mv 2) pe_int (nomark _)) (pw_and1 (pt_cmpR (om_ne hu) (mv 6) (pe_lst pa_nil) (nomark _))))) (pss_one (ps_set sc__law_new_ship.nd rfl (.inl rfl) (pe_op om_add (pe_tup (pa_cons (pe_ix im_ix (mv 6) (px_call F__law_take (T.glo 51) hr (by decide) take_def rfl (pa_cons (mv 0) (pa_cons (pe_callB cm_len rfl (T.free 4) b_len (pa_cons (mv 6) pa_nil)) pa_nil))) (by intro _ _; rfl)) pa_nil)) (pe_slice sm_sl (mv 5) (po_some pe_int) po_none)))) pss_nil)
  (pss_cons (ps_if (pt_cmpR om_lt (mv 3) pe_int (nomark _)) (pss_cons (ps_setLc (own := [("name", 8)]) rfl sc__law_new_ship.nd rfl rfl rfl (pi_seq (px_call F__law_names (T.glo 54) hr (by decide) take_def rfl (pa_cons (mv 0) (pa_cons pe_int pa_nil)))) (blk_ok (by kernel_rfl)) (fun _ _ _ _ _ => (pg_name sc__law_new_ship.nd rfl (.inl rfl))) (fun _ _ _ _ _ => (pts_one (pt_cmpR (om_notIn hu) (mv 8) (pe_ix im_ix (mv 1) pe_int (by intro _ _; rfl)) (by with_unfolding_all rfl)))) (fun _ _ _ _ _ => (mv 8)))
  (pss_one (ps_set sc__law_new_ship.nd rfl (.inl rfl) (pe_op om_add (pe_op om_add (pe_slice sm_sl (mv 5) po_none (po_some (pe_op om_add pe_int (mv 3)))) (pe_tup (pa_cons (pe_ix im_ix (mv 7) pe_int (by intro _ _; rfl)) pa_nil))) (pe_slice sm_sl (mv 5) (po_some (pe_op om_add pe_int (mv 3))) po_none))))) pss_nil)
  (pss_one (ps_ret (mv 5)))))))))
theorem sc__law_right : FnScope n__law_right ["box", "made", "world"] (defScope s__law_right) := ⟨rfl, rfl, rfl, by decide +kernel, rfl, by decide +kernel, by decide +kernel⟩
theorem w__law_right {s_turned : Sp} {ok_told : Addr → Sp → Prop} {s__law_turned_due : Sp} {s__law_new_ship : Sp} {s__law_ship_due : Sp} {s__law_with : Sp} {s_Ship___init__ : Sp} {s_with_ship : Sp} {ok_vessel : Addr → Sp → Prop} {ok_ships : Addr → Sp → Prop} {s__law_same_things : Sp} {s_without : Sp} {s__law_take : Sp} {s__law_without_due : Sp} (T : Tp K mg) (F_turned : FnX P w K mg base 9 (fAd K ("turned", none)) s_turned) (F_told : ∀ C sp, ok_told C sp → MetX P w K mg base 3 "told" C sp) (F__law_turned_due : FnX P w K mg base 1 (fAd K ("_law_turned_due", none)) s__law_turned_due) (F__law_new_ship : FnX P w K mg base 4 (fAd K ("_law_new_ship", none)) s__law_new_ship) (F__law_ship_due : FnX P w K mg base 1 (fAd K ("_law_ship_due", none)) s__law_ship_due) (F__law_with : FnX P w K mg base 7 (fAd K ("_law_with", none)) s__law_with) (F_Ship___init__ : FnX P w K mg base 5 (fAd K ("Ship", some "__init__")) s_Ship___init__) (F_with_ship : FnX P w K mg base 6 (fAd K ("with_ship", none)) s_with_ship) (F_vessel : ∀ C sp, ok_vessel C sp → MetX P w K mg base 3 "vessel" C sp) (F_ships : ∀ C sp, ok_ships C sp → MetX P w K mg base 1 "ships" C sp) (F__law_same_things : FnX P w K mg base 2 (fAd K ("_law_same_things", none)) s__law_same_things) (F_without : FnX P w K mg base 6 (fAd K ("without", none)) s_without) (F__law_take : FnX P w K mg base 1 (fAd K ("_law_take", none)) s__law_take) (F__law_without_due : FnX P w K mg base 1 (fAd K ("_law_without_due", none)) s__law_without_due) {sp : Sp} (len : ∀ vs H Q E, sp vs H Q E → vs.length = 3)
    (rd : ∀ vs H Q E, sp vs H Q E → t__law_right K s_turned ok_told s__law_turned_due s__law_new_ship s__law_ship_due s__law_with s_Ship___init__ s_with_ship ok_vessel ok_ships s__law_same_things s_without s__law_take s__law_without_due E { nx := fun _ H' => Q .non H', rt := Q } (start n__law_right vs) H) : FnX P w K mg base 10 (fAd K ("_law_right", none)) sp := by
  obtain ⟨fd, FD⟩ := T.c.def_ 66 (d := d__law_right)
  refine fnx (k := 9) FD sc__law_right (fun _ _ _ _ _ _ us hl => match us, hl with | [_, _, _], _ => rfl) len fun cdv A outer s H vs Q E hr hsp => ⟨t__law_right K s_turned ok_told s__law_turned_due s__law_new_ship s__law_ship_due s__law_with s_Ship___init__ s_with_ship ok_vessel ok_ships s__law_same_things s_without s__law_take s__law_without_due E, ?_, rd vs H Q E hsp⟩
  have hu := hr.r.units
  exact (pss_cons (ps_set sc__law_right.nd rfl (.inl rfl) (px_call F_turned (T.glo 60) hr (by decide) take_def rfl (pa_cons (mv 1) pa_nil)))
  (pss_cons (ps_if (PW.pt (pw_or (pt_cmpR (om_ne hu) (pe_callB (call_repr hu hr.gd) rfl (T.free 61) b_repr (pa_cons (px_meth0 (mv 3) F_told hr (by decide) take_def) pa_nil)) (pe_callB (call_repr hu hr.gd) rfl (T.free 61) b_repr (pa_cons (px_call F__law_turned_due (T.glo 62) hr (by decide) take_def rfl (pa_cons (mv 2) pa_nil)) pa_nil)) (nomark _)) (pw_or1 (pt_cmpR (om_ne hu) (pe_callB (call_repr hu hr.gd) rfl (T.free 61) b_repr (pa_cons (px_meth0 (px_call F_turned (T.glo 60) hr (by decide) take_def rfl (pa_cons (mv 3) pa_nil)) F_told hr (by decide) take_def) pa_nil)) (pe_callB (call_repr hu hr.gd) rfl (T.free 61) b_repr (pa_cons (mv 2) pa_nil)) (nomark _))))) (pss_one (ps_ret pe_bl)) pss_nil)
  (pss_cons (ps_set sc__law_right.nd rfl (.inl rfl) (px_call F__law_new_ship (T.glo 63) hr (by decide) take_def rfl (pa_cons (mv 0) (pa_cons (mv 2) pa_nil))))
  (pss_cons (ps_set sc__law_right.nd rfl (.inl rfl) (px_call F__law_ship_due (T.glo 64) hr (by decide) take_def rfl (pa_cons (mv 2) (pa_cons (mv 4) pa_nil))))
  (pss_cons (ps_for pass_def rfl (pi_range1 rfl (T.free 52) (pa_cons pe_int pa_nil)) (pg_name sc__law_right.nd rfl (.inl rfl)) (pss_one (ps_if (pt_cmpR (om_ne hu) (pe_callB (call_repr hu hr.gd) rfl (T.free 61) b_repr (pa_cons (px_call F__law_with (T.glo 65) hr (by decide) take_def rfl (pa_cons (mv 1) (pa_cons (mv 4) pa_nil))) pa_nil)) (pe_callB (call_repr hu hr.gd) rfl (T.free 61) b_repr (pa_cons (mv 5) pa_nil)) (nomark _)) (pss_one (ps_ret pe_bl)) pss_nil)))
  (pss_cons (ps_if (pt_cmpR (om_eq hu) (pe_ix im_ix (mv 5) pe_int (by intro _ _; rfl)) pe_str (nomark _)) (pss_cons (ps_set sc__law_right.nd rfl (.inl rfl) (px_make (T.mkr 42) F_Ship___init__ (T.glo 31) hr (by decide) take_def rfl (pa_cons (pe_ix im_ix (mv 4) pe_int (by intro _ _; rfl)) (pa_cons (pe_ix im_ix (mv 4) pe_int (by intro _ _; rfl)) (pa_cons (pe_ix im_ix (mv 4) pe_int (by intro _ _; rfl)) (pa_cons (pe_ix im_ix (mv 4) pe_int (by intro _ _; rfl)) (pa_cons (pe_ix im_ix (mv 4) pe_int (by intro _ _; rfl)) (pa_cons (pe_ix im_ix (mv 4) pe_int (by intro _ _; rfl)) pa_nil))))))))
  (pss_cons (ps_set sc__law_right.nd rfl (.inl rfl) (px_call F_with_ship (T.glo 58) hr (by decide) take_def rfl (pa_cons (mv 1) (pa_cons (mv 7) pa_nil))))
  (pss_cons (ps_if (PW.pt (pw_or (pt_cmpR (om_ne hu) (pe_ix im_ix (px_meth0 (mv 8) F_ships hr (by decide) take_def) px_neg (by intro _ _; rfl)) (mv 7) (nomark _)) (pw_or1 (pt_cmpR (om_ne hu) (px_meth (mv 8) F_vessel hr (by decide) take_def (pa_cons (pe_ix im_ix (mv 4) pe_int (by intro _ _; rfl)) pa_nil)) (mv 7) (nomark _))))) (pss_one (ps_ret pe_bl)) pss_nil)
  (pss_cons (ps_if (PW.pt (pw_or (pt_cmpR (om_ne hu) (pe_callB (call_repr hu hr.gd) rfl (T.free 61) b_repr (pa_cons (px_meth0 (px_call F_without (T.glo 67) hr (by decide) take_def rfl (pa_cons (mv 8) (pa_cons (pe_ix im_ix (mv 4) pe_int (by intro _ _; rfl)) pa_nil))) F_told hr (by decide) take_def) pa_nil)) (pe_callB (call_repr hu hr.gd) rfl (T.free 61) b_repr (pa_cons (mv 2) pa_nil)) (nomark _)) (pw_or1 (pt_not (pt_val (px_call F__law_same_things (T.glo 66) hr (by decide) take_def rfl (pa_cons (mv 1) (pa_cons (mv 8) pa_nil)))))))) (pss_one (ps_ret pe_bl)) pss_nil)
  (pss_cons (ps_expr (pe_bm0 F.plainAttrs_list F.slot_list_clear F.type_list_clear mt_clear (px_meth0 (mv 8) F_ships hr (by decide) take_def)))
  (pss_one (ps_if (pt_cmpR (om_ne hu) (pe_callB (call_repr hu hr.gd) rfl (T.free 61) b_repr (pa_cons (px_meth0 (mv 8) F_told hr (by decide) take_def) pa_nil)) (pe_callB (call_repr hu hr.gd) rfl (T.free 61) b_repr (pa_cons (pe_ix im_ix (mv 5) pe_int (by intro _ _; rfl)) pa_nil)) (nomark _)) (pss_one (ps_ret pe_bl)) pss_nil))))))) pss_nil)
  (pss_cons (ps_setLc (own := [("one", 12)]) rfl sc__law_right.nd rfl rfl rfl (pi_seq (pe_op om_add (pe_ix im_ix (mv 2) pe_int (by intro _ _; rfl)) (pe_ix im_ix (mv 2) pe_int (by intro _ _; rfl)))) (blk_ok (by kernel_rfl)) (fun _ _ _ _ _ => (pg_name sc__law_right.nd rfl (.inl rfl))) (fun _ _ _ _ _ => pts_nil) (fun _ _ _ _ _ => (pe_ix im_ix (mv 12) pe_int (by intro _ _; rfl))))
  (pss_cons (ps_for pass_def rfl (pi_range1 rfl (T.free 52) (pa_cons (pe_op om_mul pe_int (pe_callTy cm_int rfl (T.free 2) b_int (pa_cons (pe_cmpR (om_ne hu) (mv 9) (pe_lst pa_nil) (nomark _)) pa_nil))) pa_nil)) (pg_name sc__law_right.nd rfl (.inl rfl)) (pss_cons (ps_set sc__law_right.nd rfl (.inl rfl) (pe_ix im_ix (mv 9) (px_call F__law_take (T.glo 51) hr (by decide) take_def rfl (pa_cons (mv 0) (pa_cons (pe_callB cm_len rfl (T.free 4) b_len (pa_cons (mv 9) pa_nil)) pa_nil))) (by intro _ _; rfl)))
  (pss_cons (ps_set sc__law_right.nd rfl (.inl rfl) (px_call F_without (T.glo 67) hr (by decide) take_def rfl (pa_cons (mv 1) (pa_cons (mv 10) pa_nil))))
  (pss_one (ps_if (PW.pt (pw_or (pt_cmpR (om_ne hu) (pe_callB (call_repr hu hr.gd) rfl (T.free 61) b_repr (pa_cons (px_meth0 (mv 11) F_told hr (by decide) take_def) pa_nil)) (pe_callB (call_repr hu hr.gd) rfl (T.free 61) b_repr (pa_cons (px_call F__law_without_due (T.glo 68) hr (by decide) take_def rfl (pa_cons (mv 2) (pa_cons (mv 10) pa_nil))) pa_nil)) (nomark _)) (pw_or1 (pt_not (pt_val (px_call F__law_same_things (T.glo 66) hr (by decide) take_def rfl (pa_cons (mv 11) (pa_cons (mv 1) pa_nil)))))))) (pss_one (ps_ret pe_bl)) pss_nil)))))
  (pss_one (ps_ret (pe_cmpR (om_eq hu) (pe_callB (call_repr hu hr.gd) rfl (T.free 61) b_repr (pa_cons (px_meth0 (mv 1) F_told hr (by decide) take_def) pa_nil)) (pe_callB (call_repr hu hr.gd) rfl (T.free 61) b_repr (pa_cons (mv 2) pa_nil)) (nomark _))))))))))))
theorem sc_law : FnScope n_law ["script"] (defScope s_law) := ⟨rfl, rfl, rfl, by decide +kernel, rfl, by decide +kernel, by decide +kernel⟩
theorem w_law {s__law_box : Sp} {s__law_cell : Sp} {s__law_world : Sp} {s__law_few : Sp} {s__law_made : Sp} {s__law_right : Sp} (T : Tp K mg) (F__law_box : FnX P w K mg base 1 (fAd K ("_law_box", none)) s__law_box) (F__law_cell : FnX P w K mg base 1 (fAd K ("_law_cell", none)) s__law_cell) (F__law_world : FnX P w K mg base 4 (fAd K ("_law_world", none)) s__law_world) (F__law_few : FnX P w K mg base 2 (fAd K ("_law_few", none)) s__law_few) (F__law_made : FnX P w K mg base 7 (fAd K ("_law_made", none)) s__law_made) (F__law_right : FnX P w K mg base 10 (fAd K ("_law_right", none)) s__law_right) {sp : Sp} (len : ∀ vs H Q E, sp vs H Q E → vs.length = 1)
    (rd : ∀ vs H Q E, sp vs H Q E → t_law K s__law_box s__law_cell s__law_world s__law_few s__law_made s__law_right E { nx := fun _ H' => Q .non H', rt := Q } (start n_law vs) H) : FnX P w K mg base 11 (fAd K ("law", none)) sp := by
  obtain ⟨fd, FD⟩ := T.c.def_ 67 (d := d_law)
  refine fnx (k := 10) FD sc_law (fun _ _ _ _ _ _ us hl => match us, hl with | [_], _ => rfl) len fun cdv A outer s H vs Q E hr hsp => ⟨t_law K s__law_box s__law_cell s__law_world s__law_few s__law_made s__law_right E, ?_, rd vs H Q E hsp⟩
  have hu := hr.r.units
  exact (pss_cons (ps_set sc_law.nd rfl (.inl rfl) (pe_lst pa_nil))
  (pss_cons (ps_for pass_def rfl (pi_range1 rfl (T.free 52) (pa_cons (pe_callB (cm_max2 rfl) rfl (T.free 50) b_max (pa_cons pe_int (pa_cons (pe_callB (cm_min2 rfl) rfl (T.free 69) b_min (pa_cons pe_int (pa_cons (pe_callB cm_len rfl (T.free 4) b_len (pa_cons (mv 0) pa_nil)) pa_nil))) pa_nil))) pa_nil)) (pg_name sc_law.nd rfl (.inl rfl)) (pss_cons (ps_set sc_law.nd rfl (.inl rfl) (px_call F__law_box (T.glo 70) hr (by decide) take_def rfl (pa_cons (px_call F__law_cell (T.glo 71) hr (by decide) take_def rfl (pa_cons (mv 0) (pa_cons (mv 2) pa_nil))) pa_nil)))
  (pss_cons (ps_set sc_law.nd rfl (.inl rfl) (px_call F__law_world (T.glo 72) hr (by decide) take_def rfl (pa_cons (mv 3) (pa_cons (px_call F__law_few (T.glo 73) hr (by decide) take_def rfl (pa_cons (mv 3) pa_nil)) pa_nil))))
  (pss_cons (ps_expr (pe_bm F.plainAttrs_list F.slot_list_append F.type_list_append mt_append (mv 1) (pa_cons (pe_tup (pa_cons (px_call F__law_made (T.glo 74) hr (by decide) take_def rfl (pa_cons (mv 4) pa_nil)) (pa_cons (mv 4) pa_nil))) pa_nil)))
  (pss_one (ps_for pass_def rfl (pi_seq (pe_slice sm_sl (mv 1) (po_some px_neg) po_none)) (pg_tup rfl (pgs_cons (pg_name sc_law.nd rfl (.inl rfl)) (pgs_cons (pg_name sc_law.nd rfl (.inl rfl)) pgs_nil))) (pss_one (ps_if (pt_not (pt_val (px_call F__law_right (T.glo 75) hr (by decide) take_def rfl (pa_cons (mv 3) (pa_cons (mv 5) (pa_cons (mv 6) pa_nil)))))) (pss_one (ps_ret pe_bl)) pss_nil))))))))
  (pss_one (ps_ret pe_bl))))
end K76
/-! each def keeps its promise: printed by a program of mine -/
namespace K76
open PySem PySem.Spec PyProof.Rows L2 SX
open He (ga ma fAd)
variable {P : Program} {w : World} {K : PySem.W.Frag} {mg : Str → Option Value} {base : Heap}
theorem Zf (T : Tp K mg) : Kf K where
  ch := T.cls 82
  br := T.cls 91
  sh := T.cls 98
  wo := T.cls 76
  woN := fun f hf => by
    simp only [List.mem_cons, List.not_mem_nil, or_false] at hf
    rcases hf with rfl | rfl | rfl | rfl | rfl
    · exact T.noat 77
    · exact T.noat 78
    · exact T.noat 79
    · exact T.noat 80
    · exact T.noat 81
  chN := fun f hf => by
    simp only [List.mem_cons, List.not_mem_nil, or_false] at hf
    rcases hf with rfl | rfl | rfl | rfl | rfl | rfl | rfl | rfl
    · exact T.noat 83
    · exact T.noat 84
    · exact T.noat 85
    · exact T.noat 86
    · exact T.noat 87
    · exact T.noat 88
    · exact T.noat 89
    · exact T.noat 90
  brN := fun f hf => by
    simp only [List.mem_cons, List.not_mem_nil, or_false] at hf
    rcases hf with rfl | rfl | rfl | rfl | rfl | rfl
    · exact T.noat 92
    · exact T.noat 93
    · exact T.noat 94
    · exact T.noat 95
    · exact T.noat 96
    · exact T.noat 97
  shN := fun f hf => by
    simp only [List.mem_cons, List.not_mem_nil, or_false] at hf
    rcases hf with rfl | rfl | rfl | rfl | rfl | rfl
    · exact T.noat 99
    · exact T.noat 100
    · exact T.noat 101
    · exact T.noat 102
    · exact T.noat 103
    · exact T.noat 104
theorem Kkf (T : Tp K mg) : Kk K := ⟨T.kin 15, T.kin 18, T.kin 21, T.kit 16, T.kit 19, T.kit 22⟩
theorem Kof (T : Tp K mg) : Ko K := ⟨T.oeq 17, T.oeq 20, T.oeq 23⟩
theorem Kx2f (T : Tp K mg) : Kx2 K := ⟨T.exm 118, T.exm 119, T.exm 120, T.exm 121, T.exm 122, T.exm 123⟩
theorem F_is_whole (T : Tp K mg) : FnX P w K mg base 1 (fAd K ("is_whole", none)) sp_is_whole := w_is_whole T  (fun vs H Q E h => by
  obtain ⟨_, rfl, _⟩ := h
  rfl) fun vs H Q E h => r_is_whole h
theorem F_is_name (T : Tp K mg) : FnX P w K mg base 1 (fAd K ("is_name", none)) sp_is_name := w_is_name T  (fun vs H Q E h => by
  obtain ⟨_, rfl, _⟩ := h
  rfl) fun vs H Q E h => r_is_name h
theorem F_Channel_row (T : Tp K mg) : FnX P w K mg base 1 (fAd K ("Channel", some "row")) (sp_Channel_row K) := w_Channel_row T  (fun vs H Q E h => by
  obtain ⟨_, _, rfl, _⟩ := h
  rfl) fun vs H Q E h => r_Channel_row (Zf T) h
theorem F_Vessel_settle (T : Tp K mg) : FnX P w K mg base 1 (fAd K ("Vessel", some "settle")) (sp_Vessel_settle K) := w_Vessel_settle T  (fun vs H Q E h => by
  obtain ⟨_, _, _, _, _, _, _, _, rfl, _⟩ := h
  rfl) fun vs H Q E h => r_Vessel_settle (Zf T) h
theorem F_Vessel_row (T : Tp K mg) : FnX P w K mg base 1 (fAd K ("Vessel", some "row")) (sp_Vessel_row K) := w_Vessel_row T  (fun vs H Q E h => by
  obtain ⟨_, _, rfl, _⟩ := h
  rfl) fun vs H Q E h => r_Vessel_row (Zf T) h
theorem F_Ship_row (T : Tp K mg) : FnX P w K mg base 1 (fAd K ("Ship", some "row")) (sp_Ship_row K) := w_Ship_row T  (fun vs H Q E h => by
  obtain ⟨_, _, rfl, _⟩ := h
  rfl) fun vs H Q E h => r_Ship_row (Zf T) h
theorem F_is_list (T : Tp K mg) : FnX P w K mg base 1 (fAd K ("is_list", none)) (sp_is_list K) := w_is_list T  (fun vs H Q E h => by
  obtain ⟨_, _, _, _, rfl, _⟩ := h
  rfl) fun vs H Q E h => r_is_list h
theorem F_World_begin_hour (T : Tp K mg) : FnX P w K mg base 1 (fAd K ("World", some "begin_hour")) (sp_begin K) := w_World_begin_hour T  (fun vs H Q E h => by
  obtain ⟨_, _, _, _, _, rfl, _⟩ := h
  rfl) fun vs H Q E h => r_begin (Zf T) h
theorem F_World_ports (T : Tp K mg) : FnX P w K mg base 1 (fAd K ("World", some "ports")) (sp_ports K) := w_World_ports T  (fun vs H Q E h => by
  obtain ⟨_, _, _, _, _, rfl, _⟩ := h
  rfl) fun vs H Q E h => r_ports (Zf T) h
theorem F_World_channels (T : Tp K mg) : FnX P w K mg base 1 (fAd K ("World", some "channels")) (sp_channels K) := w_World_channels T  (fun vs H Q E h => by
  obtain ⟨_, _, _, _, _, rfl, _⟩ := h
  rfl) fun vs H Q E h => r_channels (Zf T) h
theorem F_World_breakers (T : Tp K mg) : FnX P w K mg base 1 (fAd K ("World", some "breakers")) (sp_breakers K) := w_World_breakers T  (fun vs H Q E h => by
  obtain ⟨_, _, _, _, _, rfl, _⟩ := h
  rfl) fun vs H Q E h => r_breakers (Zf T) h
theorem F_World_ships (T : Tp K mg) : FnX P w K mg base 1 (fAd K ("World", some "ships")) (sp_ships K) := w_World_ships T  (fun vs H Q E h => by
  obtain ⟨_, _, _, _, _, rfl, _⟩ := h
  rfl) fun vs H Q E h => r_ships (Zf T) h
theorem F_World_vessels (T : Tp K mg) : FnX P w K mg base 1 (fAd K ("World", some "vessels")) (sp_vessels K) := w_World_vessels T  (fun vs H Q E h => by
  obtain ⟨_, _, _, _, _, rfl, _⟩ := h
  rfl) fun vs H Q E h => r_vessels (Zf T) h
theorem F__law_cell (T : Tp K mg) : FnX P w K mg base 1 (fAd K ("_law_cell", none)) (sp__law_cell K) := w__law_cell T  (fun vs H Q E h => by
  obtain ⟨_, _, _, rfl, _⟩ := h
  rfl) fun vs H Q E h => r__law_cell h
theorem F__law_box (T : Tp K mg) : FnX P w K mg base 1 (fAd K ("_law_box", none)) sp__law_box := w__law_box T  (fun vs H Q E h => by
  obtain ⟨_, rfl, _⟩ := h
  rfl) fun vs H Q E h => r__law_box h
theorem F__law_take (T : Tp K mg) : FnX P w K mg base 1 (fAd K ("_law_take", none)) sp__law_take := w__law_take T  (fun vs H Q E h => by
  obtain ⟨_, _, _, rfl, _⟩ := h
  rfl) fun vs H Q E h => r__law_take h
theorem F__law_turned_due (T : Tp K mg) : FnX P w K mg base 1 (fAd K ("_law_turned_due", none)) (sp__law_turned_due K) := w__law_turned_due T  (fun vs H Q E h => by
  obtain ⟨_, _, rfl, _⟩ := h
  rfl) fun vs H Q E h => r__law_turned_due h
theorem F__law_ship_due (T : Tp K mg) : FnX P w K mg base 1 (fAd K ("_law_ship_due", none)) (sp__law_ship_due K) := w__law_ship_due T  (fun vs H Q E h => by
  obtain ⟨_, _, _, _, rfl, _⟩ := h
  rfl) fun vs H Q E h => r__law_ship_due h
theorem F__law_without_due (T : Tp K mg) : FnX P w K mg base 1 (fAd K ("_law_without_due", none)) (sp__law_without_due K) := w__law_without_due T  (fun vs H Q E h => by
  obtain ⟨_, _, _, rfl, _⟩ := h
  rfl) fun vs H Q E h => r__law_without_due h
theorem F_is_within (T : Tp K mg) : FnX P w K mg base 2 (fAd K ("is_within", none)) sp_is_within := w_is_within T (F_is_whole T) (fun vs H Q E h => by
  obtain ⟨_, _, _, rfl, _⟩ := h
  rfl) fun vs H Q E h => r_is_within h
theorem F_Breaker_row (T : Tp K mg) : FnX P w K mg base 2 (fAd K ("Breaker", some "row")) (sp_Breaker_row K) := w_Breaker_row T (F_Vessel_row T) (fun vs H Q E h => by
  obtain ⟨_, _, rfl, _⟩ := h
  rfl) fun vs H Q E h => r_Breaker_row (Zf T) h
theorem F__law_names (T : Tp K mg) : FnX P w K mg base 2 (fAd K ("_law_names", none)) (sp__law_names K) := w__law_names T (F__law_take T) (fun vs H Q E h => by
  obtain ⟨_, _, _, rfl, _⟩ := h
  rfl) fun vs H Q E h => r__law_names h
theorem F__law_number (T : Tp K mg) : FnX P w K mg base 2 (fAd K ("_law_number", none)) sp__law_number := w__law_number T (F__law_take T) (fun vs H Q E h => by
  obtain ⟨_, _, _, _, rfl, _⟩ := h
  rfl) fun vs H Q E h => r__law_number h
theorem F__law_few (T : Tp K mg) : FnX P w K mg base 2 (fAd K ("_law_few", none)) sp__law_few := w__law_few T (F__law_take T) (fun vs H Q E h => by
  obtain ⟨_, _, rfl, _⟩ := h
  rfl) fun vs H Q E h => r__law_few h
theorem M_vessels (T : Tp K mg) : ∀ C sp, (okW sp_vessels K) C sp → MetX P w K mg base 1 "vessels" C sp := by
  rintro C sp ⟨rfl, rfl⟩
  exact ⟨T.cls 76, _, T.meth 115, (F_World_vessels T).mono (by decide)⟩
theorem M_channels (T : Tp K mg) : ∀ C sp, (okW sp_channels K) C sp → MetX P w K mg base 1 "channels" C sp := by
  rintro C sp ⟨rfl, rfl⟩
  exact ⟨T.cls 76, _, T.meth 112, (F_World_channels T).mono (by decide)⟩
theorem F__law_same_things (T : Tp K mg) : FnX P w K mg base 2 (fAd K ("_law_same_things", none)) (sp__law_same_things K) := w__law_same_things T (M_vessels T) (M_channels T) (fun vs H Q E h => by
  obtain ⟨_, _, _, _, _, _, _, _, _, _, rfl, _⟩ := h
  rfl) fun vs H Q E h => r__law_same_things (Kof T) h
theorem F_need_names (T : Tp K mg) : FnX P w K mg base 3 (fAd K ("need_names", none)) sp_need_names := w_need_names T (F_is_name T) (E_NoName T) (fun vs H Q E h => by
  obtain ⟨_, _, _, rfl, _⟩ := h
  rfl) fun vs H Q E h => r_need_names h
theorem F_need_numbers (T : Tp K mg) : FnX P w K mg base 3 (fAd K ("need_numbers", none)) (sp_need_numbers K) := w_need_numbers T (F_is_within T) (E_NoNumber T) (fun vs H Q E h => by
  obtain ⟨_, _, rfl, _⟩ := h
  rfl) fun vs H Q E h => r_need_numbers h
theorem F_need_kinds (T : Tp K mg) : FnX P w K mg base 3 (fAd K ("need_kinds", none)) (sp_need_kinds K) := w_need_kinds T (F_is_name T) (F_is_list T) (E_NoWorld T) (fun vs H Q E h => by
  obtain ⟨_, _, _, _, _, _, _, _, _, _, _, rfl, _⟩ := h
  rfl) fun vs H Q E h => r_need_kinds (Kkf T) (Zf T) h
theorem F_need_unlike (T : Tp K mg) : FnX P w K mg base 3 (fAd K ("need_unlike", none)) (sp_need_unlike K) := w_need_unlike T (E_Doubled T) (fun vs H Q E h => by
  obtain ⟨_, _, rfl, _⟩ := h
  rfl) fun vs H Q E h => r_need_unlike h
theorem F_need_ports (T : Tp K mg) : FnX P w K mg base 3 (fAd K ("need_ports", none)) (sp_need_ports K) := w_need_ports T (E_NoPort T) (fun vs H Q E h => by
  obtain ⟨_, _, _, _, rfl, _⟩ := h
  rfl) fun vs H Q E h => r_need_ports h
theorem F_World_vessel (T : Tp K mg) : FnX P w K mg base 3 (fAd K ("World", some "vessel")) (sp_vessel K) := w_World_vessel T (M_vessels T) (E_NoVessel T) (fun vs H Q E h => by
  obtain ⟨_, _, _, _, _, _, _, _, rfl, _⟩ := h
  rfl) fun vs H Q E h => r_vessel (Zf T) h
theorem M_row (T : Tp K mg) : ∀ C sp, (ok_row K) C sp → MetX P w K mg base 2 "row" C sp := by
  rintro C sp (⟨rfl, rfl⟩ | ⟨rfl, rfl⟩ | ⟨rfl, rfl⟩)
  · exact ⟨T.cls 82, _, T.meth 107, (F_Channel_row T).mono (by decide)⟩
  · exact ⟨T.cls 91, _, T.meth 108, (F_Breaker_row T).mono (by decide)⟩
  · exact ⟨T.cls 98, _, T.meth 109, (F_Ship_row T).mono (by decide)⟩
theorem F_World_told (T : Tp K mg) : FnX P w K mg base 3 (fAd K ("World", some "told")) (sp_told K) := w_World_told T (M_row T) (fun vs H Q E h => by
  obtain ⟨_, _, _, _, _, rfl, _⟩ := h
  rfl) fun vs H Q E h => r_told (Zf T) h
theorem F__law_channel (T : Tp K mg) : FnX P w K mg base 3 (fAd K ("_law_channel", none)) (sp__law_channel K) := w__law_channel T (F__law_take T) (F__law_number T) (fun vs H Q E h => by
  obtain ⟨_, _, _, _, _, rfl, _⟩ := h
  rfl) fun vs H Q E h => r__law_channel h
theorem F__law_breaker (T : Tp K mg) : FnX P w K mg base 3 (fAd K ("_law_breaker", none)) (sp__law_breaker K) := w__law_breaker T (F__law_number T) (F__law_take T) (fun vs H Q E h => by
  obtain ⟨_, _, _, _, _, rfl, _⟩ := h
  rfl) fun vs H Q E h => r__law_breaker h
theorem F__law_ship (T : Tp K mg) : FnX P w K mg base 3 (fAd K ("_law_ship", none)) (sp__law_ship K) := w__law_ship T (F__law_take T) (F__law_number T) (fun vs H Q E h => by
  obtain ⟨_, _, _, _, _, rfl, _⟩ := h
  rfl) fun vs H Q E h => r__law_ship h
theorem F_Channel___init__ (T : Tp K mg) : FnX P w K mg base 4 (fAd K ("Channel", some "__init__")) (sp_Channel___init__ K) := w_Channel___init__ T (F_need_names T) (E_Doubled T) (F_need_numbers T) (fun vs H Q E h => by
  obtain ⟨_, _, _, rfl, _⟩ := h
  rfl) fun vs H Q E h => r_Channel___init__ (Zf T) h
theorem M_settle (T : Tp K mg) : ∀ C sp, (ok_settle K) C sp → MetX P w K mg base 1 "settle" C sp := by
  rintro C sp ⟨rfl | rfl, rfl⟩
  · exact ⟨T.cls 91, _, T.meth 105, (show FnX P w K mg base 1 (fAd K ("Breaker", some "settle")) _ from T.iq 13 ▸ (F_Vessel_settle T).mono (by decide))⟩
  · exact ⟨T.cls 98, _, T.meth 106, (show FnX P w K mg base 1 (fAd K ("Ship", some "settle")) _ from T.iq 14 ▸ (F_Vessel_settle T).mono (by decide))⟩
theorem F_Vessel___init__ (T : Tp K mg) : FnX P w K mg base 4 (fAd K ("Vessel", some "__init__")) (sp_Vessel___init__ K) := w_Vessel___init__ T (F_need_names T) (F_need_numbers T) (M_settle T) (fun vs H Q E h => by
  obtain ⟨_, _, _, _, _, _, _, _, rfl, _⟩ := h
  rfl) fun vs H Q E h => r_Vessel___init__ (Zf T) h
theorem F_World___init__ (T : Tp K mg) : FnX P w K mg base 4 (fAd K ("World", some "__init__")) (sp_World___init__ K) := w_World___init__ T (F_is_within T) (E_NoNumber T) (F_need_kinds T) (F_need_unlike T) (F_need_ports T) (fun vs H Q E h => by
  obtain ⟨_, _, _, _, _, _, _, _, _, _, rfl, _⟩ := h
  rfl) fun vs H Q E h => r_World___init__ (Kkf T) (Zf T) h
theorem F__law_world (T : Tp K mg) : FnX P w K mg base 4 (fAd K ("_law_world", none)) (sp__law_world K) := w__law_world T (F__law_names T) (F__law_channel T) (F__law_breaker T) (F__law_ship T) (F__law_number T) (fun vs H Q E h => by
  obtain ⟨_, _, _, _, _, _, _, rfl, _⟩ := h
  rfl) fun vs H Q E h => r__law_world h
theorem F__law_new_ship (T : Tp K mg) : FnX P w K mg base 4 (fAd K ("_law_new_ship", none)) (sp__law_new_ship K) := w__law_new_ship T (F__law_take T) (F__law_names T) (F__law_ship T) (fun vs H Q E h => by
  obtain ⟨_, _, _, _, rfl, _⟩ := h
  rfl) fun vs H Q E h => r__law_new_ship h
theorem F_Breaker___init__ (T : Tp K mg) : FnX P w K mg base 5 (fAd K ("Breaker", some "__init__")) (sp_Breaker___init__ K) := w_Breaker___init__ T (F_Vessel___init__ T) (F_need_numbers T) (fun vs H Q E h => by
  obtain ⟨_, _, _, rfl, _⟩ := h
  rfl) fun vs H Q E h => r_Breaker___init__ (Zf T) h
theorem F_Ship___init__ (T : Tp K mg) : FnX P w K mg base 5 (fAd K ("Ship", some "__init__")) (sp_Ship___init__ K) := w_Ship___init__ T (F_need_names T) (F_Vessel___init__ T) (fun vs H Q E h => by
  obtain ⟨_, _, _, rfl, _⟩ := h
  rfl) fun vs H Q E h => r_Ship___init__ (Zf T) h
theorem F_channel_anew (T : Tp K mg) : FnX P w K mg base 6 (fAd K ("channel_anew", none)) (sp_channel_anew K) := w_channel_anew T (F_Channel___init__ T) (fun vs H Q E h => by
  obtain ⟨_, _, rfl, _⟩ := h
  rfl) fun vs H Q E h => r_channel_anew h
theorem M_ships (T : Tp K mg) : ∀ C sp, (okW sp_ships K) C sp → MetX P w K mg base 1 "ships" C sp := by
  rintro C sp ⟨rfl, rfl⟩
  exact ⟨T.cls 76, _, T.meth 114, (F_World_ships T).mono (by decide)⟩
theorem M_breakers (T : Tp K mg) : ∀ C sp, (okW sp_breakers K) C sp → MetX P w K mg base 1 "breakers" C sp := by
  rintro C sp ⟨rfl, rfl⟩
  exact ⟨T.cls 76, _, T.meth 113, (F_World_breakers T).mono (by decide)⟩
theorem M_ports (T : Tp K mg) : ∀ C sp, (okW sp_ports K) C sp → MetX P w K mg base 1 "ports" C sp := by
  rintro C sp ⟨rfl, rfl⟩
  exact ⟨T.cls 76, _, T.meth 111, (F_World_ports T).mono (by decide)⟩
theorem M_begin_hour (T : Tp K mg) : ∀ C sp, (okW sp_begin K) C sp → MetX P w K mg base 1 "begin_hour" C sp := by
  rintro C sp ⟨rfl, rfl⟩
  exact ⟨T.cls 76, _, T.meth 110, (F_World_begin_hour T).mono (by decide)⟩
theorem F_with_ship (T : Tp K mg) : FnX P w K mg base 6 (fAd K ("with_ship", none)) (sp_with_ship K) := w_with_ship T (E_NoKind T) (F_World___init__ T) (M_ships T) (M_breakers T) (M_channels T) (M_ports T) (M_begin_hour T) (fun vs H Q E h => by
  obtain ⟨_, _, _, _, _, _, _, rfl, _⟩ := h
  rfl) fun vs H Q E h => r_with_ship (Kkf T) (Zf T) h
theorem M_vessel (T : Tp K mg) : ∀ C sp, (okW sp_vessel K) C sp → MetX P w K mg base 3 "vessel" C sp := by
  rintro C sp ⟨rfl, rfl⟩
  exact ⟨T.cls 76, _, T.meth 116, (F_World_vessel T).mono (by decide)⟩
theorem F_without (T : Tp K mg) : FnX P w K mg base 6 (fAd K ("without", none)) (sp_without K) := w_without T (M_vessel T) (M_breakers T) (M_ships T) (F_World___init__ T) (M_channels T) (M_ports T) (M_begin_hour T) (fun vs H Q E h => by
  obtain ⟨_, _, _, _, _, _, rfl, _⟩ := h
  rfl) fun vs H Q E h => r_without (Kkf T) (Zf T) h
theorem F_breaker_anew (T : Tp K mg) : FnX P w K mg base 7 (fAd K ("breaker_anew", none)) (sp_breaker_anew K) := w_breaker_anew T (F_Breaker___init__ T) (fun vs H Q E h => by
  obtain ⟨_, _, rfl, _⟩ := h
  rfl) fun vs H Q E h => r_breaker_anew h
theorem F_ship_anew (T : Tp K mg) : FnX P w K mg base 7 (fAd K ("ship_anew", none)) (sp_ship_anew K) := w_ship_anew T (F_Ship___init__ T) (fun vs H Q E h => by
  obtain ⟨_, _, rfl, _⟩ := h
  rfl) fun vs H Q E h => r_ship_anew h
theorem F__law_made (T : Tp K mg) : FnX P w K mg base 7 (fAd K ("_law_made", none)) (sp__law_made K) := w__law_made T (F_Channel___init__ T) (F_Breaker___init__ T) (F_Ship___init__ T) (F_World___init__ T) (fun vs H Q E h => by
  obtain ⟨_, _, rfl, _⟩ := h
  rfl) fun vs H Q E h => r__law_made h
theorem M_told (T : Tp K mg) : ∀ C sp, (okW sp_told K) C sp → MetX P w K mg base 3 "told" C sp := by
  rintro C sp ⟨rfl, rfl⟩
  exact ⟨T.cls 76, _, T.meth 117, (F_World_told T).mono (by decide)⟩
theorem F__law_with (T : Tp K mg) : FnX P w K mg base 7 (fAd K ("_law_with", none)) (sp__law_with K) := w__law_with T (F_with_ship T) (F_Ship___init__ T) (M_told T) (fun vs H Q E h => by
  obtain ⟨_, _, _, _, _, _, _, rfl, _⟩ := h
  rfl) fun vs H Q E h => r__law_with (Kx2f T) h
theorem F_world_anew (T : Tp K mg) : FnX P w K mg base 8 (fAd K ("world_anew", none)) (sp_world_anew K) := w_world_anew T (F_channel_anew T) (F_World___init__ T) (F_ship_anew T) (F_breaker_anew T) (fun vs H Q E h => by
  obtain ⟨_, _, _, _, _, _, _, _, _, rfl, _⟩ := h
  rfl) fun vs H Q E h => r_world_anew h
theorem F_turned (T : Tp K mg) : FnX P w K mg base 9 (fAd K ("turned", none)) (sp_turned K) := w_turned T (M_told T) (F_world_anew T) (fun vs H Q E h => by
  obtain ⟨_, _, _, _, _, rfl, _⟩ := h
  rfl) fun vs H Q E h => r_turned h
theorem F__law_right (T : Tp K mg) : FnX P w K mg base 10 (fAd K ("_law_right", none)) (sp__law_right K) := w__law_right T (F_turned T) (M_told T) (F__law_turned_due T) (F__law_new_ship T) (F__law_ship_due T) (F__law_with T) (F_Ship___init__ T) (F_with_ship T) (M_vessel T) (M_ships T) (F__law_same_things T) (F_without T) (F__law_take T) (F__law_without_due T) (fun vs H Q E h => by
  obtain ⟨_, _, _, _, _, _, _, _, rfl, _⟩ := h
  rfl) fun vs H Q E h => r__law_right (Kof T) h
theorem F_law (T : Tp K mg) : FnX P w K mg base 11 (fAd K ("law", none)) (sp_law K) := w_law T (F__law_box T) (F__law_cell T) (F__law_world T) (F__law_few T) (F__law_made T) (F__law_right T) (fun vs H Q E h => by
  obtain ⟨_, _, rfl, _⟩ := h
  rfl) fun vs H Q E h => r_law h
end K76
/-! the head: the top's run, the facts it leaves; the law -/
namespace K76
open PySem PySem.Spec PyProof.Rows L2 SX
abbrev RR : PySem.W.OpenRow := PySem.W.OpenLaw.row PySem.Challenge.rw_iceopened_k76_turned_more_and_less
abbrev hk : PySem.W.Hook := SX.hookX 4 fa fy fn
def ob (s : PySem.W.SharedT) : AlX := SX.obsXG 4 fa fy fn (HandSHeadRun.getT s)
theorem ob_eq (s : PySem.W.SharedT) : ob s = hk.obs s.abs := SX.obsXG_eq (HandSHeadRun.getT_eq s)
theorem run (w : World) : HandSHeadRun.RunEq RR (PySem.W.view RR.prog [67]) hk ob 6000 nm w := by
  intro os
  kernel_rfl
end K76
open PySem PySem.W PySem.Calls PyProof.Rows
theorem PySem.Challenge.cw_iceopened_k76_turned_more_and_less_holds : PySem.Challenge.rw_iceopened_k76_turned_more_and_less.Holds := by
  w_on; o_law
  refine HandSHeadRun.head_any (r := OpenLaw.row PySem.Challenge.rw_iceopened_k76_turned_more_and_less) (q := view (OpenLaw.row PySem.Challenge.rw_iceopened_k76_turned_more_and_less).prog [67]) (H := K76.hk) (ob := K76.ob) (M := 6000) (loose := K76.nm) (d := HandSHeadRun.topDef (OpenLaw.row PySem.Challenge.rw_iceopened_k76_turned_more_and_less).prog 67) (kwd := []) K76.ob_eq
    (by kernel_rfl) (fun s => by kernel_rfl) K76.run (by kernel_rfl) (by kernel_rfl) (by kernel_rfl) (by rfl) (by first | assumption | decide +kernel) (by decide +kernel) ⟨rfl, rfl, rfl, rfl, rfl, by decide +kernel⟩ ?hw ?hc
  case hw => w_witness2
  case hc =>
    refine SX.walk_X (l := PySem.Challenge.rw_iceopened_k76_turned_more_and_less) (n := 63) (k := 11) rfl (by decide) (by kernel_rfl) ⟨⟨rfl, by decide, by decide⟩, rfl⟩ ?F
    intro w mg fa h Y G hmg0
    obtain ⟨K, KX, c⟩ := Y
    have hmg : mg ("law" : PySem.Str) = some (.ref fa) := by
      have e : (HandSHeadRun.topDef (OpenLaw.row PySem.Challenge.rw_iceopened_k76_turned_more_and_less).prog 67).name = ("law" : PySem.Str) := by kernel_rfl
      rw [← e]
      exact hmg0
    have T : K76.Tp K mg := ⟨⟨h, KX, G⟩, c⟩
    have e2 := hmg.symm.trans (T.glo 124)
    cases e2
    exact ⟨K, K76.sp_law K, KX, fun H a ns hl hS => ⟨a, ns, rfl, hS, Nat.le_trans hl (by decide), fun _ => rfl⟩, fun base _ _ => K76.F_law T⟩
