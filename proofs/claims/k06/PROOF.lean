import PyProof.Rows.All
import Wide.All
import OpenK.AllK
import Wide.FinOn
import KE.KStateDown
import KE.KExcIs
import HandS.ForMost
import HandS.ForExc
import HandS.Words
import HandS.Evl
import HandS.WordsExc
import HandS.Defaults
import HandS.ExcInit
import HandS.ExcField
import HandS.ExcIs
import HandS.HotCalls
import HandS.ExcInitHot
import HandS.IsInst
import HandS.Head0
import HandS.Head1
import HandS.Head2
import HandS.HeadEnd
import HandS.HeadHook1
import HandS.HeadHook2
import HandS.HeadNt
import PySem.Challenge.RW_lettercell_k06_what_is_refused
set_option Elab.async false
set_option linter.all false
set_option maxRecDepth 100000
set_option maxHeartbeats 4000000
/-! Own rules over the hand layer: attributes read off own classes, defs that are handed a caught exception. -/
namespace LX
open PySem PySem.Spec PyProof.Rows L2

/-! ### what is read off an own class: `B.m(..)` -/
/-- reading m off the class at B gives v -/
structure ClsAt (K : PySem.W.Frag) (B : Addr) (m : Str) (v : Value) : Prop where
  sp : PySem.W.specialIn K (.ref B) "__getattribute__" = some (some (.builtin "type.__getattribute__"))
  rd : PySem.W.readsIn K B (.type "type") = true
  fc : PySem.W.findCls K (.ref B) (.type "type") m = some (.val v)
  hh : PySem.W.handedIn v = true
section
variable {X : Cx} {pins : List (Addr × Obj)} {σ : L2.St} {H : Hp} {s : Shared} {B : Addr} {m : Str} {v : Value}
theorem ClsAt.get {pl : Sem Bool} {A : Around} {Q : Value × List Value → Shared → Prop} {E : Value → Shared → Prop} (c : ClsAt X.K B m v) (I : Inv X pins σ H s) (h : ∀ s', Inv X pins σ H s' → Q (v, []) s') :
    wpAny (model X.prog X.w) A (getMethod (.ref B) m pl) Q E s := by
  apply PySem.W.method_cls I.kIn c.sp
  apply PySem.W.cls_value I.kIn c.rd c.fc c.hh
  apply h
  exact I.tok _
end
section
variable {X : Cx} {B f : Addr} {x m : Str} {p p2 pos : Pos} {e : Expr} {es : List Expr} {ta : TA} {k : Nat} {fd : FuncData} {ps : List Str} {sp : Sp} {dvs : List V} {ds : List Value} {CX : CXT} {E : XK} {pl : Sem Bool}
/-- `B.m(e, ..)`, m an own def of the class or of one above it -/
theorem pe_clsFn (c : ClsAt X.K B m (.ref f)) (F : FnOk X.prog X.w X.K X.mg X.base CX k f fd ps sp) (hr : Room k X.A) (hg : Gl X x) (hm : X.mg x = some (.ref B)) (hk : PySem.W.keepIn X.K (.ref f) = true) (hb : Binds X.K fd ps ds) (hd : Vals dvs ds) (hx : Passes CX X E)
    (ha : PA X (e :: es) ta) (hdb : (x == ("__debug__" : Str)) = false := by decide)
    (hc : eval (.Call (.Attribute (.Name x p) m p2) (e :: es) [] pos) X.env = (do
      let ov ← eval (.Name x p) X.env
      standAt p2.atName
      let (f, first) ← holding [ov] (getMethod ov m pl)
      callWith pos f first (backTo pos (starEach (e :: es) X.env)) (backToKw pos (keywordEach [] X.env))) := by rfl)
    (he : starEach (e :: es) X.env = (false, eval e X.env) :: starEach es X.env := by rfl) (hpl : (backTo pos (starEach es X.env)).any (·.1) = false := by rfl) :
    PE X (.Call (.Attribute (.Name x p) m p2) (e :: es) [] pos) (tCall sp dvs E ta) := by
  constructor
  intro pins s σ H Q I h
  refine PySem.W.methodCall_KW (ld_glob I hg hm ?_ hdb) hc
  refine c.get I fun s' I' => ?_
  refine PySem.W.callWith_K (h₀ := X.base) I.ok.mod.kin hk (thn (ha.run pos pins s' σ H _ I' h) fun us s1 hh => ?_) he hpl
  obtain ⟨vs, H1, I1, r, q⟩ := hh
  exact ⟨I1.kIn, run_fn F hr hb hd hx I1 r q⟩
/-- `B.__init__(self, ..)` of an exception that is being made: nothing of it is told -/
theorem pe_clsVe (c : ClsAt X.K B "__init__" (.builtin "ValueError.__init__")) (hg : Gl X x) (hm : X.mg x = some (.ref B)) (ha : PA X (e :: es) ta) (hdb : (x == ("__debug__" : Str)) = false := by decide)
    (hc : eval (.Call (.Attribute (.Name x p) "__init__" p2) (e :: es) [] pos) X.env = (do
      let ov ← eval (.Name x p) X.env
      standAt p2.atName
      let (f, first) ← holding [ov] (getMethod ov "__init__" pl)
      callWith pos f first (backTo pos (starEach (e :: es) X.env)) (backToKw pos (keywordEach [] X.env))) := by rfl)
    (he : starEach (e :: es) X.env = (false, eval e X.env) :: starEach es X.env := by rfl) (hpl : (backTo pos (starEach es X.env)).any (·.1) = false := by rfl) :
    PE X (.Call (.Attribute (.Name x p) "__init__" p2) (e :: es) [] pos) (tVeI X.K ta) := by
  constructor
  intro pins s σ H Q I h
  refine PySem.W.methodCall_KW (ld_glob I hg hm ?_ hdb) hc
  refine c.get I fun s' I' => ?_
  refine PyProof.Rows.callWith_method1 (thn (ha.run pos pins s' σ H _ I' h) fun us s1 hh => ?_) he hpl
  obtain ⟨vs, H1, I1, r1, a, C, ws, ev, hl, T, ea, q⟩ := hh
  subst ev
  cases r1 with
  | @cons _ u0 _ ur ra rw' =>
    have e0 : u0 = Value.ref a := ra
    subst e0
    refine oinit_ok T I1 ea (Nat.le_trans (Nat.le_of_eq rw'.length.symm) (Nat.le_trans hl ?_)) fun s2 J => ⟨.non, H1, J, rfl, q⟩
    rw [sizeLine_eq]
    decide
end

/-! ### defs that are handed the exception that is handled -/
/-- p stands in the state, is the exception that is handled -/
structure FnE (P : Program) (w : World) (K : PySem.W.Frag) (mg : Str → Option Value) (base : Heap) (k : Nat) (f : Addr) (fd : FuncData) (ps : List Str) (sp : Addr → Value → Option Addr → Sp) : Prop where
  len : ∀ a cls d vs H Q E, sp a cls d vs H Q E → vs.length = ps.length
  run : ∀ (A : Around) (outer : List Env) (s : Shared) (H : Hp) (args : Args) (us : List Value) (vs : List V) (Q : VK) (p : Addr × Obj) (cls : Value) (d : Option Addr), L2H.RoomH k A → A.handled = some (.ref p.1) → Zc cls d p.2 → (∃ us, p.2.data = .fields us) → L2H.PinOk outer H s p → Env0 P w K mg base A outer s H →
    BindsTo s fd args (ps.zip us) → Vals vs us → sp p.1 cls d vs H Q E0 → codeAny (model P w) A (.call (.ref f) args) (CR CX0 outer P w H s Q E0) s
/-- the context of such a def's body -/
abbrev cxE (P : Program) (w : World) (K : PySem.W.Frag) (mg : Str → Option Value) (base : Heap) (N : List Str) (qual : Str) (scope : Scope) (f : Addr) (cd : Value) (A : Around) (outer : List Env) (s : Shared) (H : Hp) (p : Addr × Obj) : Cx :=
  (cxOf CX0 P w K mg base N qual scope f cd A outer s H E0).suite p.1 [p]
theorem mark_same {A : Around} {v : Value} (h : A.handled = some v) : A.mark (some v) = A := by
  cases A
  cases h
  rfl
theorem fn_ofE {P : Program} {w : World} {K : PySem.W.Frag} {mg : Str → Option Value} {base : Heap} {k : Nat} {f : Addr} {x qual : Str} {params : Arguments} {body : List Stmt} {scope : Scope} {dvs : List V} {kws : List (Str × V)} {fd : FuncData} {N ps : List Str}
    {sp : Addr → Value → Option Addr → Sp} (F : FunD K x qual params body scope dvs kws f fd) (S : FnScope N ps scope) (len : ∀ a cls d vs H Q E, sp a cls d vs H Q E → vs.length = ps.length)
    (hbody : ∀ (cdv : Value) (A : Around) (outer : List Env) (s : Shared) (H : Hp) (vs : List V) (Q : VK) (p : Addr × Obj) (cls : Value) (d : Option Addr), L2H.RoomH k (A.deeper (envOfC qual scope s.heap.objs.size f cdv)) → Zc cls d p.2 → (∃ us, p.2.data = .fields us) → sp p.1 cls d vs H Q E0 →
      ∃ t, PSs (cxE P w K mg base N qual scope f cdv A outer s H p) body t ∧ t { nx := fun _ H' => Q .non H', rt := Q } (start N vs) H) : FnE P w K mg base (k + 1) f fd ps sp := by
  obtain ⟨oc, od, dV, kV, doc, pm, an, cdv, ct, osl, rfl, lk, hcd, _, _⟩ := F.ex
  constructor
  · exact len
  intro A outer s H args us vs Q p cls d hr hh hz hf hpin e0 hb r hsp
  have KX : K.In s.heap := e0.mod.kin.keeps fun b o e => (e0.bs b o e).1
  have lim : s.heap.NoLimit := e0.mod.nolimit.keeps fun b o e => (e0.bs b o e).1
  have hl := len _ _ _ _ _ _ _ hsp
  refine codeAny_call_function hr.depth (KX _ _ lk) rfl S.co S.gen rfl (PySem.W.codeRec_of KX hcd) (hb _ _ _ _ ?_)
  refine wpAny_newFunctionEnv_cells S.kind (fun y hy => ?_) fun env he s1 xx => ?_
  · obtain ⟨n, v⟩ := y
    cases S.par n (List.of_mem_zip hy).1 with
    | inl q => exact Or.inl q
    | inr q => exact Or.inr ⟨q, PySem.W.cellsFrom_some _ _ _ (Or.inl q)⟩
  subst he
  refine ⟨lim.keeps xx.toInCall.keep, codeAny_func ?_⟩
  obtain ⟨t, ht, hq⟩ := hbody cdv A outer s H vs Q p cls d (hr.deeper _) hz hf hsp
  have I0 := L2H.inv_startH (CX := CX0) (P := P) (w := w) (K := K) (mg := mg) (base := base) (qual := qual) (f := f) (cd := cdv) (E := E0) S hpin e0 hl r xx
  have eA : (A.deeper (envOfC qual scope s.heap.objs.size f cdv)).mark (some (.ref p.1)) = A.deeper (envOfC qual scope s.heap.objs.size f cdv) := mark_same hh
  have I : Inv (cxE P w K mg base N qual scope f cdv A outer s H p) [] (start N vs) H s1 := by
    have J := I0.wish fun _ _ => False
    have ex : cxE P w K mg base N qual scope f cdv A outer s H p = (L2H.cxH CX0 P w K mg base N qual scope f cdv A outer s H E0 p).wish fun _ _ => False := by
      show ({ (cxOf CX0 P w K mg base N qual scope f cdv A outer s H E0) with A := (A.deeper (envOfC qual scope s.heap.objs.size f cdv)).mark (some (.ref p.1)), calm := false, pn := [p], xe := fun _ _ => False } : Cx) = _
      rw [eA]
      rfl
    rw [ex]
    exact J
  have R := ht.run [] s1 (start N vs) H _ I hq
  have R2 : wpAny (model P w) (A.deeper (envOfC qual scope s.heap.objs.size f cdv)) (execs body (envOfC qual scope s.heap.objs.size f cdv)) (SP (cxE P w K mg base N qual scope f cdv A outer s H p) [] { nx := fun _ H' => Q .non H', rt := Q }) (fun _ _ => False) s1 := by
    rw [← eA]
    exact R
  refine wpAny_mono R2 (fun fl s' hs => ?_) fun e s' hs => hs.elim
  cases fl with
  | ret u =>
    obtain ⟨v, σ', H', J, rv, q⟩ := hs
    exact ⟨v, H', J.os, J.bare, J.base, J.hok, rv, q⟩
  | next =>
    obtain ⟨σ', H', J, q⟩ := hs
    exact ⟨.non, H', J.os, J.bare, J.base, J.hok, rfl, q⟩
  | brk => exact hs.elim fun _ z => z.elim fun _ z => z.2.elim
  | cont => exact hs.elim fun _ z => z.elim fun _ z => z.2.elim
section
variable {X : Cx} {k : Nat} {f a : Addr} {oe : Obj} {pn : List (Addr × Obj)} {fd : FuncData} {ps : List Str} {sp : Addr → Value → Option Addr → Sp} {cls : Value} {d : Option Addr} {x : Str} {p pos : Pos} {e : Expr} {es : List Expr} {ta : TA}
/-- such a def called within the suite -/
theorem pe_callE (hz : Zc cls d oe) (hf : ∃ us, oe.data = .fields us) (F : FnE X.prog X.w X.K X.mg X.base k f fd ps sp) (hr : L2H.RoomH k (X.suite a ((a, oe) :: pn)).A) (hh : (X.suite a ((a, oe) :: pn)).A.handled = some (.ref a)) (hg : Gl X x) (hm : X.mg x = some (.ref f)) (hk : PySem.W.keepIn X.K (.ref f) = true) (hb : Binds X.K fd ps [])
    (ha : PA (X.suite a ((a, oe) :: pn)) (e :: es) ta) (hdb : (x == ("__debug__" : Str)) = false := by decide) (he : starEach (e :: es) X.env = (false, eval e X.env) :: starEach es X.env := by rfl) (hpl : (backTo pos (starEach es X.env)).any (·.1) = false := by rfl) :
    PE (X.suite a ((a, oe) :: pn)) (.Call (.Name x p) (e :: es) [] pos) (tCall (sp a cls d) [] E0 ta) := by
  constructor
  intro pins s σ H Q I h
  refine wpAny_Call_Name_kw (ld_glob (X := X.suite a ((a, oe) :: pn)) I hg hm ?_ hdb)
  refine PySem.W.callWith_K (h₀ := X.base) I.ok.mod.kin hk (thn (ha.run pos pins s σ H _ I h) fun us s1 hh1 => ?_) he hpl
  obtain ⟨vs, H1, I1, r, q⟩ := hh1
  rw [List.append_nil] at q
  refine ⟨I1.kIn, ?_⟩
  have P1 := I1.pin (a, oe) (List.mem_append_left _ List.mem_cons_self)
  have hpin : L2H.PinOk (X.suite a ((a, oe) :: pn)).stack H1 s1 (a, oe) := by
    constructor
    · exact P1.1
    · exact P1.2.1
    · intro hm'
      cases List.mem_cons.mp (I1.stkSub a hm') with
      | inl z => exact P1.2.2.1 z
      | inr z => exact P1.2.2.2.1 z
    · exact P1.2.2.2.2
  have hl : us.length = ps.length := by
    rw [← r.length]
    exact F.len _ _ _ _ _ _ _ q
  have b := hb s1 us I1.kIn (by rw [List.append_nil]; exact hl)
  rw [List.append_nil] at b
  refine wpAny_call (codeAny_mono (F.run _ _ s1 H1 ⟨us, []⟩ us vs Q (a, oe) cls d hr hh hz hf hpin I1.env0 b r q) fun r s' hq => ?_)
  cases r with
  | error e => exact hq.elim
  | ok fl =>
    cases fl with
    | ret u => exact I1.after hq
    | next => exact hq.elim
    | brk => exact hq.elim
    | cont => exact hq.elim
end

/-! ### isinstance of the caught exception, with its dict -/
/-- isinstance(e, c), e the exception that the suite holds, of the class at D, its dict d -/
def rIsD (K : PySem.W.Frag) (D a : Addr) (d : Option Addr) : List V → Hp → VK → Prop := fun xs H Q => ∃ (c : V) (cv : Value) (b : Bool), xs = [.ref a, c] ∧ (∀ u, RelV c u → u = cv) ∧ PySem.W.kitOne K (.ref D) cv = some b ∧
  (d = none ∨ ∃ dd fs, d = some dd ∧ H dd = some (.xd fs)) ∧ Q (.bl b) H
theorem call_isD {X : Cx} {a D : Addr} {d : Option Addr} {oe : Obj} {pn : List (Addr × Obj)} (C : ExcC X.K D) (hz : Zc (.ref D) d oe) (hf : ∃ vs, oe.data = .fields vs) :
    CallR (X.suite a ((a, oe) :: pn)) (.builtin "isinstance") (rIsD X.K D a d) := by
  intro pins s σ H xs us Q I r h
  obtain ⟨c, cv, b, rfl, hcv, e, hd, q⟩ := h
  have hget := (I.pin (a, oe) (List.mem_append_left _ List.mem_cons_self)).1
  obtain ⟨u1, u2, rfl, r1, r2⟩ := vals2 r
  have e1 : u1 = .ref a := r1
  have e2 := hcv _ r2
  subst e1 e2
  obtain ⟨vs, hv⟩ := hf
  have hcl : (PySem.W.clsIn X.K D).isSome = true := by
    obtain ⟨cd, hc, _⟩ := PySem.W.any_some C.hd
    rw [hc]
    rfl
  have J : ∃ od, PySem.W.InstAt s.heap a oe D od := by
    obtain ⟨oc, odd, oda, osl⟩ := oe
    obtain ⟨h1, h2⟩ := hz
    have h1' : oc = .ref D := h1
    have h2' : odd = d := h2
    have hv' : oda = .fields vs := hv
    subst h1' h2' hv'
    cases hd with
    | inl z =>
      subst z
      exact ⟨none, hget, rfl, rfl, trivial⟩
    | inr z =>
      obtain ⟨dd, fs, e3, e4⟩ := z
      subst e3
      have hx : ObjOk X.prog X.w H s.heap dd (.xd fs) := I.hok dd _ e4
      obtain ⟨mA, hns, _⟩ := hx
      obtain ⟨od, ho, _⟩ := lookIn_ns hns
      exact ⟨some od, hget, rfl, rfl, ho⟩
  obtain ⟨od, J⟩ := J
  exact PySem.W.kia_one (PySem.W.kitx_exc hcl C.hg C.hk C.hs C.ha C.hn C.ht C.hm) I.kIn J e (fun z => nomatch z) fun tk => ⟨.bl b, H, I.kept (t' := tk) fun _ _ z => z, rfl, q⟩
end LX

set_option Elab.async false
set_option linter.all false
set_option maxRecDepth 100000
set_option maxHeartbeats 4000000
/-! Own rules: the facts that a head tells (beyond the layer's), own exceptions made and raised in short. -/
namespace LX
open PySem PySem.Spec PyProof.Rows L2

/-! ### facts of the written part, by names -/
inductive Fb where
  | oex (x : Str) | xf (x : Str) | exq (x : Str) | ini (x : Str) | vei (x : Str) | cfn (x m : Str) | kit (x y : Str) (b : Bool) | kty (x : Str) (y : String) (b : Bool) | con (x f : Str)
def oexB (K : PySem.W.Frag) (C : Addr) : Bool :=
  (match K.lookup C with
    | some ⟨.type "type", _, .cls cd, sl⟩ => (match cd.mro, sl.toList with
      | .ref C' :: bm, [_, _, _, _, some (.builtin n), _] => C' == C && n == "ValueError.__new__" && !cd.hasDel && cd.hasDict && PySem.HandSPX.refsVE bm
      | _, _ => false)
    | _ => false) && (He.eqO (PySem.W.findIn K (.ref C) "__setattr__") (some (some (.builtin "object.__setattr__"))) && (decide (PySem.W.subIn K (.ref C) (.type "BaseException") = some true) &&
    (decide (PySem.W.typeIn K (.ref C) = some (.type "type")) && PySem.W.keepIn K (.ref C))))
theorem oexB_ok {K : PySem.W.Frag} {C : Addr} (h : oexB K C = true) : OexC K C := by
  obtain ⟨h1, h⟩ := Bool.and_eq_true_iff.mp h
  obtain ⟨h2, h⟩ := Bool.and_eq_true_iff.mp h
  obtain ⟨h3, h⟩ := Bool.and_eq_true_iff.mp h
  obtain ⟨h4, h5⟩ := Bool.and_eq_true_iff.mp h
  refine ⟨?_, He.eqO_ok h2, of_decide_eq_true h3, of_decide_eq_true h4, h5⟩
  split at h1
  · rename_i dd cd sl ho
    split at h1
    · rename_i C' bm k0 k1 k2 k3 n k5 hm hs
      simp only [Bool.and_eq_true, beq_iff_eq, Bool.not_eq_true'] at h1
      obtain ⟨⟨⟨⟨e1, e2⟩, e3⟩, e4⟩, e5⟩ := h1
      subst e1 e2
      obtain ⟨nm, bs, mro, ns, qn, hd, sn, sub, ab, col, dl⟩ := cd
      dsimp only at hm e3 e4
      subst hm e3 e4
      have hsl : sl = #[k0, k1, k2, k3, some (.builtin "ValueError.__new__"), k5] := by
        obtain ⟨l⟩ := sl
        simp only at hs
        rw [hs]
      subst hsl
      exact ⟨nm, qn, ns, bs, bm, sn, sub, ab, col, dd, k0, k1, k2, k3, k5, ho, e5⟩
    · cases h1
  · cases h1
def excB (K : PySem.W.Frag) (C : Addr) : Bool := xfB K C && (He.eqO (PySem.W.findIn K (.ref C) "__class__") (some (some (.builtin "object.__class__"))) &&
  (He.eqO (PySem.W.specialIn K (.builtin "object.__class__") "__get__") (some (some (.builtin "getset_descriptor.__get__"))) && (decide (PySem.W.takesIn K (.builtin "object.__class__") = some true) && decide (PySem.W.mroIn K C (.type "object") = some true))))
theorem excB_ok {K : PySem.W.Frag} {C : Addr} (h : excB K C = true) : ExcC K C := by
  obtain ⟨h1, h⟩ := Bool.and_eq_true_iff.mp h
  obtain ⟨h2, h⟩ := Bool.and_eq_true_iff.mp h
  obtain ⟨h3, h⟩ := Bool.and_eq_true_iff.mp h
  obtain ⟨h4, h5⟩ := Bool.and_eq_true_iff.mp h
  have q := xfB_ok h1
  exact ⟨q.ga, q.gg, q.exC, q.hdC, He.eqO_ok h2, He.eqO_ok h3, of_decide_eq_true h4, of_decide_eq_true h5⟩
def clsAtB (K : PySem.W.Frag) (B : Addr) (m : Str) (v : Value) : Bool := He.eqO (PySem.W.specialIn K (.ref B) "__getattribute__") (some (some (.builtin "type.__getattribute__"))) && (PySem.W.readsIn K B (.type "type") &&
  ((match PySem.W.findCls K (.ref B) (.type "type") m with
    | some (.val u) => decide (u = v)
    | _ => false) && PySem.W.handedIn v))
theorem clsAtB_ok {K : PySem.W.Frag} {B : Addr} {m : Str} {v : Value} (h : clsAtB K B m v = true) : ClsAt K B m v := by
  obtain ⟨h1, h⟩ := Bool.and_eq_true_iff.mp h
  obtain ⟨h2, h⟩ := Bool.and_eq_true_iff.mp h
  obtain ⟨h3, h4⟩ := Bool.and_eq_true_iff.mp h
  refine ⟨He.eqO_ok h1, h2, ?_, h4⟩
  split at h3
  · rename_i u hu
    rw [hu, of_decide_eq_true h3]
  · cases h3
def Fb.ok (K : PySem.W.Frag) : Fb → Bool
  | .oex x => oexB K (He.ga K x)
  | .xf x => excB K (He.ga K x)
  | .exq x => PySem.W.excIn K (He.ga K x) He.veBase "ValueError.__new__"
  | .ini x => He.eqO (PySem.W.findIn K (.ref (He.ga K x)) "__init__") (some (some (.ref (He.ma K (He.ga K x) "__init__")))) && decide (PySem.W.typeIn K (.ref (He.ma K (He.ga K x) "__init__")) = some (.type "function"))
  | .vei x => clsAtB K (He.ga K x) "__init__" (.builtin "ValueError.__init__")
  | .cfn x m => clsAtB K (He.ga K x) m (.ref (He.ma K (He.ga K x) m))
  | .kit x y b => decide (PySem.W.kitOne K (.ref (He.ga K x)) (.ref (He.ga K y)) = some b)
  | .kty x y b => decide (PySem.W.kitOne K (.ref (He.ga K x)) (.type y) = some b)
  | .con x f => He.eqO (PySem.W.findIn K (.ref (He.ga K x)) f) (some none)
/-! ### the Hook -/
def fbAll (fb : List Fb) (K : PySem.W.Frag) : Bool := fb.all fun f => f.ok K
def obsM (fa : List He.Fa) (fn : List He.DefD) (fb : List Fb) (K : PySem.W.Frag) : He.AlD × Bool := (He.obsD fa fn K, fbAll fb K)
def valM (fn : List He.DefD) : He.AlD × Bool := (He.valD fn, true)
def asM (g : Addr → Option Obj) (n : Nat) : List Addr := He.asD g n ++ [cStatics]
def obsMG (n : Nat) (fa : List He.Fa) (fn : List He.DefD) (fb : List Fb) (g : Addr → Option Obj) : He.AlD × Bool := obsM fa fn fb (He.frG g (asM g n))
def hookM (n : Nat) (fa : List He.Fa) (fn : List He.DefD) (fb : List Fb) : PySem.W.Hook where
  α := He.AlD × Bool
  obs := fun s => obsMG n fa fn fb s.heap.get?
  val := fun _ => valM fn
  says := fun _ h => ∃ K : PySem.W.Frag, K.In h ∧ obsM fa fn fb K = valM fn
  of := fun _ _ e => ⟨_, He.frG_in, e⟩
  keeps := fun _ _ _ ⟨K, hK, c⟩ k => ⟨K, PySem.W.Frag.In.keeps hK k, c⟩
theorem obsMG_eq {n : Nat} {fa : List He.Fa} {fn : List He.DefD} {fb : List Fb} {g : Addr → Option Obj} {s : Shared} (h : ∀ a, g a = s.heap.get? a) : obsMG n fa fn fb g = (hookM n fa fn fb).obs s := by
  have e : g = s.heap.get? := funext h
  rw [e]
  rfl
/-- all that a text's proofs lean on: the written part K, the module's names -/
structure Tx (fa : List He.Fa) (fn : List He.DefD) (fb : List Fb) (K : PySem.W.Frag) (mg : Str → Option Value) : Prop where
  says : obsM fa fn fb K = valM fn
  ns : ∃ h : Heap, K.In h ∧ h.Ns mainGlobals mg
section
variable {fa : List He.Fa} {fn : List He.DefD} {fb : List Fb} {K : PySem.W.Frag} {mg : Str → Option Value}
theorem Tx.d (T : Tx fa fn fb K mg) : He.SaysD fa fn K := congrArg (fun z : He.AlD × Bool => z.1) T.says
theorem Tx.fact (T : Tx fa fn fb K mg) (i : Nat) {f : He.Fa} (h : fa[i]? = some f) : f.ok K = true := T.d.fact i h
theorem Tx.fb_ (T : Tx fa fn fb K mg) (i : Nat) {f : Fb} (h : fb[i]? = some f) : f.ok K = true := by
  have e : fbAll fb K = true := congrArg (fun z : He.AlD × Bool => z.2) T.says
  exact List.all_eq_true.mp e f (List.mem_of_getElem? h)
theorem Tx.glo (T : Tx fa fn fb K mg) (i : Nat) {x : Str} (h : fa[i]? = some (.glo x)) : mg x = some (.ref (He.ga K x)) := by
  obtain ⟨hp, X, G⟩ := T.ns
  exact He.glo_ok X G (T.fact i h)
theorem Tx.free (T : Tx fa fn fb K mg) (i : Nat) {x : Str} (h : fa[i]? = some (.free x)) : mg x = none := by
  obtain ⟨hp, X, G⟩ := T.ns
  exact He.free_ok X G (T.fact i h)
theorem Tx.int (T : Tx fa fn fb K mg) (i : Nat) {x : Str} {n : Int} (h : fa[i]? = some (.int x n)) : ∃ t, mg x = some (.int n t) := by
  obtain ⟨hp, X, G⟩ := T.ns
  exact He.int_ok X G (T.fact i h)
end
/-- the function object at p -/
def fdOf (K : PySem.W.Frag) (p : Str × Option Str) : FuncData := match K.lookup (He.fAd K p) with
  | some ⟨_, _, .func fd, _⟩ => fd
  | _ => default
theorem fdOf_eq {K : PySem.W.Frag} {x qual : Str} {params : Arguments} {body : List Stmt} {scope : Scope} {dvs : List V} {kws : List (Str × V)} {p : Str × Option Str} {fd : FuncData} (F : FunD K x qual params body scope dvs kws (He.fAd K p) fd) : fd = fdOf K p := by
  obtain ⟨oc, od, dV, kV, doc, pm, an, cdv, ct, osl, e, lk, _⟩ := F.ex
  unfold fdOf
  rw [lk]
theorem Tx.fn {fa : List He.Fa} {fn : List He.DefD} {fb : List Fb} {K : PySem.W.Frag} {mg : Str → Option Value} (T : Tx fa fn fb K mg) (i : Nat) {d : He.DefD} (h : fn[i]? = some d) :
    FunD K d.name d.qual d.params d.body d.scope (d.dvs K) (d.kws K) (He.fAd K d.at_) (fdOf K d.at_) := by
  obtain ⟨fd, F⟩ := T.d.def_ i h
  have e := fdOf_eq F
  subst e
  exact F

/-! ### exceptions -/
theorem passX0 {X : Cx} : Passes (L2.CX X.prog X.w) X E0 := fun _ _ _ _ _ _ _ h => by
  obtain ⟨_, _, _, _, _, _, _, _, _, _, _, _, z⟩ := h
  exact z.elim
theorem passXF {X : Cx} : Passes (L2.CX X.prog X.w) X (fun _ _ _ => False) := passX0
theorem PMk.imp {X : Cx} {e : Expr} {t t' : L2.St → Hp → XK → Prop} (h : PMk X e t) (i : ∀ σ H Q, t' σ H Q → t σ H Q) : PMk X e t' := fun pins s σ H Q I q => h pins s σ H Q I (i σ H Q q)
/-- what an exception's __init__ promises: the fields fs, the last stored first -/
def spX1 (K : PySem.W.Frag) (C : Addr) (f : Str) : Sp := fun vs H Q _ => ∃ (a : Addr) (y : V), vs = [.ref a, y] ∧ H a = some (exo a C none) ∧ ∀ dx, H dx = none → dx ≠ a → Q .non (upd (upd H dx (exd dx [(f, y)])) a (exo a C (some dx)))
def spX2 (K : PySem.W.Frag) (C : Addr) (f g : Str) : Sp := fun vs H Q _ => ∃ (a : Addr) (y z : V), vs = [.ref a, y, z] ∧ H a = some (exo a C none) ∧ ∀ dx, H dx = none → dx ≠ a → Q .non (upd (upd (upd H dx (exd dx [(f, y)])) a (exo a C (some dx))) dx (exd dx [(g, z), (f, y)]))
/-- X(e), X(e, e2): the new exception's class, its dict's address -/
def tMk1 (C : Addr) (f : Str) (te : TE) : L2.St → Hp → XK → Prop := fun σ H Q => te σ H fun y H1 => ∀ d, H1 d = none → Q (.ref C) (some d) (upd H1 d (.xd [(f, y)]))
def tMk2 (C : Addr) (f g : Str) (te tu : TE) : L2.St → Hp → XK → Prop := fun σ H Q => te σ H fun y H1 => tu σ H1 fun z H2 => ∀ d, H2 d = none → Q (.ref C) (some d) (upd H2 d (.xd [(g, z), (f, y)]))
/-- a reading for each i of which p holds -/
theorem pe_given {ι : Type} {X : Cx} {e : Expr} {p : ι → Prop} {t : ι → TE} (h : ∀ i, p i → PE X e (t i)) : PE X e (fun σ H Q => ∃ i, p i ∧ t i σ H Q) := by
  constructor
  intro pins s σ H Q I ⟨i, hp, q⟩
  exact (h i hp).run pins s σ H Q I q
/-- a reading whose end may be weakened -/
def tMono (te : TE) : TE := fun σ H Q => ∃ Q0 : VK, te σ H Q0 ∧ ∀ v H', Q0 v H' → Q v H'
theorem pe_mono {X : Cx} {e : Expr} {te : TE} (h : PE X e te) : PE X e (tMono te) := by
  constructor
  intro pins s σ H Q I ⟨Q0, q, i⟩
  refine thn (h.run pins s σ H Q0 I q) fun u s1 hh => ?_
  obtain ⟨v, H1, I1, r1, q1⟩ := hh
  exact ⟨v, H1, I1, r1, i v H1 q1⟩
section
variable {X : Cx} {C fI : Addr} {x f g : Str} {k : Nat} {fd : FuncData} {ps : List Str} {e e2 : Expr} {te tu : TE} {p pos : Pos}
theorem heap1 {H1 : Hp} {a d : Addr} {o1 o2 o3 o4 : HO} (ha : H1 a = none) (hd : d ≠ a) : upd (del (upd (upd (upd H1 a o1) d o2) a o3) a) d o4 = upd H1 d o4 := by
  funext b
  by_cases e1 : b = d
  · subst e1
    rw [upd_same, upd_same]
  · rw [upd_ne e1, upd_ne e1]
    by_cases e2 : b = a
    · rw [e2, del_same, ha]
    · rw [del_ne e2, upd_ne e2, upd_ne e1, upd_ne e2]
theorem heap2 {H1 : Hp} {a d : Addr} {o1 o2 o3 o4 o5 : HO} (ha : H1 a = none) (hd : d ≠ a) : upd (del (upd (upd (upd (upd H1 a o1) d o2) a o3) d o5) a) d o4 = upd H1 d o4 := by
  funext b
  by_cases e1 : b = d
  · subst e1
    rw [upd_same, upd_same]
  · rw [upd_ne e1, upd_ne e1]
    by_cases e2 : b = a
    · rw [e2, del_same, ha]
    · rw [del_ne e2, upd_ne e1, upd_ne e2, upd_ne e1, upd_ne e2]
theorem pmk_1 (T : OexC X.K C) (iC : PySem.W.findIn X.K (.ref C) "__init__" = some (some (.ref fI))) (tI : PySem.W.typeIn X.K (.ref fI) = some (.type "function"))
    (F1 : FnOk X.prog X.w X.K X.mg X.base (L2.CX X.prog X.w) k fI fd ps (spX1 X.K C f)) (hr : Room (k + 1) X.A) (hb : Binds X.K fd ps []) (hg : Gl X x) (hm : X.mg x = some (.ref C)) (he : PE X e te)
    (hdb : (x == ("__debug__" : Str)) = false := by decide) (hs : starEach (e :: []) X.env = (false, eval e X.env) :: starEach [] X.env := by rfl) (hpl : (backTo pos (starEach [] X.env)).any (·.1) = false := by rfl) :
    PMk X (.Call (.Name x p) [e] [] pos) (tMk1 C f te) := by
  refine PMk.imp (pmk_oex T iC tI F1 hr hb .nil passXF hg hm (pa_cons (pe_mono he) pa_nil hs) hdb hs hpl) fun σ H Q q => ?_
  refine ⟨_, q, fun y H1 q1 => ⟨Nat.le_of_ble_eq_true rfl, fun a ha => ⟨a, y, rfl, upd_same, fun dx hdx hne => ?_⟩⟩⟩
  rw [upd_ne hne] at hdx
  exact ⟨rfl, dx, _, upd_same, by rw [upd_ne hne, upd_same], hdx, by rw [heap1 ha hne]; exact q1 dx hdx⟩
theorem pmk_2 (T : OexC X.K C) (iC : PySem.W.findIn X.K (.ref C) "__init__" = some (some (.ref fI))) (tI : PySem.W.typeIn X.K (.ref fI) = some (.type "function"))
    (F1 : FnOk X.prog X.w X.K X.mg X.base (L2.CX X.prog X.w) k fI fd ps (spX2 X.K C f g)) (hr : Room (k + 1) X.A) (hb : Binds X.K fd ps []) (hg : Gl X x) (hm : X.mg x = some (.ref C)) (he : PE X e te) (he2 : PE X e2 tu)
    (hdb : (x == ("__debug__" : Str)) = false := by decide) (hs : starEach (e :: [e2]) X.env = (false, eval e X.env) :: starEach [e2] X.env := by rfl) (hs2 : starEach (e2 :: []) X.env = (false, eval e2 X.env) :: starEach [] X.env := by rfl) (hpl : (backTo pos (starEach [e2] X.env)).any (·.1) = false := by rfl) :
    PMk X (.Call (.Name x p) [e, e2] [] pos) (tMk2 C f g te tu) := by
  refine PMk.imp (pmk_oex T iC tI F1 hr hb .nil passXF hg hm (pa_cons (pe_mono he) (pa_cons (pe_mono he2) pa_nil hs2) hs) hdb hs hpl) fun σ H Q q => ?_
  refine ⟨_, q, fun y H1 q1 => ⟨_, q1, fun z H2 q2 => ⟨Nat.le_of_ble_eq_true rfl, fun a ha => ⟨a, y, z, rfl, upd_same, fun dx hdx hne => ?_⟩⟩⟩⟩
  rw [upd_ne hne] at hdx
  exact ⟨rfl, dx, _, by rw [upd_ne (Ne.symm hne), upd_same], upd_same, hdx, by rw [heap2 ha hne]; exact q2 dx hdx⟩
/-- X() of a class without own __init__ -/
theorem pmk_0 {bmB : List Value} {B newId initId : String} (F : ExcBaseFacts B newId initId bmB) (q : PySem.W.excIn X.K C bmB newId = true) (gC : X.mg x = some (.ref C)) (kC : PySem.W.keepIn X.K (.ref C) = true) (r : Raises X (.ref C)) (hg : Gl X x)
    (hdb : (x == ("__debug__" : Str)) = false := by decide) : PMk X (.Call (.Name x p) [] [] pos) (fun _ H Q => Q (.ref C) none H) := by
  intro pins s σ H Q I h
  refine wpAny_Call_Name_kw (ld_glob I hg gC ?_ hdb)
  refine PySem.W.callWith_K0 I.kIn kC ?_
  obtain ⟨bm, N, nm, qn, bs, hdct, sn, sub, ab, col, dd, k0, k1, k2, k3, k5, mN, hC, hN, hni, T⟩ := exc_obj I.kIn q
  apply wpAny_call_exc_subT F T hC hN hni
  · intro h' e hm
    exact mk_of I hm r h (I.hok.gone hm.new)
end
end LX
namespace LX
open PySem PySem.Spec PyProof.Rows L2
theorem iniB_ok {K : PySem.W.Frag} {C f : Addr} (h : (He.eqO (PySem.W.findIn K (.ref C) "__init__") (some (some (.ref f))) && decide (PySem.W.typeIn K (.ref f) = some (.type "function"))) = true) :
    PySem.W.findIn K (.ref C) "__init__" = some (some (.ref f)) ∧ PySem.W.typeIn K (.ref f) = some (.type "function") := by
  obtain ⟨h1, h2⟩ := Bool.and_eq_true_iff.mp h
  exact ⟨He.eqO_ok h1, of_decide_eq_true h2⟩
end LX
namespace LX
open PySem PySem.Spec PyProof.Rows L2
/-- a def that lets nothing out -/
theorem calm_of {P : Program} {w : World} {K : PySem.W.Frag} {mg : Str → Option Value} {base : Heap} {k : Nat} {f : Addr} {fd : FuncData} {ps : List Str} {sp : Sp} (F : FnOk P w K mg base (L2.CX P w) k f fd ps sp) :
    FnOk P w K mg base CX0 k f fd ps (fun vs H Q _ => sp vs H Q E0) := by
  constructor
  · intro vs H Q E h
    exact F.len vs H Q E0 h
  intro A outer s H args us vs Q E hr e0 hb r hsp
  refine codeAny_mono (F.run A outer s H args us vs Q E0 hr e0 hb r hsp) fun rr s' hq => ?_
  cases rr with
  | ok fl => cases fl <;> exact hq
  | error e =>
    obtain ⟨_, _, _, _, _, _, _, _, _, _, _, _, z⟩ := hq
    exact z.elim
end LX

set_option Elab.async false
set_option linter.all false
set_option maxRecDepth 100000
set_option maxHeartbeats 4000000
/-! The text by places, the head (printed by gen.py). -/
namespace K06
open PySem PySem.Spec PyProof.Rows L2 LX
def top (i : Nat) : Stmt := PySem.Challenge.pw_lettercell_k06_what_is_refused.main.body.getD i (.Pass ⟨0, 0, 0, 0⟩)
abbrev s_NoSuch___init__ : Stmt := inClass (top 3) 0
theorem sc_NoSuch___init__ : FnScope ["self", "name"] ["self", "name"] (defScope s_NoSuch___init__) := ⟨rfl, rfl, rfl, by decide +kernel, rfl, by decide +kernel, by decide +kernel⟩
abbrev s_Doubled___init__ : Stmt := inClass (top 4) 0
theorem sc_Doubled___init__ : FnScope ["self", "name"] ["self", "name"] (defScope s_Doubled___init__) := ⟨rfl, rfl, rfl, by decide +kernel, rfl, by decide +kernel, by decide +kernel⟩
abbrev s_Broken___init__ : Stmt := inClass (top 5) 0
theorem sc_Broken___init__ : FnScope ["self", "line"] ["self", "line"] (defScope s_Broken___init__) := ⟨rfl, rfl, rfl, by decide +kernel, rfl, by decide +kernel, by decide +kernel⟩
abbrev s_Fenced___init__ : Stmt := inClass (top 7) 0
theorem sc_Fenced___init__ : FnScope ["self", "life"] ["self", "life"] (defScope s_Fenced___init__) := ⟨rfl, rfl, rfl, by decide +kernel, rfl, by decide +kernel, by decide +kernel⟩
abbrev s_Gap___init__ : Stmt := inClass (top 8) 0
theorem sc_Gap___init__ : FnScope ["self", "due"] ["self", "due"] (defScope s_Gap___init__) := ⟨rfl, rfl, rfl, by decide +kernel, rfl, by decide +kernel, by decide +kernel⟩
abbrev s_TooOld___init__ : Stmt := inClass (top 9) 0
theorem sc_TooOld___init__ : FnScope ["self", "number"] ["self", "number"] (defScope s_TooOld___init__) := ⟨rfl, rfl, rfl, by decide +kernel, rfl, by decide +kernel, by decide +kernel⟩
abbrev s_Late___init__ : Stmt := inClass (top 11) 0
theorem sc_Late___init__ : FnScope ["self", "row", "loan"] ["self", "row", "loan"] (defScope s_Late___init__) := ⟨rfl, rfl, rfl, by decide +kernel, rfl, by decide +kernel, by decide +kernel⟩
abbrev s_NotYours___init__ : Stmt := inClass (top 12) 0
theorem sc_NotYours___init__ : FnScope ["self", "row", "owner"] ["self", "row", "owner"] (defScope s_NotYours___init__) := ⟨rfl, rfl, rfl, by decide +kernel, rfl, by decide +kernel, by decide +kernel⟩
abbrev s_Twice___init__ : Stmt := inClass (top 13) 0
theorem sc_Twice___init__ : FnScope ["self", "row", "loan"] ["self", "row", "loan"] (defScope s_Twice___init__) := ⟨rfl, rfl, rfl, by decide +kernel, rfl, by decide +kernel, by decide +kernel⟩
abbrev s_Busy___init__ : Stmt := inClass (top 15) 0
theorem sc_Busy___init__ : FnScope ["self", "deed"] ["self", "deed"] (defScope s_Busy___init__) := ⟨rfl, rfl, rfl, by decide +kernel, rfl, by decide +kernel, by decide +kernel⟩
abbrev s_NoDeed___init__ : Stmt := inClass (top 16) 0
theorem sc_NoDeed___init__ : FnScope ["self", "name"] ["self", "name"] (defScope s_NoDeed___init__) := ⟨rfl, rfl, rfl, by decide +kernel, rfl, by decide +kernel, by decide +kernel⟩
abbrev s_WrongKind___init__ : Stmt := inClass (top 18) 0
theorem sc_WrongKind___init__ : FnScope ["self", "row"] ["self", "row"] (defScope s_WrongKind___init__) := ⟨rfl, rfl, rfl, by decide +kernel, rfl, by decide +kernel, by decide +kernel⟩
abbrev s_Needed___init__ : Stmt := inClass (top 19) 0
theorem sc_Needed___init__ : FnScope ["self", "row", "place"] ["self", "row", "place"] (defScope s_Needed___init__) := ⟨rfl, rfl, rfl, by decide +kernel, rfl, by decide +kernel, by decide +kernel⟩
abbrev s_Gone___init__ : Stmt := inClass (top 20) 0
theorem sc_Gone___init__ : FnScope ["self", "row", "place"] ["self", "row", "place"] (defScope s_Gone___init__) := ⟨rfl, rfl, rfl, by decide +kernel, rfl, by decide +kernel, by decide +kernel⟩
abbrev s_Beyond___init__ : Stmt := inClass (top 21) 0
theorem sc_Beyond___init__ : FnScope ["self", "row", "place"] ["self", "row", "place"] (defScope s_Beyond___init__) := ⟨rfl, rfl, rfl, by decide +kernel, rfl, by decide +kernel, by decide +kernel⟩
abbrev s__law_cell_at : Stmt := top 23
theorem sc__law_cell_at : FnScope ["_law_script", "_law_k"] ["_law_script", "_law_k"] (defScope s__law_cell_at) := ⟨rfl, rfl, rfl, by decide +kernel, rfl, by decide +kernel, by decide +kernel⟩
abbrev s__law_mixed : Stmt := top 24
theorem sc__law_mixed : FnScope ["_law_cell", "_law_k", "_law_number"] ["_law_cell", "_law_k"] (defScope s__law_mixed) := ⟨rfl, rfl, rfl, by decide +kernel, rfl, by decide +kernel, by decide +kernel⟩
abbrev s__law_kinds : Stmt := top 25
theorem sc__law_kinds : FnScope ["_law_e", "_law_found"] ["_law_e"] (defScope s__law_kinds) := ⟨rfl, rfl, rfl, by decide +kernel, rfl, by decide +kernel, by decide +kernel⟩
abbrev s__law_gathered : Stmt := top 26
theorem sc__law_gathered : FnScope ["_law_e", "_law_found"] ["_law_e"] (defScope s__law_gathered) := ⟨rfl, rfl, rfl, by decide +kernel, rfl, by decide +kernel, by decide +kernel⟩
abbrev s__law_raise_first : Stmt := top 27
theorem sc__law_raise_first : FnScope ["_law_which", "_law_one"] ["_law_which", "_law_one"] (defScope s__law_raise_first) := ⟨rfl, rfl, rfl, by decide +kernel, rfl, by decide +kernel, by decide +kernel⟩
abbrev s__law_raise_more : Stmt := top 28
theorem sc__law_raise_more : FnScope ["_law_which", "_law_one", "_law_other"] ["_law_which", "_law_one", "_law_other"] (defScope s__law_raise_more) := ⟨rfl, rfl, rfl, by decide +kernel, rfl, by decide +kernel, by decide +kernel⟩
abbrev s__law_fields_first : Stmt := top 29
theorem sc__law_fields_first : FnScope ["_law_e"] ["_law_e"] (defScope s__law_fields_first) := ⟨rfl, rfl, rfl, by decide +kernel, rfl, by decide +kernel, by decide +kernel⟩
abbrev s__law_fields_more : Stmt := top 30
theorem sc__law_fields_more : FnScope ["_law_e"] ["_law_e"] (defScope s__law_fields_more) := ⟨rfl, rfl, rfl, by decide +kernel, rfl, by decide +kernel, by decide +kernel⟩
abbrev s__law_field : Stmt := top 31
theorem sc__law_field : FnScope ["_law_cell", "_law_k", "_law_way", "_law_number"] ["_law_cell", "_law_k"] (defScope s__law_field) := ⟨rfl, rfl, rfl, by decide +kernel, rfl, by decide +kernel, by decide +kernel⟩
abbrev s__law_due_fields : Stmt := top 32
theorem sc__law_due_fields : FnScope ["_law_which", "_law_one", "_law_other"] ["_law_which", "_law_one", "_law_other"] (defScope s__law_due_fields) := ⟨rfl, rfl, rfl, by decide +kernel, rfl, by decide +kernel, by decide +kernel⟩
abbrev s_law : Stmt := top 33
theorem sc_law : FnScope ["_law_script", "_law_k", "_law_cell", "_law_which", "_law_one", "_law_other", "_law_seen", "_law_e", "_law_fields", "_law_kinds_here", "_law_number", "_law_gathers"] ["_law_script"] (defScope s_law) := ⟨rfl, rfl, rfl, by decide +kernel, rfl, by decide +kernel, by decide +kernel⟩
def d_NoSuch___init__ : He.DefD := ⟨("NoSuch", some "__init__"), "__init__", "NoSuch.__init__", defArgs s_NoSuch___init__, defBody s_NoSuch___init__, defScope s_NoSuch___init__, [], []⟩
def d_Doubled___init__ : He.DefD := ⟨("Doubled", some "__init__"), "__init__", "Doubled.__init__", defArgs s_Doubled___init__, defBody s_Doubled___init__, defScope s_Doubled___init__, [], []⟩
def d_Broken___init__ : He.DefD := ⟨("Broken", some "__init__"), "__init__", "Broken.__init__", defArgs s_Broken___init__, defBody s_Broken___init__, defScope s_Broken___init__, [], []⟩
def d_Fenced___init__ : He.DefD := ⟨("Fenced", some "__init__"), "__init__", "Fenced.__init__", defArgs s_Fenced___init__, defBody s_Fenced___init__, defScope s_Fenced___init__, [], []⟩
def d_Gap___init__ : He.DefD := ⟨("Gap", some "__init__"), "__init__", "Gap.__init__", defArgs s_Gap___init__, defBody s_Gap___init__, defScope s_Gap___init__, [], []⟩
def d_TooOld___init__ : He.DefD := ⟨("TooOld", some "__init__"), "__init__", "TooOld.__init__", defArgs s_TooOld___init__, defBody s_TooOld___init__, defScope s_TooOld___init__, [], []⟩
def d_Late___init__ : He.DefD := ⟨("Late", some "__init__"), "__init__", "Late.__init__", defArgs s_Late___init__, defBody s_Late___init__, defScope s_Late___init__, [], []⟩
def d_NotYours___init__ : He.DefD := ⟨("NotYours", some "__init__"), "__init__", "NotYours.__init__", defArgs s_NotYours___init__, defBody s_NotYours___init__, defScope s_NotYours___init__, [], []⟩
def d_Twice___init__ : He.DefD := ⟨("Twice", some "__init__"), "__init__", "Twice.__init__", defArgs s_Twice___init__, defBody s_Twice___init__, defScope s_Twice___init__, [], []⟩
def d_Busy___init__ : He.DefD := ⟨("Busy", some "__init__"), "__init__", "Busy.__init__", defArgs s_Busy___init__, defBody s_Busy___init__, defScope s_Busy___init__, [], []⟩
def d_NoDeed___init__ : He.DefD := ⟨("NoDeed", some "__init__"), "__init__", "NoDeed.__init__", defArgs s_NoDeed___init__, defBody s_NoDeed___init__, defScope s_NoDeed___init__, [], []⟩
def d_WrongKind___init__ : He.DefD := ⟨("WrongKind", some "__init__"), "__init__", "WrongKind.__init__", defArgs s_WrongKind___init__, defBody s_WrongKind___init__, defScope s_WrongKind___init__, [], []⟩
def d_Needed___init__ : He.DefD := ⟨("Needed", some "__init__"), "__init__", "Needed.__init__", defArgs s_Needed___init__, defBody s_Needed___init__, defScope s_Needed___init__, [], []⟩
def d_Gone___init__ : He.DefD := ⟨("Gone", some "__init__"), "__init__", "Gone.__init__", defArgs s_Gone___init__, defBody s_Gone___init__, defScope s_Gone___init__, [], []⟩
def d_Beyond___init__ : He.DefD := ⟨("Beyond", some "__init__"), "__init__", "Beyond.__init__", defArgs s_Beyond___init__, defBody s_Beyond___init__, defScope s_Beyond___init__, [], []⟩
def d__law_cell_at : He.DefD := ⟨("_law_cell_at", none), "_law_cell_at", "_law_cell_at", defArgs s__law_cell_at, defBody s__law_cell_at, defScope s__law_cell_at, [], []⟩
def d__law_mixed : He.DefD := ⟨("_law_mixed", none), "_law_mixed", "_law_mixed", defArgs s__law_mixed, defBody s__law_mixed, defScope s__law_mixed, [], []⟩
def d__law_kinds : He.DefD := ⟨("_law_kinds", none), "_law_kinds", "_law_kinds", defArgs s__law_kinds, defBody s__law_kinds, defScope s__law_kinds, [], []⟩
def d__law_gathered : He.DefD := ⟨("_law_gathered", none), "_law_gathered", "_law_gathered", defArgs s__law_gathered, defBody s__law_gathered, defScope s__law_gathered, [], []⟩
def d__law_raise_first : He.DefD := ⟨("_law_raise_first", none), "_law_raise_first", "_law_raise_first", defArgs s__law_raise_first, defBody s__law_raise_first, defScope s__law_raise_first, [], []⟩
def d__law_raise_more : He.DefD := ⟨("_law_raise_more", none), "_law_raise_more", "_law_raise_more", defArgs s__law_raise_more, defBody s__law_raise_more, defScope s__law_raise_more, [], []⟩
def d__law_fields_first : He.DefD := ⟨("_law_fields_first", none), "_law_fields_first", "_law_fields_first", defArgs s__law_fields_first, defBody s__law_fields_first, defScope s__law_fields_first, [], []⟩
def d__law_fields_more : He.DefD := ⟨("_law_fields_more", none), "_law_fields_more", "_law_fields_more", defArgs s__law_fields_more, defBody s__law_fields_more, defScope s__law_fields_more, [], []⟩
def d__law_field : He.DefD := ⟨("_law_field", none), "_law_field", "_law_field", defArgs s__law_field, defBody s__law_field, defScope s__law_field, [], []⟩
def d__law_due_fields : He.DefD := ⟨("_law_due_fields", none), "_law_due_fields", "_law_due_fields", defArgs s__law_due_fields, defBody s__law_due_fields, defScope s__law_due_fields, [], []⟩
def d_law : He.DefD := ⟨("law", none), "law", "law", defArgs s_law, defBody s_law, defScope s_law, [], []⟩
def fn : List He.DefD := [d_NoSuch___init__, d_Doubled___init__, d_Broken___init__, d_Fenced___init__, d_Gap___init__, d_TooOld___init__, d_Late___init__, d_NotYours___init__, d_Twice___init__, d_Busy___init__, d_NoDeed___init__, d_WrongKind___init__, d_Needed___init__, d_Gone___init__, d_Beyond___init__, d__law_cell_at, d__law_mixed, d__law_kinds, d__law_gathered, d__law_raise_first, d__law_raise_more, d__law_fields_first, d__law_fields_more, d__law_field, d__law_due_fields, d_law]
def fa0 : List He.Fa := [.glo "_law_cell_at", .glo "_law_mixed", .glo "_law_kinds", .glo "_law_gathered", .glo "_law_raise_first", .glo "_law_raise_more", .glo "_law_fields_first", .glo "_law_fields_more", .glo "_law_field", .glo "_law_due_fields", .glo "law", .glo "CellarError", .glo "BadWord", .glo "NoSuch", .glo "Doubled", .glo "Broken"]
def fa1 : List He.Fa := [.glo "SenderError", .glo "Fenced", .glo "Gap", .glo "TooOld", .glo "LoanError", .glo "Late", .glo "NotYours", .glo "Twice", .glo "DeedError", .glo "Busy", .glo "NoDeed", .glo "RowError", .glo "WrongKind", .glo "Needed", .glo "Gone", .glo "Beyond"]
def fa2 : List He.Fa := [.free "ValueError", .free "isinstance", .free "len", .free "range", .free "str", .keep "CellarError", .keep "BadWord", .noat "NoSuch" "name", .keep "NoSuch", .noat "Doubled" "name", .keep "Doubled", .noat "Broken" "line", .keep "Broken", .keep "SenderError", .noat "Fenced" "life", .keep "Fenced"]
def fa3 : List He.Fa := [.noat "Gap" "due", .keep "Gap", .noat "TooOld" "number", .keep "TooOld", .keep "LoanError", .noat "Late" "row", .noat "Late" "loan", .keep "Late", .noat "NotYours" "row", .noat "NotYours" "owner", .keep "NotYours", .noat "Twice" "row", .noat "Twice" "loan", .keep "Twice", .keep "DeedError", .noat "Busy" "deed"]
def fa4 : List He.Fa := [.keep "Busy", .noat "NoDeed" "name", .keep "NoDeed", .keep "RowError", .noat "WrongKind" "row", .keep "WrongKind", .noat "Needed" "row", .noat "Needed" "place", .keep "Needed", .noat "Gone" "row", .noat "Gone" "place", .keep "Gone", .noat "Beyond" "row", .noat "Beyond" "place", .keep "Beyond", .exm "BadWord" "CellarError" true]
def fa5 : List He.Fa := [.exm "Beyond" "CellarError" true, .exm "Broken" "CellarError" true, .exm "Busy" "CellarError" true, .exm "Doubled" "CellarError" true, .exm "Fenced" "CellarError" true, .exm "Gap" "CellarError" true, .exm "Gone" "CellarError" true, .exm "Late" "CellarError" true, .exm "Needed" "CellarError" true, .exm "NoDeed" "CellarError" true, .exm "NoSuch" "CellarError" true, .exm "NotYours" "CellarError" true, .exm "TooOld" "CellarError" true, .exm "Twice" "CellarError" true, .exm "WrongKind" "CellarError" true]
def fa : List He.Fa := fa0 ++ (fa1 ++ (fa2 ++ (fa3 ++ (fa4 ++ (fa5)))))
def fb0 : List Fb := [.oex "CellarError", .xf "CellarError", .exq "CellarError", .vei "CellarError", .oex "BadWord", .xf "BadWord", .exq "BadWord", .oex "NoSuch", .xf "NoSuch", .ini "NoSuch", .oex "Doubled", .xf "Doubled", .ini "Doubled", .oex "Broken", .xf "Broken", .ini "Broken"]
def fb1 : List Fb := [.oex "SenderError", .xf "SenderError", .exq "SenderError", .vei "SenderError", .oex "Fenced", .xf "Fenced", .ini "Fenced", .oex "Gap", .xf "Gap", .ini "Gap", .oex "TooOld", .xf "TooOld", .ini "TooOld", .oex "LoanError", .xf "LoanError", .exq "LoanError"]
def fb2 : List Fb := [.vei "LoanError", .oex "Late", .xf "Late", .ini "Late", .oex "NotYours", .xf "NotYours", .ini "NotYours", .oex "Twice", .xf "Twice", .ini "Twice", .oex "DeedError", .xf "DeedError", .exq "DeedError", .vei "DeedError", .oex "Busy", .xf "Busy"]
def fb3 : List Fb := [.ini "Busy", .oex "NoDeed", .xf "NoDeed", .ini "NoDeed", .oex "RowError", .xf "RowError", .exq "RowError", .vei "RowError", .oex "WrongKind", .xf "WrongKind", .ini "WrongKind", .oex "Needed", .xf "Needed", .ini "Needed", .oex "Gone", .xf "Gone"]
def fb4 : List Fb := [.ini "Gone", .oex "Beyond", .xf "Beyond", .ini "Beyond", .kit "BadWord" "BadWord" true, .kit "BadWord" "Beyond" false, .kit "BadWord" "Broken" false, .kit "BadWord" "Busy" false, .kit "BadWord" "DeedError" false, .kit "BadWord" "Doubled" false, .kit "BadWord" "Fenced" false, .kit "BadWord" "Gap" false, .kit "BadWord" "Gone" false, .kit "BadWord" "Late" false, .kit "BadWord" "LoanError" false, .kit "BadWord" "Needed" false]
def fb5 : List Fb := [.kit "BadWord" "NoDeed" false, .kit "BadWord" "NoSuch" false, .kit "BadWord" "NotYours" false, .kit "BadWord" "RowError" false, .kit "BadWord" "SenderError" false, .kit "BadWord" "TooOld" false, .kit "BadWord" "Twice" false, .kty "BadWord" "ValueError" true, .kit "BadWord" "WrongKind" false, .kit "Beyond" "BadWord" false, .kit "Beyond" "Beyond" true, .kit "Beyond" "Broken" false, .kit "Beyond" "Busy" false, .kit "Beyond" "DeedError" false, .kit "Beyond" "Doubled" false, .kit "Beyond" "Fenced" false]
def fb6 : List Fb := [.kit "Beyond" "Gap" false, .kit "Beyond" "Gone" false, .kit "Beyond" "Late" false, .kit "Beyond" "LoanError" false, .kit "Beyond" "Needed" false, .kit "Beyond" "NoDeed" false, .kit "Beyond" "NoSuch" false, .kit "Beyond" "NotYours" false, .kit "Beyond" "RowError" true, .kit "Beyond" "SenderError" false, .kit "Beyond" "TooOld" false, .kit "Beyond" "Twice" false, .kty "Beyond" "ValueError" true, .kit "Beyond" "WrongKind" false, .kit "Broken" "BadWord" false, .kit "Broken" "Beyond" false]
def fb7 : List Fb := [.kit "Broken" "Broken" true, .kit "Broken" "Busy" false, .kit "Broken" "DeedError" false, .kit "Broken" "Doubled" false, .kit "Broken" "Fenced" false, .kit "Broken" "Gap" false, .kit "Broken" "Gone" false, .kit "Broken" "Late" false, .kit "Broken" "LoanError" false, .kit "Broken" "Needed" false, .kit "Broken" "NoDeed" false, .kit "Broken" "NoSuch" false, .kit "Broken" "NotYours" false, .kit "Broken" "RowError" false, .kit "Broken" "SenderError" false, .kit "Broken" "TooOld" false]
def fb8 : List Fb := [.kit "Broken" "Twice" false, .kty "Broken" "ValueError" true, .kit "Broken" "WrongKind" false, .kit "Busy" "BadWord" false, .kit "Busy" "Beyond" false, .kit "Busy" "Broken" false, .kit "Busy" "Busy" true, .kit "Busy" "DeedError" true, .kit "Busy" "Doubled" false, .kit "Busy" "Fenced" false, .kit "Busy" "Gap" false, .kit "Busy" "Gone" false, .kit "Busy" "Late" false, .kit "Busy" "LoanError" false, .kit "Busy" "Needed" false, .kit "Busy" "NoDeed" false]
def fb9 : List Fb := [.kit "Busy" "NoSuch" false, .kit "Busy" "NotYours" false, .kit "Busy" "RowError" false, .kit "Busy" "SenderError" false, .kit "Busy" "TooOld" false, .kit "Busy" "Twice" false, .kty "Busy" "ValueError" true, .kit "Busy" "WrongKind" false, .kit "Doubled" "BadWord" false, .kit "Doubled" "Beyond" false, .kit "Doubled" "Broken" false, .kit "Doubled" "Busy" false, .kit "Doubled" "DeedError" false, .kit "Doubled" "Doubled" true, .kit "Doubled" "Fenced" false, .kit "Doubled" "Gap" false]
def fb10 : List Fb := [.kit "Doubled" "Gone" false, .kit "Doubled" "Late" false, .kit "Doubled" "LoanError" false, .kit "Doubled" "Needed" false, .kit "Doubled" "NoDeed" false, .kit "Doubled" "NoSuch" false, .kit "Doubled" "NotYours" false, .kit "Doubled" "RowError" false, .kit "Doubled" "SenderError" false, .kit "Doubled" "TooOld" false, .kit "Doubled" "Twice" false, .kty "Doubled" "ValueError" true, .kit "Doubled" "WrongKind" false, .kit "Fenced" "BadWord" false, .kit "Fenced" "Beyond" false, .kit "Fenced" "Broken" false]
def fb11 : List Fb := [.kit "Fenced" "Busy" false, .kit "Fenced" "DeedError" false, .kit "Fenced" "Doubled" false, .kit "Fenced" "Fenced" true, .kit "Fenced" "Gap" false, .kit "Fenced" "Gone" false, .kit "Fenced" "Late" false, .kit "Fenced" "LoanError" false, .kit "Fenced" "Needed" false, .kit "Fenced" "NoDeed" false, .kit "Fenced" "NoSuch" false, .kit "Fenced" "NotYours" false, .kit "Fenced" "RowError" false, .kit "Fenced" "SenderError" true, .kit "Fenced" "TooOld" false, .kit "Fenced" "Twice" false]
def fb12 : List Fb := [.kty "Fenced" "ValueError" true, .kit "Fenced" "WrongKind" false, .kit "Gap" "BadWord" false, .kit "Gap" "Beyond" false, .kit "Gap" "Broken" false, .kit "Gap" "Busy" false, .kit "Gap" "DeedError" false, .kit "Gap" "Doubled" false, .kit "Gap" "Fenced" false, .kit "Gap" "Gap" true, .kit "Gap" "Gone" false, .kit "Gap" "Late" false, .kit "Gap" "LoanError" false, .kit "Gap" "Needed" false, .kit "Gap" "NoDeed" false, .kit "Gap" "NoSuch" false]
def fb13 : List Fb := [.kit "Gap" "NotYours" false, .kit "Gap" "RowError" false, .kit "Gap" "SenderError" true, .kit "Gap" "TooOld" false, .kit "Gap" "Twice" false, .kty "Gap" "ValueError" true, .kit "Gap" "WrongKind" false, .kit "Gone" "BadWord" false, .kit "Gone" "Beyond" false, .kit "Gone" "Broken" false, .kit "Gone" "Busy" false, .kit "Gone" "DeedError" false, .kit "Gone" "Doubled" false, .kit "Gone" "Fenced" false, .kit "Gone" "Gap" false, .kit "Gone" "Gone" true]
def fb14 : List Fb := [.kit "Gone" "Late" false, .kit "Gone" "LoanError" false, .kit "Gone" "Needed" false, .kit "Gone" "NoDeed" false, .kit "Gone" "NoSuch" false, .kit "Gone" "NotYours" false, .kit "Gone" "RowError" true, .kit "Gone" "SenderError" false, .kit "Gone" "TooOld" false, .kit "Gone" "Twice" false, .kty "Gone" "ValueError" true, .kit "Gone" "WrongKind" false, .kit "Late" "BadWord" false, .kit "Late" "Beyond" false, .kit "Late" "Broken" false, .kit "Late" "Busy" false]
def fb15 : List Fb := [.kit "Late" "DeedError" false, .kit "Late" "Doubled" false, .kit "Late" "Fenced" false, .kit "Late" "Gap" false, .kit "Late" "Gone" false, .kit "Late" "Late" true, .kit "Late" "LoanError" true, .kit "Late" "Needed" false, .kit "Late" "NoDeed" false, .kit "Late" "NoSuch" false, .kit "Late" "NotYours" false, .kit "Late" "RowError" false, .kit "Late" "SenderError" false, .kit "Late" "TooOld" false, .kit "Late" "Twice" false, .kty "Late" "ValueError" true]
def fb16 : List Fb := [.kit "Late" "WrongKind" false, .kit "Needed" "BadWord" false, .kit "Needed" "Beyond" false, .kit "Needed" "Broken" false, .kit "Needed" "Busy" false, .kit "Needed" "DeedError" false, .kit "Needed" "Doubled" false, .kit "Needed" "Fenced" false, .kit "Needed" "Gap" false, .kit "Needed" "Gone" false, .kit "Needed" "Late" false, .kit "Needed" "LoanError" false, .kit "Needed" "Needed" true, .kit "Needed" "NoDeed" false, .kit "Needed" "NoSuch" false, .kit "Needed" "NotYours" false]
def fb17 : List Fb := [.kit "Needed" "RowError" true, .kit "Needed" "SenderError" false, .kit "Needed" "TooOld" false, .kit "Needed" "Twice" false, .kty "Needed" "ValueError" true, .kit "Needed" "WrongKind" false, .kit "NoDeed" "BadWord" false, .kit "NoDeed" "Beyond" false, .kit "NoDeed" "Broken" false, .kit "NoDeed" "Busy" false, .kit "NoDeed" "DeedError" true, .kit "NoDeed" "Doubled" false, .kit "NoDeed" "Fenced" false, .kit "NoDeed" "Gap" false, .kit "NoDeed" "Gone" false, .kit "NoDeed" "Late" false]
def fb18 : List Fb := [.kit "NoDeed" "LoanError" false, .kit "NoDeed" "Needed" false, .kit "NoDeed" "NoDeed" true, .kit "NoDeed" "NoSuch" false, .kit "NoDeed" "NotYours" false, .kit "NoDeed" "RowError" false, .kit "NoDeed" "SenderError" false, .kit "NoDeed" "TooOld" false, .kit "NoDeed" "Twice" false, .kty "NoDeed" "ValueError" true, .kit "NoDeed" "WrongKind" false, .kit "NoSuch" "BadWord" false, .kit "NoSuch" "Beyond" false, .kit "NoSuch" "Broken" false, .kit "NoSuch" "Busy" false, .kit "NoSuch" "DeedError" false]
def fb19 : List Fb := [.kit "NoSuch" "Doubled" false, .kit "NoSuch" "Fenced" false, .kit "NoSuch" "Gap" false, .kit "NoSuch" "Gone" false, .kit "NoSuch" "Late" false, .kit "NoSuch" "LoanError" false, .kit "NoSuch" "Needed" false, .kit "NoSuch" "NoDeed" false, .kit "NoSuch" "NoSuch" true, .kit "NoSuch" "NotYours" false, .kit "NoSuch" "RowError" false, .kit "NoSuch" "SenderError" false, .kit "NoSuch" "TooOld" false, .kit "NoSuch" "Twice" false, .kty "NoSuch" "ValueError" true, .kit "NoSuch" "WrongKind" false]
def fb20 : List Fb := [.kit "NotYours" "BadWord" false, .kit "NotYours" "Beyond" false, .kit "NotYours" "Broken" false, .kit "NotYours" "Busy" false, .kit "NotYours" "DeedError" false, .kit "NotYours" "Doubled" false, .kit "NotYours" "Fenced" false, .kit "NotYours" "Gap" false, .kit "NotYours" "Gone" false, .kit "NotYours" "Late" false, .kit "NotYours" "LoanError" true, .kit "NotYours" "Needed" false, .kit "NotYours" "NoDeed" false, .kit "NotYours" "NoSuch" false, .kit "NotYours" "NotYours" true, .kit "NotYours" "RowError" false]
def fb21 : List Fb := [.kit "NotYours" "SenderError" false, .kit "NotYours" "TooOld" false, .kit "NotYours" "Twice" false, .kty "NotYours" "ValueError" true, .kit "NotYours" "WrongKind" false, .kit "TooOld" "BadWord" false, .kit "TooOld" "Beyond" false, .kit "TooOld" "Broken" false, .kit "TooOld" "Busy" false, .kit "TooOld" "DeedError" false, .kit "TooOld" "Doubled" false, .kit "TooOld" "Fenced" false, .kit "TooOld" "Gap" false, .kit "TooOld" "Gone" false, .kit "TooOld" "Late" false, .kit "TooOld" "LoanError" false]
def fb22 : List Fb := [.kit "TooOld" "Needed" false, .kit "TooOld" "NoDeed" false, .kit "TooOld" "NoSuch" false, .kit "TooOld" "NotYours" false, .kit "TooOld" "RowError" false, .kit "TooOld" "SenderError" true, .kit "TooOld" "TooOld" true, .kit "TooOld" "Twice" false, .kty "TooOld" "ValueError" true, .kit "TooOld" "WrongKind" false, .kit "Twice" "BadWord" false, .kit "Twice" "Beyond" false, .kit "Twice" "Broken" false, .kit "Twice" "Busy" false, .kit "Twice" "DeedError" false, .kit "Twice" "Doubled" false]
def fb23 : List Fb := [.kit "Twice" "Fenced" false, .kit "Twice" "Gap" false, .kit "Twice" "Gone" false, .kit "Twice" "Late" false, .kit "Twice" "LoanError" true, .kit "Twice" "Needed" false, .kit "Twice" "NoDeed" false, .kit "Twice" "NoSuch" false, .kit "Twice" "NotYours" false, .kit "Twice" "RowError" false, .kit "Twice" "SenderError" false, .kit "Twice" "TooOld" false, .kit "Twice" "Twice" true, .kty "Twice" "ValueError" true, .kit "Twice" "WrongKind" false, .kit "WrongKind" "BadWord" false]
def fb24 : List Fb := [.kit "WrongKind" "Beyond" false, .kit "WrongKind" "Broken" false, .kit "WrongKind" "Busy" false, .kit "WrongKind" "DeedError" false, .kit "WrongKind" "Doubled" false, .kit "WrongKind" "Fenced" false, .kit "WrongKind" "Gap" false, .kit "WrongKind" "Gone" false, .kit "WrongKind" "Late" false, .kit "WrongKind" "LoanError" false, .kit "WrongKind" "Needed" false, .kit "WrongKind" "NoDeed" false, .kit "WrongKind" "NoSuch" false, .kit "WrongKind" "NotYours" false, .kit "WrongKind" "RowError" true, .kit "WrongKind" "SenderError" false]
def fb25 : List Fb := [.kit "WrongKind" "TooOld" false, .kit "WrongKind" "Twice" false, .kty "WrongKind" "ValueError" true, .kit "WrongKind" "WrongKind" true]
def fb : List Fb := fb0 ++ (fb1 ++ (fb2 ++ (fb3 ++ (fb4 ++ (fb5 ++ (fb6 ++ (fb7 ++ (fb8 ++ (fb9 ++ (fb10 ++ (fb11 ++ (fb12 ++ (fb13 ++ (fb14 ++ (fb15 ++ (fb16 ++ (fb17 ++ (fb18 ++ (fb19 ++ (fb20 ++ (fb21 ++ (fb22 ++ (fb23 ++ (fb24 ++ (fb25)))))))))))))))))))))))))
abbrev T (K : PySem.W.Frag) (mg : Str → Option Value) : Prop := Tx fa fn fb K mg
abbrev R : PySem.W.OpenRow := PySem.W.OpenLaw.row PySem.Challenge.rw_lettercell_k06_what_is_refused
def loose0 : List PySem.Str := ["CellarError", "BadWord", "NoSuch", "Doubled", "Broken", "SenderError", "Fenced", "Gap", "TooOld", "LoanError", "Late", "NotYours", "Twice", "DeedError", "Busy", "NoDeed"]
def loose1 : List PySem.Str := ["RowError", "WrongKind", "Needed", "Gone", "Beyond", "_law_cell_at", "_law_mixed", "_law_kinds", "_law_gathered", "_law_raise_first", "_law_raise_more", "_law_fields_first", "_law_fields_more", "_law_field", "_law_due_fields"]
def loose : List PySem.Str := loose0 ++ (loose1)
section
variable {K : PySem.W.Frag} {mg : Str → Option Value} (t : T K mg)
include t
theorem mg__law_cell_at : mg "_law_cell_at" = some (.ref (He.ga K "_law_cell_at")) := t.glo 0 rfl
theorem mg__law_mixed : mg "_law_mixed" = some (.ref (He.ga K "_law_mixed")) := t.glo 1 rfl
theorem mg__law_kinds : mg "_law_kinds" = some (.ref (He.ga K "_law_kinds")) := t.glo 2 rfl
theorem mg__law_gathered : mg "_law_gathered" = some (.ref (He.ga K "_law_gathered")) := t.glo 3 rfl
theorem mg__law_raise_first : mg "_law_raise_first" = some (.ref (He.ga K "_law_raise_first")) := t.glo 4 rfl
theorem mg__law_raise_more : mg "_law_raise_more" = some (.ref (He.ga K "_law_raise_more")) := t.glo 5 rfl
theorem mg__law_fields_first : mg "_law_fields_first" = some (.ref (He.ga K "_law_fields_first")) := t.glo 6 rfl
theorem mg__law_fields_more : mg "_law_fields_more" = some (.ref (He.ga K "_law_fields_more")) := t.glo 7 rfl
theorem mg__law_field : mg "_law_field" = some (.ref (He.ga K "_law_field")) := t.glo 8 rfl
theorem mg__law_due_fields : mg "_law_due_fields" = some (.ref (He.ga K "_law_due_fields")) := t.glo 9 rfl
theorem mg_law : mg "law" = some (.ref (He.ga K "law")) := t.glo 10 rfl
theorem mg_CellarError : mg "CellarError" = some (.ref (He.ga K "CellarError")) := t.glo 11 rfl
theorem mg_BadWord : mg "BadWord" = some (.ref (He.ga K "BadWord")) := t.glo 12 rfl
theorem mg_NoSuch : mg "NoSuch" = some (.ref (He.ga K "NoSuch")) := t.glo 13 rfl
theorem mg_Doubled : mg "Doubled" = some (.ref (He.ga K "Doubled")) := t.glo 14 rfl
theorem mg_Broken : mg "Broken" = some (.ref (He.ga K "Broken")) := t.glo 15 rfl
theorem mg_SenderError : mg "SenderError" = some (.ref (He.ga K "SenderError")) := t.glo 16 rfl
theorem mg_Fenced : mg "Fenced" = some (.ref (He.ga K "Fenced")) := t.glo 17 rfl
theorem mg_Gap : mg "Gap" = some (.ref (He.ga K "Gap")) := t.glo 18 rfl
theorem mg_TooOld : mg "TooOld" = some (.ref (He.ga K "TooOld")) := t.glo 19 rfl
theorem mg_LoanError : mg "LoanError" = some (.ref (He.ga K "LoanError")) := t.glo 20 rfl
theorem mg_Late : mg "Late" = some (.ref (He.ga K "Late")) := t.glo 21 rfl
theorem mg_NotYours : mg "NotYours" = some (.ref (He.ga K "NotYours")) := t.glo 22 rfl
theorem mg_Twice : mg "Twice" = some (.ref (He.ga K "Twice")) := t.glo 23 rfl
theorem mg_DeedError : mg "DeedError" = some (.ref (He.ga K "DeedError")) := t.glo 24 rfl
theorem mg_Busy : mg "Busy" = some (.ref (He.ga K "Busy")) := t.glo 25 rfl
theorem mg_NoDeed : mg "NoDeed" = some (.ref (He.ga K "NoDeed")) := t.glo 26 rfl
theorem mg_RowError : mg "RowError" = some (.ref (He.ga K "RowError")) := t.glo 27 rfl
theorem mg_WrongKind : mg "WrongKind" = some (.ref (He.ga K "WrongKind")) := t.glo 28 rfl
theorem mg_Needed : mg "Needed" = some (.ref (He.ga K "Needed")) := t.glo 29 rfl
theorem mg_Gone : mg "Gone" = some (.ref (He.ga K "Gone")) := t.glo 30 rfl
theorem mg_Beyond : mg "Beyond" = some (.ref (He.ga K "Beyond")) := t.glo 31 rfl
theorem no_ValueError : mg "ValueError" = none := t.free 32 rfl
theorem no_isinstance : mg "isinstance" = none := t.free 33 rfl
theorem no_len : mg "len" = none := t.free 34 rfl
theorem no_range : mg "range" = none := t.free 35 rfl
theorem no_str : mg "str" = none := t.free 36 rfl
theorem keep_CellarError : PySem.W.keepIn K (.ref (He.ga K "CellarError")) = true := He.keep_ok (t.fact 37 rfl)
theorem keep_BadWord : PySem.W.keepIn K (.ref (He.ga K "BadWord")) = true := He.keep_ok (t.fact 38 rfl)
theorem na_NoSuch_name : NoAttr K (He.ga K "NoSuch") "name" := He.noat_ok (t.fact 39 rfl)
theorem keep_NoSuch : PySem.W.keepIn K (.ref (He.ga K "NoSuch")) = true := He.keep_ok (t.fact 40 rfl)
theorem na_Doubled_name : NoAttr K (He.ga K "Doubled") "name" := He.noat_ok (t.fact 41 rfl)
theorem keep_Doubled : PySem.W.keepIn K (.ref (He.ga K "Doubled")) = true := He.keep_ok (t.fact 42 rfl)
theorem na_Broken_line : NoAttr K (He.ga K "Broken") "line" := He.noat_ok (t.fact 43 rfl)
theorem keep_Broken : PySem.W.keepIn K (.ref (He.ga K "Broken")) = true := He.keep_ok (t.fact 44 rfl)
theorem keep_SenderError : PySem.W.keepIn K (.ref (He.ga K "SenderError")) = true := He.keep_ok (t.fact 45 rfl)
theorem na_Fenced_life : NoAttr K (He.ga K "Fenced") "life" := He.noat_ok (t.fact 46 rfl)
theorem keep_Fenced : PySem.W.keepIn K (.ref (He.ga K "Fenced")) = true := He.keep_ok (t.fact 47 rfl)
theorem na_Gap_due : NoAttr K (He.ga K "Gap") "due" := He.noat_ok (t.fact 48 rfl)
theorem keep_Gap : PySem.W.keepIn K (.ref (He.ga K "Gap")) = true := He.keep_ok (t.fact 49 rfl)
theorem na_TooOld_number : NoAttr K (He.ga K "TooOld") "number" := He.noat_ok (t.fact 50 rfl)
theorem keep_TooOld : PySem.W.keepIn K (.ref (He.ga K "TooOld")) = true := He.keep_ok (t.fact 51 rfl)
theorem keep_LoanError : PySem.W.keepIn K (.ref (He.ga K "LoanError")) = true := He.keep_ok (t.fact 52 rfl)
theorem na_Late_row : NoAttr K (He.ga K "Late") "row" := He.noat_ok (t.fact 53 rfl)
theorem na_Late_loan : NoAttr K (He.ga K "Late") "loan" := He.noat_ok (t.fact 54 rfl)
theorem keep_Late : PySem.W.keepIn K (.ref (He.ga K "Late")) = true := He.keep_ok (t.fact 55 rfl)
theorem na_NotYours_row : NoAttr K (He.ga K "NotYours") "row" := He.noat_ok (t.fact 56 rfl)
theorem na_NotYours_owner : NoAttr K (He.ga K "NotYours") "owner" := He.noat_ok (t.fact 57 rfl)
theorem keep_NotYours : PySem.W.keepIn K (.ref (He.ga K "NotYours")) = true := He.keep_ok (t.fact 58 rfl)
theorem na_Twice_row : NoAttr K (He.ga K "Twice") "row" := He.noat_ok (t.fact 59 rfl)
theorem na_Twice_loan : NoAttr K (He.ga K "Twice") "loan" := He.noat_ok (t.fact 60 rfl)
theorem keep_Twice : PySem.W.keepIn K (.ref (He.ga K "Twice")) = true := He.keep_ok (t.fact 61 rfl)
theorem keep_DeedError : PySem.W.keepIn K (.ref (He.ga K "DeedError")) = true := He.keep_ok (t.fact 62 rfl)
theorem na_Busy_deed : NoAttr K (He.ga K "Busy") "deed" := He.noat_ok (t.fact 63 rfl)
theorem keep_Busy : PySem.W.keepIn K (.ref (He.ga K "Busy")) = true := He.keep_ok (t.fact 64 rfl)
theorem na_NoDeed_name : NoAttr K (He.ga K "NoDeed") "name" := He.noat_ok (t.fact 65 rfl)
theorem keep_NoDeed : PySem.W.keepIn K (.ref (He.ga K "NoDeed")) = true := He.keep_ok (t.fact 66 rfl)
theorem keep_RowError : PySem.W.keepIn K (.ref (He.ga K "RowError")) = true := He.keep_ok (t.fact 67 rfl)
theorem na_WrongKind_row : NoAttr K (He.ga K "WrongKind") "row" := He.noat_ok (t.fact 68 rfl)
theorem keep_WrongKind : PySem.W.keepIn K (.ref (He.ga K "WrongKind")) = true := He.keep_ok (t.fact 69 rfl)
theorem na_Needed_row : NoAttr K (He.ga K "Needed") "row" := He.noat_ok (t.fact 70 rfl)
theorem na_Needed_place : NoAttr K (He.ga K "Needed") "place" := He.noat_ok (t.fact 71 rfl)
theorem keep_Needed : PySem.W.keepIn K (.ref (He.ga K "Needed")) = true := He.keep_ok (t.fact 72 rfl)
theorem na_Gone_row : NoAttr K (He.ga K "Gone") "row" := He.noat_ok (t.fact 73 rfl)
theorem na_Gone_place : NoAttr K (He.ga K "Gone") "place" := He.noat_ok (t.fact 74 rfl)
theorem keep_Gone : PySem.W.keepIn K (.ref (He.ga K "Gone")) = true := He.keep_ok (t.fact 75 rfl)
theorem na_Beyond_row : NoAttr K (He.ga K "Beyond") "row" := He.noat_ok (t.fact 76 rfl)
theorem na_Beyond_place : NoAttr K (He.ga K "Beyond") "place" := He.noat_ok (t.fact 77 rfl)
theorem keep_Beyond : PySem.W.keepIn K (.ref (He.ga K "Beyond")) = true := He.keep_ok (t.fact 78 rfl)
theorem exm_BadWord_CellarError : PySem.W.exmOne K (.ref (He.ga K "BadWord")) (.ref (He.ga K "CellarError")) = some true := He.exm_ok (t.fact 79 rfl)
theorem exm_Beyond_CellarError : PySem.W.exmOne K (.ref (He.ga K "Beyond")) (.ref (He.ga K "CellarError")) = some true := He.exm_ok (t.fact 80 rfl)
theorem exm_Broken_CellarError : PySem.W.exmOne K (.ref (He.ga K "Broken")) (.ref (He.ga K "CellarError")) = some true := He.exm_ok (t.fact 81 rfl)
theorem exm_Busy_CellarError : PySem.W.exmOne K (.ref (He.ga K "Busy")) (.ref (He.ga K "CellarError")) = some true := He.exm_ok (t.fact 82 rfl)
theorem exm_Doubled_CellarError : PySem.W.exmOne K (.ref (He.ga K "Doubled")) (.ref (He.ga K "CellarError")) = some true := He.exm_ok (t.fact 83 rfl)
theorem exm_Fenced_CellarError : PySem.W.exmOne K (.ref (He.ga K "Fenced")) (.ref (He.ga K "CellarError")) = some true := He.exm_ok (t.fact 84 rfl)
theorem exm_Gap_CellarError : PySem.W.exmOne K (.ref (He.ga K "Gap")) (.ref (He.ga K "CellarError")) = some true := He.exm_ok (t.fact 85 rfl)
theorem exm_Gone_CellarError : PySem.W.exmOne K (.ref (He.ga K "Gone")) (.ref (He.ga K "CellarError")) = some true := He.exm_ok (t.fact 86 rfl)
theorem exm_Late_CellarError : PySem.W.exmOne K (.ref (He.ga K "Late")) (.ref (He.ga K "CellarError")) = some true := He.exm_ok (t.fact 87 rfl)
theorem exm_Needed_CellarError : PySem.W.exmOne K (.ref (He.ga K "Needed")) (.ref (He.ga K "CellarError")) = some true := He.exm_ok (t.fact 88 rfl)
theorem exm_NoDeed_CellarError : PySem.W.exmOne K (.ref (He.ga K "NoDeed")) (.ref (He.ga K "CellarError")) = some true := He.exm_ok (t.fact 89 rfl)
theorem exm_NoSuch_CellarError : PySem.W.exmOne K (.ref (He.ga K "NoSuch")) (.ref (He.ga K "CellarError")) = some true := He.exm_ok (t.fact 90 rfl)
theorem exm_NotYours_CellarError : PySem.W.exmOne K (.ref (He.ga K "NotYours")) (.ref (He.ga K "CellarError")) = some true := He.exm_ok (t.fact 91 rfl)
theorem exm_TooOld_CellarError : PySem.W.exmOne K (.ref (He.ga K "TooOld")) (.ref (He.ga K "CellarError")) = some true := He.exm_ok (t.fact 92 rfl)
theorem exm_Twice_CellarError : PySem.W.exmOne K (.ref (He.ga K "Twice")) (.ref (He.ga K "CellarError")) = some true := He.exm_ok (t.fact 93 rfl)
theorem exm_WrongKind_CellarError : PySem.W.exmOne K (.ref (He.ga K "WrongKind")) (.ref (He.ga K "CellarError")) = some true := He.exm_ok (t.fact 94 rfl)
theorem oex_CellarError : OexC K (He.ga K "CellarError") := oexB_ok (t.fb_ 0 rfl)
theorem xf_CellarError : ExcC K (He.ga K "CellarError") := excB_ok (t.fb_ 1 rfl)
theorem xxf_CellarError : XfC K (He.ga K "CellarError") := ⟨(xf_CellarError t).hg, (xf_CellarError t).hk, (xf_CellarError t).hs, (xf_CellarError t).hd⟩
theorem exq_CellarError : PySem.W.excIn K (He.ga K "CellarError") He.veBase "ValueError.__new__" = true := t.fb_ 2 rfl
theorem vei_CellarError : ClsAt K (He.ga K "CellarError") "__init__" (.builtin "ValueError.__init__") := clsAtB_ok (t.fb_ 3 rfl)
theorem oex_BadWord : OexC K (He.ga K "BadWord") := oexB_ok (t.fb_ 4 rfl)
theorem xf_BadWord : ExcC K (He.ga K "BadWord") := excB_ok (t.fb_ 5 rfl)
theorem xxf_BadWord : XfC K (He.ga K "BadWord") := ⟨(xf_BadWord t).hg, (xf_BadWord t).hk, (xf_BadWord t).hs, (xf_BadWord t).hd⟩
theorem exq_BadWord : PySem.W.excIn K (He.ga K "BadWord") He.veBase "ValueError.__new__" = true := t.fb_ 6 rfl
theorem oex_NoSuch : OexC K (He.ga K "NoSuch") := oexB_ok (t.fb_ 7 rfl)
theorem xf_NoSuch : ExcC K (He.ga K "NoSuch") := excB_ok (t.fb_ 8 rfl)
theorem xxf_NoSuch : XfC K (He.ga K "NoSuch") := ⟨(xf_NoSuch t).hg, (xf_NoSuch t).hk, (xf_NoSuch t).hs, (xf_NoSuch t).hd⟩
theorem ini_NoSuch : PySem.W.findIn K (.ref (He.ga K "NoSuch")) "__init__" = some (some (.ref (He.fAd K ("NoSuch", some "__init__")))) ∧ PySem.W.typeIn K (.ref (He.fAd K ("NoSuch", some "__init__"))) = some (.type "function") := iniB_ok (t.fb_ 9 rfl)
theorem oex_Doubled : OexC K (He.ga K "Doubled") := oexB_ok (t.fb_ 10 rfl)
theorem xf_Doubled : ExcC K (He.ga K "Doubled") := excB_ok (t.fb_ 11 rfl)
theorem xxf_Doubled : XfC K (He.ga K "Doubled") := ⟨(xf_Doubled t).hg, (xf_Doubled t).hk, (xf_Doubled t).hs, (xf_Doubled t).hd⟩
theorem ini_Doubled : PySem.W.findIn K (.ref (He.ga K "Doubled")) "__init__" = some (some (.ref (He.fAd K ("Doubled", some "__init__")))) ∧ PySem.W.typeIn K (.ref (He.fAd K ("Doubled", some "__init__"))) = some (.type "function") := iniB_ok (t.fb_ 12 rfl)
theorem oex_Broken : OexC K (He.ga K "Broken") := oexB_ok (t.fb_ 13 rfl)
theorem xf_Broken : ExcC K (He.ga K "Broken") := excB_ok (t.fb_ 14 rfl)
theorem xxf_Broken : XfC K (He.ga K "Broken") := ⟨(xf_Broken t).hg, (xf_Broken t).hk, (xf_Broken t).hs, (xf_Broken t).hd⟩
theorem ini_Broken : PySem.W.findIn K (.ref (He.ga K "Broken")) "__init__" = some (some (.ref (He.fAd K ("Broken", some "__init__")))) ∧ PySem.W.typeIn K (.ref (He.fAd K ("Broken", some "__init__"))) = some (.type "function") := iniB_ok (t.fb_ 15 rfl)
theorem oex_SenderError : OexC K (He.ga K "SenderError") := oexB_ok (t.fb_ 16 rfl)
theorem xf_SenderError : ExcC K (He.ga K "SenderError") := excB_ok (t.fb_ 17 rfl)
theorem xxf_SenderError : XfC K (He.ga K "SenderError") := ⟨(xf_SenderError t).hg, (xf_SenderError t).hk, (xf_SenderError t).hs, (xf_SenderError t).hd⟩
theorem exq_SenderError : PySem.W.excIn K (He.ga K "SenderError") He.veBase "ValueError.__new__" = true := t.fb_ 18 rfl
theorem vei_SenderError : ClsAt K (He.ga K "SenderError") "__init__" (.builtin "ValueError.__init__") := clsAtB_ok (t.fb_ 19 rfl)
theorem oex_Fenced : OexC K (He.ga K "Fenced") := oexB_ok (t.fb_ 20 rfl)
theorem xf_Fenced : ExcC K (He.ga K "Fenced") := excB_ok (t.fb_ 21 rfl)
theorem xxf_Fenced : XfC K (He.ga K "Fenced") := ⟨(xf_Fenced t).hg, (xf_Fenced t).hk, (xf_Fenced t).hs, (xf_Fenced t).hd⟩
theorem ini_Fenced : PySem.W.findIn K (.ref (He.ga K "Fenced")) "__init__" = some (some (.ref (He.fAd K ("Fenced", some "__init__")))) ∧ PySem.W.typeIn K (.ref (He.fAd K ("Fenced", some "__init__"))) = some (.type "function") := iniB_ok (t.fb_ 22 rfl)
theorem oex_Gap : OexC K (He.ga K "Gap") := oexB_ok (t.fb_ 23 rfl)
theorem xf_Gap : ExcC K (He.ga K "Gap") := excB_ok (t.fb_ 24 rfl)
theorem xxf_Gap : XfC K (He.ga K "Gap") := ⟨(xf_Gap t).hg, (xf_Gap t).hk, (xf_Gap t).hs, (xf_Gap t).hd⟩
theorem ini_Gap : PySem.W.findIn K (.ref (He.ga K "Gap")) "__init__" = some (some (.ref (He.fAd K ("Gap", some "__init__")))) ∧ PySem.W.typeIn K (.ref (He.fAd K ("Gap", some "__init__"))) = some (.type "function") := iniB_ok (t.fb_ 25 rfl)
theorem oex_TooOld : OexC K (He.ga K "TooOld") := oexB_ok (t.fb_ 26 rfl)
theorem xf_TooOld : ExcC K (He.ga K "TooOld") := excB_ok (t.fb_ 27 rfl)
theorem xxf_TooOld : XfC K (He.ga K "TooOld") := ⟨(xf_TooOld t).hg, (xf_TooOld t).hk, (xf_TooOld t).hs, (xf_TooOld t).hd⟩
theorem ini_TooOld : PySem.W.findIn K (.ref (He.ga K "TooOld")) "__init__" = some (some (.ref (He.fAd K ("TooOld", some "__init__")))) ∧ PySem.W.typeIn K (.ref (He.fAd K ("TooOld", some "__init__"))) = some (.type "function") := iniB_ok (t.fb_ 28 rfl)
theorem oex_LoanError : OexC K (He.ga K "LoanError") := oexB_ok (t.fb_ 29 rfl)
theorem xf_LoanError : ExcC K (He.ga K "LoanError") := excB_ok (t.fb_ 30 rfl)
theorem xxf_LoanError : XfC K (He.ga K "LoanError") := ⟨(xf_LoanError t).hg, (xf_LoanError t).hk, (xf_LoanError t).hs, (xf_LoanError t).hd⟩
theorem exq_LoanError : PySem.W.excIn K (He.ga K "LoanError") He.veBase "ValueError.__new__" = true := t.fb_ 31 rfl
theorem vei_LoanError : ClsAt K (He.ga K "LoanError") "__init__" (.builtin "ValueError.__init__") := clsAtB_ok (t.fb_ 32 rfl)
theorem oex_Late : OexC K (He.ga K "Late") := oexB_ok (t.fb_ 33 rfl)
theorem xf_Late : ExcC K (He.ga K "Late") := excB_ok (t.fb_ 34 rfl)
theorem xxf_Late : XfC K (He.ga K "Late") := ⟨(xf_Late t).hg, (xf_Late t).hk, (xf_Late t).hs, (xf_Late t).hd⟩
theorem ini_Late : PySem.W.findIn K (.ref (He.ga K "Late")) "__init__" = some (some (.ref (He.fAd K ("Late", some "__init__")))) ∧ PySem.W.typeIn K (.ref (He.fAd K ("Late", some "__init__"))) = some (.type "function") := iniB_ok (t.fb_ 35 rfl)
theorem oex_NotYours : OexC K (He.ga K "NotYours") := oexB_ok (t.fb_ 36 rfl)
theorem xf_NotYours : ExcC K (He.ga K "NotYours") := excB_ok (t.fb_ 37 rfl)
theorem xxf_NotYours : XfC K (He.ga K "NotYours") := ⟨(xf_NotYours t).hg, (xf_NotYours t).hk, (xf_NotYours t).hs, (xf_NotYours t).hd⟩
theorem ini_NotYours : PySem.W.findIn K (.ref (He.ga K "NotYours")) "__init__" = some (some (.ref (He.fAd K ("NotYours", some "__init__")))) ∧ PySem.W.typeIn K (.ref (He.fAd K ("NotYours", some "__init__"))) = some (.type "function") := iniB_ok (t.fb_ 38 rfl)
theorem oex_Twice : OexC K (He.ga K "Twice") := oexB_ok (t.fb_ 39 rfl)
theorem xf_Twice : ExcC K (He.ga K "Twice") := excB_ok (t.fb_ 40 rfl)
theorem xxf_Twice : XfC K (He.ga K "Twice") := ⟨(xf_Twice t).hg, (xf_Twice t).hk, (xf_Twice t).hs, (xf_Twice t).hd⟩
theorem ini_Twice : PySem.W.findIn K (.ref (He.ga K "Twice")) "__init__" = some (some (.ref (He.fAd K ("Twice", some "__init__")))) ∧ PySem.W.typeIn K (.ref (He.fAd K ("Twice", some "__init__"))) = some (.type "function") := iniB_ok (t.fb_ 41 rfl)
theorem oex_DeedError : OexC K (He.ga K "DeedError") := oexB_ok (t.fb_ 42 rfl)
theorem xf_DeedError : ExcC K (He.ga K "DeedError") := excB_ok (t.fb_ 43 rfl)
theorem xxf_DeedError : XfC K (He.ga K "DeedError") := ⟨(xf_DeedError t).hg, (xf_DeedError t).hk, (xf_DeedError t).hs, (xf_DeedError t).hd⟩
theorem exq_DeedError : PySem.W.excIn K (He.ga K "DeedError") He.veBase "ValueError.__new__" = true := t.fb_ 44 rfl
theorem vei_DeedError : ClsAt K (He.ga K "DeedError") "__init__" (.builtin "ValueError.__init__") := clsAtB_ok (t.fb_ 45 rfl)
theorem oex_Busy : OexC K (He.ga K "Busy") := oexB_ok (t.fb_ 46 rfl)
theorem xf_Busy : ExcC K (He.ga K "Busy") := excB_ok (t.fb_ 47 rfl)
theorem xxf_Busy : XfC K (He.ga K "Busy") := ⟨(xf_Busy t).hg, (xf_Busy t).hk, (xf_Busy t).hs, (xf_Busy t).hd⟩
theorem ini_Busy : PySem.W.findIn K (.ref (He.ga K "Busy")) "__init__" = some (some (.ref (He.fAd K ("Busy", some "__init__")))) ∧ PySem.W.typeIn K (.ref (He.fAd K ("Busy", some "__init__"))) = some (.type "function") := iniB_ok (t.fb_ 48 rfl)
theorem oex_NoDeed : OexC K (He.ga K "NoDeed") := oexB_ok (t.fb_ 49 rfl)
theorem xf_NoDeed : ExcC K (He.ga K "NoDeed") := excB_ok (t.fb_ 50 rfl)
theorem xxf_NoDeed : XfC K (He.ga K "NoDeed") := ⟨(xf_NoDeed t).hg, (xf_NoDeed t).hk, (xf_NoDeed t).hs, (xf_NoDeed t).hd⟩
theorem ini_NoDeed : PySem.W.findIn K (.ref (He.ga K "NoDeed")) "__init__" = some (some (.ref (He.fAd K ("NoDeed", some "__init__")))) ∧ PySem.W.typeIn K (.ref (He.fAd K ("NoDeed", some "__init__"))) = some (.type "function") := iniB_ok (t.fb_ 51 rfl)
theorem oex_RowError : OexC K (He.ga K "RowError") := oexB_ok (t.fb_ 52 rfl)
theorem xf_RowError : ExcC K (He.ga K "RowError") := excB_ok (t.fb_ 53 rfl)
theorem xxf_RowError : XfC K (He.ga K "RowError") := ⟨(xf_RowError t).hg, (xf_RowError t).hk, (xf_RowError t).hs, (xf_RowError t).hd⟩
theorem exq_RowError : PySem.W.excIn K (He.ga K "RowError") He.veBase "ValueError.__new__" = true := t.fb_ 54 rfl
theorem vei_RowError : ClsAt K (He.ga K "RowError") "__init__" (.builtin "ValueError.__init__") := clsAtB_ok (t.fb_ 55 rfl)
theorem oex_WrongKind : OexC K (He.ga K "WrongKind") := oexB_ok (t.fb_ 56 rfl)
theorem xf_WrongKind : ExcC K (He.ga K "WrongKind") := excB_ok (t.fb_ 57 rfl)
theorem xxf_WrongKind : XfC K (He.ga K "WrongKind") := ⟨(xf_WrongKind t).hg, (xf_WrongKind t).hk, (xf_WrongKind t).hs, (xf_WrongKind t).hd⟩
theorem ini_WrongKind : PySem.W.findIn K (.ref (He.ga K "WrongKind")) "__init__" = some (some (.ref (He.fAd K ("WrongKind", some "__init__")))) ∧ PySem.W.typeIn K (.ref (He.fAd K ("WrongKind", some "__init__"))) = some (.type "function") := iniB_ok (t.fb_ 58 rfl)
theorem oex_Needed : OexC K (He.ga K "Needed") := oexB_ok (t.fb_ 59 rfl)
theorem xf_Needed : ExcC K (He.ga K "Needed") := excB_ok (t.fb_ 60 rfl)
theorem xxf_Needed : XfC K (He.ga K "Needed") := ⟨(xf_Needed t).hg, (xf_Needed t).hk, (xf_Needed t).hs, (xf_Needed t).hd⟩
theorem ini_Needed : PySem.W.findIn K (.ref (He.ga K "Needed")) "__init__" = some (some (.ref (He.fAd K ("Needed", some "__init__")))) ∧ PySem.W.typeIn K (.ref (He.fAd K ("Needed", some "__init__"))) = some (.type "function") := iniB_ok (t.fb_ 61 rfl)
theorem oex_Gone : OexC K (He.ga K "Gone") := oexB_ok (t.fb_ 62 rfl)
theorem xf_Gone : ExcC K (He.ga K "Gone") := excB_ok (t.fb_ 63 rfl)
theorem xxf_Gone : XfC K (He.ga K "Gone") := ⟨(xf_Gone t).hg, (xf_Gone t).hk, (xf_Gone t).hs, (xf_Gone t).hd⟩
theorem ini_Gone : PySem.W.findIn K (.ref (He.ga K "Gone")) "__init__" = some (some (.ref (He.fAd K ("Gone", some "__init__")))) ∧ PySem.W.typeIn K (.ref (He.fAd K ("Gone", some "__init__"))) = some (.type "function") := iniB_ok (t.fb_ 64 rfl)
theorem oex_Beyond : OexC K (He.ga K "Beyond") := oexB_ok (t.fb_ 65 rfl)
theorem xf_Beyond : ExcC K (He.ga K "Beyond") := excB_ok (t.fb_ 66 rfl)
theorem xxf_Beyond : XfC K (He.ga K "Beyond") := ⟨(xf_Beyond t).hg, (xf_Beyond t).hk, (xf_Beyond t).hs, (xf_Beyond t).hd⟩
theorem ini_Beyond : PySem.W.findIn K (.ref (He.ga K "Beyond")) "__init__" = some (some (.ref (He.fAd K ("Beyond", some "__init__")))) ∧ PySem.W.typeIn K (.ref (He.fAd K ("Beyond", some "__init__"))) = some (.type "function") := iniB_ok (t.fb_ 67 rfl)
theorem kit_BadWord_BadWord : PySem.W.kitOne K (.ref (He.ga K "BadWord")) (.ref (He.ga K "BadWord")) = some true := of_decide_eq_true (t.fb_ 68 rfl)
theorem kit_BadWord_Beyond : PySem.W.kitOne K (.ref (He.ga K "BadWord")) (.ref (He.ga K "Beyond")) = some false := of_decide_eq_true (t.fb_ 69 rfl)
theorem kit_BadWord_Broken : PySem.W.kitOne K (.ref (He.ga K "BadWord")) (.ref (He.ga K "Broken")) = some false := of_decide_eq_true (t.fb_ 70 rfl)
theorem kit_BadWord_Busy : PySem.W.kitOne K (.ref (He.ga K "BadWord")) (.ref (He.ga K "Busy")) = some false := of_decide_eq_true (t.fb_ 71 rfl)
theorem kit_BadWord_DeedError : PySem.W.kitOne K (.ref (He.ga K "BadWord")) (.ref (He.ga K "DeedError")) = some false := of_decide_eq_true (t.fb_ 72 rfl)
theorem kit_BadWord_Doubled : PySem.W.kitOne K (.ref (He.ga K "BadWord")) (.ref (He.ga K "Doubled")) = some false := of_decide_eq_true (t.fb_ 73 rfl)
theorem kit_BadWord_Fenced : PySem.W.kitOne K (.ref (He.ga K "BadWord")) (.ref (He.ga K "Fenced")) = some false := of_decide_eq_true (t.fb_ 74 rfl)
theorem kit_BadWord_Gap : PySem.W.kitOne K (.ref (He.ga K "BadWord")) (.ref (He.ga K "Gap")) = some false := of_decide_eq_true (t.fb_ 75 rfl)
theorem kit_BadWord_Gone : PySem.W.kitOne K (.ref (He.ga K "BadWord")) (.ref (He.ga K "Gone")) = some false := of_decide_eq_true (t.fb_ 76 rfl)
theorem kit_BadWord_Late : PySem.W.kitOne K (.ref (He.ga K "BadWord")) (.ref (He.ga K "Late")) = some false := of_decide_eq_true (t.fb_ 77 rfl)
theorem kit_BadWord_LoanError : PySem.W.kitOne K (.ref (He.ga K "BadWord")) (.ref (He.ga K "LoanError")) = some false := of_decide_eq_true (t.fb_ 78 rfl)
theorem kit_BadWord_Needed : PySem.W.kitOne K (.ref (He.ga K "BadWord")) (.ref (He.ga K "Needed")) = some false := of_decide_eq_true (t.fb_ 79 rfl)
theorem kit_BadWord_NoDeed : PySem.W.kitOne K (.ref (He.ga K "BadWord")) (.ref (He.ga K "NoDeed")) = some false := of_decide_eq_true (t.fb_ 80 rfl)
theorem kit_BadWord_NoSuch : PySem.W.kitOne K (.ref (He.ga K "BadWord")) (.ref (He.ga K "NoSuch")) = some false := of_decide_eq_true (t.fb_ 81 rfl)
theorem kit_BadWord_NotYours : PySem.W.kitOne K (.ref (He.ga K "BadWord")) (.ref (He.ga K "NotYours")) = some false := of_decide_eq_true (t.fb_ 82 rfl)
theorem kit_BadWord_RowError : PySem.W.kitOne K (.ref (He.ga K "BadWord")) (.ref (He.ga K "RowError")) = some false := of_decide_eq_true (t.fb_ 83 rfl)
theorem kit_BadWord_SenderError : PySem.W.kitOne K (.ref (He.ga K "BadWord")) (.ref (He.ga K "SenderError")) = some false := of_decide_eq_true (t.fb_ 84 rfl)
theorem kit_BadWord_TooOld : PySem.W.kitOne K (.ref (He.ga K "BadWord")) (.ref (He.ga K "TooOld")) = some false := of_decide_eq_true (t.fb_ 85 rfl)
theorem kit_BadWord_Twice : PySem.W.kitOne K (.ref (He.ga K "BadWord")) (.ref (He.ga K "Twice")) = some false := of_decide_eq_true (t.fb_ 86 rfl)
theorem kit_BadWord_ValueError : PySem.W.kitOne K (.ref (He.ga K "BadWord")) (.type "ValueError") = some true := of_decide_eq_true (t.fb_ 87 rfl)
theorem kit_BadWord_WrongKind : PySem.W.kitOne K (.ref (He.ga K "BadWord")) (.ref (He.ga K "WrongKind")) = some false := of_decide_eq_true (t.fb_ 88 rfl)
theorem kit_Beyond_BadWord : PySem.W.kitOne K (.ref (He.ga K "Beyond")) (.ref (He.ga K "BadWord")) = some false := of_decide_eq_true (t.fb_ 89 rfl)
theorem kit_Beyond_Beyond : PySem.W.kitOne K (.ref (He.ga K "Beyond")) (.ref (He.ga K "Beyond")) = some true := of_decide_eq_true (t.fb_ 90 rfl)
theorem kit_Beyond_Broken : PySem.W.kitOne K (.ref (He.ga K "Beyond")) (.ref (He.ga K "Broken")) = some false := of_decide_eq_true (t.fb_ 91 rfl)
theorem kit_Beyond_Busy : PySem.W.kitOne K (.ref (He.ga K "Beyond")) (.ref (He.ga K "Busy")) = some false := of_decide_eq_true (t.fb_ 92 rfl)
theorem kit_Beyond_DeedError : PySem.W.kitOne K (.ref (He.ga K "Beyond")) (.ref (He.ga K "DeedError")) = some false := of_decide_eq_true (t.fb_ 93 rfl)
theorem kit_Beyond_Doubled : PySem.W.kitOne K (.ref (He.ga K "Beyond")) (.ref (He.ga K "Doubled")) = some false := of_decide_eq_true (t.fb_ 94 rfl)
theorem kit_Beyond_Fenced : PySem.W.kitOne K (.ref (He.ga K "Beyond")) (.ref (He.ga K "Fenced")) = some false := of_decide_eq_true (t.fb_ 95 rfl)
theorem kit_Beyond_Gap : PySem.W.kitOne K (.ref (He.ga K "Beyond")) (.ref (He.ga K "Gap")) = some false := of_decide_eq_true (t.fb_ 96 rfl)
theorem kit_Beyond_Gone : PySem.W.kitOne K (.ref (He.ga K "Beyond")) (.ref (He.ga K "Gone")) = some false := of_decide_eq_true (t.fb_ 97 rfl)
theorem kit_Beyond_Late : PySem.W.kitOne K (.ref (He.ga K "Beyond")) (.ref (He.ga K "Late")) = some false := of_decide_eq_true (t.fb_ 98 rfl)
theorem kit_Beyond_LoanError : PySem.W.kitOne K (.ref (He.ga K "Beyond")) (.ref (He.ga K "LoanError")) = some false := of_decide_eq_true (t.fb_ 99 rfl)
theorem kit_Beyond_Needed : PySem.W.kitOne K (.ref (He.ga K "Beyond")) (.ref (He.ga K "Needed")) = some false := of_decide_eq_true (t.fb_ 100 rfl)
theorem kit_Beyond_NoDeed : PySem.W.kitOne K (.ref (He.ga K "Beyond")) (.ref (He.ga K "NoDeed")) = some false := of_decide_eq_true (t.fb_ 101 rfl)
theorem kit_Beyond_NoSuch : PySem.W.kitOne K (.ref (He.ga K "Beyond")) (.ref (He.ga K "NoSuch")) = some false := of_decide_eq_true (t.fb_ 102 rfl)
theorem kit_Beyond_NotYours : PySem.W.kitOne K (.ref (He.ga K "Beyond")) (.ref (He.ga K "NotYours")) = some false := of_decide_eq_true (t.fb_ 103 rfl)
theorem kit_Beyond_RowError : PySem.W.kitOne K (.ref (He.ga K "Beyond")) (.ref (He.ga K "RowError")) = some true := of_decide_eq_true (t.fb_ 104 rfl)
theorem kit_Beyond_SenderError : PySem.W.kitOne K (.ref (He.ga K "Beyond")) (.ref (He.ga K "SenderError")) = some false := of_decide_eq_true (t.fb_ 105 rfl)
theorem kit_Beyond_TooOld : PySem.W.kitOne K (.ref (He.ga K "Beyond")) (.ref (He.ga K "TooOld")) = some false := of_decide_eq_true (t.fb_ 106 rfl)
theorem kit_Beyond_Twice : PySem.W.kitOne K (.ref (He.ga K "Beyond")) (.ref (He.ga K "Twice")) = some false := of_decide_eq_true (t.fb_ 107 rfl)
theorem kit_Beyond_ValueError : PySem.W.kitOne K (.ref (He.ga K "Beyond")) (.type "ValueError") = some true := of_decide_eq_true (t.fb_ 108 rfl)
theorem kit_Beyond_WrongKind : PySem.W.kitOne K (.ref (He.ga K "Beyond")) (.ref (He.ga K "WrongKind")) = some false := of_decide_eq_true (t.fb_ 109 rfl)
theorem kit_Broken_BadWord : PySem.W.kitOne K (.ref (He.ga K "Broken")) (.ref (He.ga K "BadWord")) = some false := of_decide_eq_true (t.fb_ 110 rfl)
theorem kit_Broken_Beyond : PySem.W.kitOne K (.ref (He.ga K "Broken")) (.ref (He.ga K "Beyond")) = some false := of_decide_eq_true (t.fb_ 111 rfl)
theorem kit_Broken_Broken : PySem.W.kitOne K (.ref (He.ga K "Broken")) (.ref (He.ga K "Broken")) = some true := of_decide_eq_true (t.fb_ 112 rfl)
theorem kit_Broken_Busy : PySem.W.kitOne K (.ref (He.ga K "Broken")) (.ref (He.ga K "Busy")) = some false := of_decide_eq_true (t.fb_ 113 rfl)
theorem kit_Broken_DeedError : PySem.W.kitOne K (.ref (He.ga K "Broken")) (.ref (He.ga K "DeedError")) = some false := of_decide_eq_true (t.fb_ 114 rfl)
theorem kit_Broken_Doubled : PySem.W.kitOne K (.ref (He.ga K "Broken")) (.ref (He.ga K "Doubled")) = some false := of_decide_eq_true (t.fb_ 115 rfl)
theorem kit_Broken_Fenced : PySem.W.kitOne K (.ref (He.ga K "Broken")) (.ref (He.ga K "Fenced")) = some false := of_decide_eq_true (t.fb_ 116 rfl)
theorem kit_Broken_Gap : PySem.W.kitOne K (.ref (He.ga K "Broken")) (.ref (He.ga K "Gap")) = some false := of_decide_eq_true (t.fb_ 117 rfl)
theorem kit_Broken_Gone : PySem.W.kitOne K (.ref (He.ga K "Broken")) (.ref (He.ga K "Gone")) = some false := of_decide_eq_true (t.fb_ 118 rfl)
theorem kit_Broken_Late : PySem.W.kitOne K (.ref (He.ga K "Broken")) (.ref (He.ga K "Late")) = some false := of_decide_eq_true (t.fb_ 119 rfl)
theorem kit_Broken_LoanError : PySem.W.kitOne K (.ref (He.ga K "Broken")) (.ref (He.ga K "LoanError")) = some false := of_decide_eq_true (t.fb_ 120 rfl)
theorem kit_Broken_Needed : PySem.W.kitOne K (.ref (He.ga K "Broken")) (.ref (He.ga K "Needed")) = some false := of_decide_eq_true (t.fb_ 121 rfl)
theorem kit_Broken_NoDeed : PySem.W.kitOne K (.ref (He.ga K "Broken")) (.ref (He.ga K "NoDeed")) = some false := of_decide_eq_true (t.fb_ 122 rfl)
theorem kit_Broken_NoSuch : PySem.W.kitOne K (.ref (He.ga K "Broken")) (.ref (He.ga K "NoSuch")) = some false := of_decide_eq_true (t.fb_ 123 rfl)
theorem kit_Broken_NotYours : PySem.W.kitOne K (.ref (He.ga K "Broken")) (.ref (He.ga K "NotYours")) = some false := of_decide_eq_true (t.fb_ 124 rfl)
theorem kit_Broken_RowError : PySem.W.kitOne K (.ref (He.ga K "Broken")) (.ref (He.ga K "RowError")) = some false := of_decide_eq_true (t.fb_ 125 rfl)
theorem kit_Broken_SenderError : PySem.W.kitOne K (.ref (He.ga K "Broken")) (.ref (He.ga K "SenderError")) = some false := of_decide_eq_true (t.fb_ 126 rfl)
theorem kit_Broken_TooOld : PySem.W.kitOne K (.ref (He.ga K "Broken")) (.ref (He.ga K "TooOld")) = some false := of_decide_eq_true (t.fb_ 127 rfl)
theorem kit_Broken_Twice : PySem.W.kitOne K (.ref (He.ga K "Broken")) (.ref (He.ga K "Twice")) = some false := of_decide_eq_true (t.fb_ 128 rfl)
theorem kit_Broken_ValueError : PySem.W.kitOne K (.ref (He.ga K "Broken")) (.type "ValueError") = some true := of_decide_eq_true (t.fb_ 129 rfl)
theorem kit_Broken_WrongKind : PySem.W.kitOne K (.ref (He.ga K "Broken")) (.ref (He.ga K "WrongKind")) = some false := of_decide_eq_true (t.fb_ 130 rfl)
theorem kit_Busy_BadWord : PySem.W.kitOne K (.ref (He.ga K "Busy")) (.ref (He.ga K "BadWord")) = some false := of_decide_eq_true (t.fb_ 131 rfl)
theorem kit_Busy_Beyond : PySem.W.kitOne K (.ref (He.ga K "Busy")) (.ref (He.ga K "Beyond")) = some false := of_decide_eq_true (t.fb_ 132 rfl)
theorem kit_Busy_Broken : PySem.W.kitOne K (.ref (He.ga K "Busy")) (.ref (He.ga K "Broken")) = some false := of_decide_eq_true (t.fb_ 133 rfl)
theorem kit_Busy_Busy : PySem.W.kitOne K (.ref (He.ga K "Busy")) (.ref (He.ga K "Busy")) = some true := of_decide_eq_true (t.fb_ 134 rfl)
theorem kit_Busy_DeedError : PySem.W.kitOne K (.ref (He.ga K "Busy")) (.ref (He.ga K "DeedError")) = some true := of_decide_eq_true (t.fb_ 135 rfl)
theorem kit_Busy_Doubled : PySem.W.kitOne K (.ref (He.ga K "Busy")) (.ref (He.ga K "Doubled")) = some false := of_decide_eq_true (t.fb_ 136 rfl)
theorem kit_Busy_Fenced : PySem.W.kitOne K (.ref (He.ga K "Busy")) (.ref (He.ga K "Fenced")) = some false := of_decide_eq_true (t.fb_ 137 rfl)
theorem kit_Busy_Gap : PySem.W.kitOne K (.ref (He.ga K "Busy")) (.ref (He.ga K "Gap")) = some false := of_decide_eq_true (t.fb_ 138 rfl)
theorem kit_Busy_Gone : PySem.W.kitOne K (.ref (He.ga K "Busy")) (.ref (He.ga K "Gone")) = some false := of_decide_eq_true (t.fb_ 139 rfl)
theorem kit_Busy_Late : PySem.W.kitOne K (.ref (He.ga K "Busy")) (.ref (He.ga K "Late")) = some false := of_decide_eq_true (t.fb_ 140 rfl)
theorem kit_Busy_LoanError : PySem.W.kitOne K (.ref (He.ga K "Busy")) (.ref (He.ga K "LoanError")) = some false := of_decide_eq_true (t.fb_ 141 rfl)
theorem kit_Busy_Needed : PySem.W.kitOne K (.ref (He.ga K "Busy")) (.ref (He.ga K "Needed")) = some false := of_decide_eq_true (t.fb_ 142 rfl)
theorem kit_Busy_NoDeed : PySem.W.kitOne K (.ref (He.ga K "Busy")) (.ref (He.ga K "NoDeed")) = some false := of_decide_eq_true (t.fb_ 143 rfl)
theorem kit_Busy_NoSuch : PySem.W.kitOne K (.ref (He.ga K "Busy")) (.ref (He.ga K "NoSuch")) = some false := of_decide_eq_true (t.fb_ 144 rfl)
theorem kit_Busy_NotYours : PySem.W.kitOne K (.ref (He.ga K "Busy")) (.ref (He.ga K "NotYours")) = some false := of_decide_eq_true (t.fb_ 145 rfl)
theorem kit_Busy_RowError : PySem.W.kitOne K (.ref (He.ga K "Busy")) (.ref (He.ga K "RowError")) = some false := of_decide_eq_true (t.fb_ 146 rfl)
theorem kit_Busy_SenderError : PySem.W.kitOne K (.ref (He.ga K "Busy")) (.ref (He.ga K "SenderError")) = some false := of_decide_eq_true (t.fb_ 147 rfl)
theorem kit_Busy_TooOld : PySem.W.kitOne K (.ref (He.ga K "Busy")) (.ref (He.ga K "TooOld")) = some false := of_decide_eq_true (t.fb_ 148 rfl)
theorem kit_Busy_Twice : PySem.W.kitOne K (.ref (He.ga K "Busy")) (.ref (He.ga K "Twice")) = some false := of_decide_eq_true (t.fb_ 149 rfl)
theorem kit_Busy_ValueError : PySem.W.kitOne K (.ref (He.ga K "Busy")) (.type "ValueError") = some true := of_decide_eq_true (t.fb_ 150 rfl)
theorem kit_Busy_WrongKind : PySem.W.kitOne K (.ref (He.ga K "Busy")) (.ref (He.ga K "WrongKind")) = some false := of_decide_eq_true (t.fb_ 151 rfl)
theorem kit_Doubled_BadWord : PySem.W.kitOne K (.ref (He.ga K "Doubled")) (.ref (He.ga K "BadWord")) = some false := of_decide_eq_true (t.fb_ 152 rfl)
theorem kit_Doubled_Beyond : PySem.W.kitOne K (.ref (He.ga K "Doubled")) (.ref (He.ga K "Beyond")) = some false := of_decide_eq_true (t.fb_ 153 rfl)
theorem kit_Doubled_Broken : PySem.W.kitOne K (.ref (He.ga K "Doubled")) (.ref (He.ga K "Broken")) = some false := of_decide_eq_true (t.fb_ 154 rfl)
theorem kit_Doubled_Busy : PySem.W.kitOne K (.ref (He.ga K "Doubled")) (.ref (He.ga K "Busy")) = some false := of_decide_eq_true (t.fb_ 155 rfl)
theorem kit_Doubled_DeedError : PySem.W.kitOne K (.ref (He.ga K "Doubled")) (.ref (He.ga K "DeedError")) = some false := of_decide_eq_true (t.fb_ 156 rfl)
theorem kit_Doubled_Doubled : PySem.W.kitOne K (.ref (He.ga K "Doubled")) (.ref (He.ga K "Doubled")) = some true := of_decide_eq_true (t.fb_ 157 rfl)
theorem kit_Doubled_Fenced : PySem.W.kitOne K (.ref (He.ga K "Doubled")) (.ref (He.ga K "Fenced")) = some false := of_decide_eq_true (t.fb_ 158 rfl)
theorem kit_Doubled_Gap : PySem.W.kitOne K (.ref (He.ga K "Doubled")) (.ref (He.ga K "Gap")) = some false := of_decide_eq_true (t.fb_ 159 rfl)
theorem kit_Doubled_Gone : PySem.W.kitOne K (.ref (He.ga K "Doubled")) (.ref (He.ga K "Gone")) = some false := of_decide_eq_true (t.fb_ 160 rfl)
theorem kit_Doubled_Late : PySem.W.kitOne K (.ref (He.ga K "Doubled")) (.ref (He.ga K "Late")) = some false := of_decide_eq_true (t.fb_ 161 rfl)
theorem kit_Doubled_LoanError : PySem.W.kitOne K (.ref (He.ga K "Doubled")) (.ref (He.ga K "LoanError")) = some false := of_decide_eq_true (t.fb_ 162 rfl)
theorem kit_Doubled_Needed : PySem.W.kitOne K (.ref (He.ga K "Doubled")) (.ref (He.ga K "Needed")) = some false := of_decide_eq_true (t.fb_ 163 rfl)
theorem kit_Doubled_NoDeed : PySem.W.kitOne K (.ref (He.ga K "Doubled")) (.ref (He.ga K "NoDeed")) = some false := of_decide_eq_true (t.fb_ 164 rfl)
theorem kit_Doubled_NoSuch : PySem.W.kitOne K (.ref (He.ga K "Doubled")) (.ref (He.ga K "NoSuch")) = some false := of_decide_eq_true (t.fb_ 165 rfl)
theorem kit_Doubled_NotYours : PySem.W.kitOne K (.ref (He.ga K "Doubled")) (.ref (He.ga K "NotYours")) = some false := of_decide_eq_true (t.fb_ 166 rfl)
theorem kit_Doubled_RowError : PySem.W.kitOne K (.ref (He.ga K "Doubled")) (.ref (He.ga K "RowError")) = some false := of_decide_eq_true (t.fb_ 167 rfl)
theorem kit_Doubled_SenderError : PySem.W.kitOne K (.ref (He.ga K "Doubled")) (.ref (He.ga K "SenderError")) = some false := of_decide_eq_true (t.fb_ 168 rfl)
theorem kit_Doubled_TooOld : PySem.W.kitOne K (.ref (He.ga K "Doubled")) (.ref (He.ga K "TooOld")) = some false := of_decide_eq_true (t.fb_ 169 rfl)
theorem kit_Doubled_Twice : PySem.W.kitOne K (.ref (He.ga K "Doubled")) (.ref (He.ga K "Twice")) = some false := of_decide_eq_true (t.fb_ 170 rfl)
theorem kit_Doubled_ValueError : PySem.W.kitOne K (.ref (He.ga K "Doubled")) (.type "ValueError") = some true := of_decide_eq_true (t.fb_ 171 rfl)
theorem kit_Doubled_WrongKind : PySem.W.kitOne K (.ref (He.ga K "Doubled")) (.ref (He.ga K "WrongKind")) = some false := of_decide_eq_true (t.fb_ 172 rfl)
theorem kit_Fenced_BadWord : PySem.W.kitOne K (.ref (He.ga K "Fenced")) (.ref (He.ga K "BadWord")) = some false := of_decide_eq_true (t.fb_ 173 rfl)
theorem kit_Fenced_Beyond : PySem.W.kitOne K (.ref (He.ga K "Fenced")) (.ref (He.ga K "Beyond")) = some false := of_decide_eq_true (t.fb_ 174 rfl)
theorem kit_Fenced_Broken : PySem.W.kitOne K (.ref (He.ga K "Fenced")) (.ref (He.ga K "Broken")) = some false := of_decide_eq_true (t.fb_ 175 rfl)
theorem kit_Fenced_Busy : PySem.W.kitOne K (.ref (He.ga K "Fenced")) (.ref (He.ga K "Busy")) = some false := of_decide_eq_true (t.fb_ 176 rfl)
theorem kit_Fenced_DeedError : PySem.W.kitOne K (.ref (He.ga K "Fenced")) (.ref (He.ga K "DeedError")) = some false := of_decide_eq_true (t.fb_ 177 rfl)
theorem kit_Fenced_Doubled : PySem.W.kitOne K (.ref (He.ga K "Fenced")) (.ref (He.ga K "Doubled")) = some false := of_decide_eq_true (t.fb_ 178 rfl)
theorem kit_Fenced_Fenced : PySem.W.kitOne K (.ref (He.ga K "Fenced")) (.ref (He.ga K "Fenced")) = some true := of_decide_eq_true (t.fb_ 179 rfl)
theorem kit_Fenced_Gap : PySem.W.kitOne K (.ref (He.ga K "Fenced")) (.ref (He.ga K "Gap")) = some false := of_decide_eq_true (t.fb_ 180 rfl)
theorem kit_Fenced_Gone : PySem.W.kitOne K (.ref (He.ga K "Fenced")) (.ref (He.ga K "Gone")) = some false := of_decide_eq_true (t.fb_ 181 rfl)
theorem kit_Fenced_Late : PySem.W.kitOne K (.ref (He.ga K "Fenced")) (.ref (He.ga K "Late")) = some false := of_decide_eq_true (t.fb_ 182 rfl)
theorem kit_Fenced_LoanError : PySem.W.kitOne K (.ref (He.ga K "Fenced")) (.ref (He.ga K "LoanError")) = some false := of_decide_eq_true (t.fb_ 183 rfl)
theorem kit_Fenced_Needed : PySem.W.kitOne K (.ref (He.ga K "Fenced")) (.ref (He.ga K "Needed")) = some false := of_decide_eq_true (t.fb_ 184 rfl)
theorem kit_Fenced_NoDeed : PySem.W.kitOne K (.ref (He.ga K "Fenced")) (.ref (He.ga K "NoDeed")) = some false := of_decide_eq_true (t.fb_ 185 rfl)
theorem kit_Fenced_NoSuch : PySem.W.kitOne K (.ref (He.ga K "Fenced")) (.ref (He.ga K "NoSuch")) = some false := of_decide_eq_true (t.fb_ 186 rfl)
theorem kit_Fenced_NotYours : PySem.W.kitOne K (.ref (He.ga K "Fenced")) (.ref (He.ga K "NotYours")) = some false := of_decide_eq_true (t.fb_ 187 rfl)
theorem kit_Fenced_RowError : PySem.W.kitOne K (.ref (He.ga K "Fenced")) (.ref (He.ga K "RowError")) = some false := of_decide_eq_true (t.fb_ 188 rfl)
theorem kit_Fenced_SenderError : PySem.W.kitOne K (.ref (He.ga K "Fenced")) (.ref (He.ga K "SenderError")) = some true := of_decide_eq_true (t.fb_ 189 rfl)
theorem kit_Fenced_TooOld : PySem.W.kitOne K (.ref (He.ga K "Fenced")) (.ref (He.ga K "TooOld")) = some false := of_decide_eq_true (t.fb_ 190 rfl)
theorem kit_Fenced_Twice : PySem.W.kitOne K (.ref (He.ga K "Fenced")) (.ref (He.ga K "Twice")) = some false := of_decide_eq_true (t.fb_ 191 rfl)
theorem kit_Fenced_ValueError : PySem.W.kitOne K (.ref (He.ga K "Fenced")) (.type "ValueError") = some true := of_decide_eq_true (t.fb_ 192 rfl)
theorem kit_Fenced_WrongKind : PySem.W.kitOne K (.ref (He.ga K "Fenced")) (.ref (He.ga K "WrongKind")) = some false := of_decide_eq_true (t.fb_ 193 rfl)
theorem kit_Gap_BadWord : PySem.W.kitOne K (.ref (He.ga K "Gap")) (.ref (He.ga K "BadWord")) = some false := of_decide_eq_true (t.fb_ 194 rfl)
theorem kit_Gap_Beyond : PySem.W.kitOne K (.ref (He.ga K "Gap")) (.ref (He.ga K "Beyond")) = some false := of_decide_eq_true (t.fb_ 195 rfl)
theorem kit_Gap_Broken : PySem.W.kitOne K (.ref (He.ga K "Gap")) (.ref (He.ga K "Broken")) = some false := of_decide_eq_true (t.fb_ 196 rfl)
theorem kit_Gap_Busy : PySem.W.kitOne K (.ref (He.ga K "Gap")) (.ref (He.ga K "Busy")) = some false := of_decide_eq_true (t.fb_ 197 rfl)
theorem kit_Gap_DeedError : PySem.W.kitOne K (.ref (He.ga K "Gap")) (.ref (He.ga K "DeedError")) = some false := of_decide_eq_true (t.fb_ 198 rfl)
theorem kit_Gap_Doubled : PySem.W.kitOne K (.ref (He.ga K "Gap")) (.ref (He.ga K "Doubled")) = some false := of_decide_eq_true (t.fb_ 199 rfl)
theorem kit_Gap_Fenced : PySem.W.kitOne K (.ref (He.ga K "Gap")) (.ref (He.ga K "Fenced")) = some false := of_decide_eq_true (t.fb_ 200 rfl)
theorem kit_Gap_Gap : PySem.W.kitOne K (.ref (He.ga K "Gap")) (.ref (He.ga K "Gap")) = some true := of_decide_eq_true (t.fb_ 201 rfl)
theorem kit_Gap_Gone : PySem.W.kitOne K (.ref (He.ga K "Gap")) (.ref (He.ga K "Gone")) = some false := of_decide_eq_true (t.fb_ 202 rfl)
theorem kit_Gap_Late : PySem.W.kitOne K (.ref (He.ga K "Gap")) (.ref (He.ga K "Late")) = some false := of_decide_eq_true (t.fb_ 203 rfl)
theorem kit_Gap_LoanError : PySem.W.kitOne K (.ref (He.ga K "Gap")) (.ref (He.ga K "LoanError")) = some false := of_decide_eq_true (t.fb_ 204 rfl)
theorem kit_Gap_Needed : PySem.W.kitOne K (.ref (He.ga K "Gap")) (.ref (He.ga K "Needed")) = some false := of_decide_eq_true (t.fb_ 205 rfl)
theorem kit_Gap_NoDeed : PySem.W.kitOne K (.ref (He.ga K "Gap")) (.ref (He.ga K "NoDeed")) = some false := of_decide_eq_true (t.fb_ 206 rfl)
theorem kit_Gap_NoSuch : PySem.W.kitOne K (.ref (He.ga K "Gap")) (.ref (He.ga K "NoSuch")) = some false := of_decide_eq_true (t.fb_ 207 rfl)
theorem kit_Gap_NotYours : PySem.W.kitOne K (.ref (He.ga K "Gap")) (.ref (He.ga K "NotYours")) = some false := of_decide_eq_true (t.fb_ 208 rfl)
theorem kit_Gap_RowError : PySem.W.kitOne K (.ref (He.ga K "Gap")) (.ref (He.ga K "RowError")) = some false := of_decide_eq_true (t.fb_ 209 rfl)
theorem kit_Gap_SenderError : PySem.W.kitOne K (.ref (He.ga K "Gap")) (.ref (He.ga K "SenderError")) = some true := of_decide_eq_true (t.fb_ 210 rfl)
theorem kit_Gap_TooOld : PySem.W.kitOne K (.ref (He.ga K "Gap")) (.ref (He.ga K "TooOld")) = some false := of_decide_eq_true (t.fb_ 211 rfl)
theorem kit_Gap_Twice : PySem.W.kitOne K (.ref (He.ga K "Gap")) (.ref (He.ga K "Twice")) = some false := of_decide_eq_true (t.fb_ 212 rfl)
theorem kit_Gap_ValueError : PySem.W.kitOne K (.ref (He.ga K "Gap")) (.type "ValueError") = some true := of_decide_eq_true (t.fb_ 213 rfl)
theorem kit_Gap_WrongKind : PySem.W.kitOne K (.ref (He.ga K "Gap")) (.ref (He.ga K "WrongKind")) = some false := of_decide_eq_true (t.fb_ 214 rfl)
theorem kit_Gone_BadWord : PySem.W.kitOne K (.ref (He.ga K "Gone")) (.ref (He.ga K "BadWord")) = some false := of_decide_eq_true (t.fb_ 215 rfl)
theorem kit_Gone_Beyond : PySem.W.kitOne K (.ref (He.ga K "Gone")) (.ref (He.ga K "Beyond")) = some false := of_decide_eq_true (t.fb_ 216 rfl)
theorem kit_Gone_Broken : PySem.W.kitOne K (.ref (He.ga K "Gone")) (.ref (He.ga K "Broken")) = some false := of_decide_eq_true (t.fb_ 217 rfl)
theorem kit_Gone_Busy : PySem.W.kitOne K (.ref (He.ga K "Gone")) (.ref (He.ga K "Busy")) = some false := of_decide_eq_true (t.fb_ 218 rfl)
theorem kit_Gone_DeedError : PySem.W.kitOne K (.ref (He.ga K "Gone")) (.ref (He.ga K "DeedError")) = some false := of_decide_eq_true (t.fb_ 219 rfl)
theorem kit_Gone_Doubled : PySem.W.kitOne K (.ref (He.ga K "Gone")) (.ref (He.ga K "Doubled")) = some false := of_decide_eq_true (t.fb_ 220 rfl)
theorem kit_Gone_Fenced : PySem.W.kitOne K (.ref (He.ga K "Gone")) (.ref (He.ga K "Fenced")) = some false := of_decide_eq_true (t.fb_ 221 rfl)
theorem kit_Gone_Gap : PySem.W.kitOne K (.ref (He.ga K "Gone")) (.ref (He.ga K "Gap")) = some false := of_decide_eq_true (t.fb_ 222 rfl)
theorem kit_Gone_Gone : PySem.W.kitOne K (.ref (He.ga K "Gone")) (.ref (He.ga K "Gone")) = some true := of_decide_eq_true (t.fb_ 223 rfl)
theorem kit_Gone_Late : PySem.W.kitOne K (.ref (He.ga K "Gone")) (.ref (He.ga K "Late")) = some false := of_decide_eq_true (t.fb_ 224 rfl)
theorem kit_Gone_LoanError : PySem.W.kitOne K (.ref (He.ga K "Gone")) (.ref (He.ga K "LoanError")) = some false := of_decide_eq_true (t.fb_ 225 rfl)
theorem kit_Gone_Needed : PySem.W.kitOne K (.ref (He.ga K "Gone")) (.ref (He.ga K "Needed")) = some false := of_decide_eq_true (t.fb_ 226 rfl)
theorem kit_Gone_NoDeed : PySem.W.kitOne K (.ref (He.ga K "Gone")) (.ref (He.ga K "NoDeed")) = some false := of_decide_eq_true (t.fb_ 227 rfl)
theorem kit_Gone_NoSuch : PySem.W.kitOne K (.ref (He.ga K "Gone")) (.ref (He.ga K "NoSuch")) = some false := of_decide_eq_true (t.fb_ 228 rfl)
theorem kit_Gone_NotYours : PySem.W.kitOne K (.ref (He.ga K "Gone")) (.ref (He.ga K "NotYours")) = some false := of_decide_eq_true (t.fb_ 229 rfl)
theorem kit_Gone_RowError : PySem.W.kitOne K (.ref (He.ga K "Gone")) (.ref (He.ga K "RowError")) = some true := of_decide_eq_true (t.fb_ 230 rfl)
theorem kit_Gone_SenderError : PySem.W.kitOne K (.ref (He.ga K "Gone")) (.ref (He.ga K "SenderError")) = some false := of_decide_eq_true (t.fb_ 231 rfl)
theorem kit_Gone_TooOld : PySem.W.kitOne K (.ref (He.ga K "Gone")) (.ref (He.ga K "TooOld")) = some false := of_decide_eq_true (t.fb_ 232 rfl)
theorem kit_Gone_Twice : PySem.W.kitOne K (.ref (He.ga K "Gone")) (.ref (He.ga K "Twice")) = some false := of_decide_eq_true (t.fb_ 233 rfl)
theorem kit_Gone_ValueError : PySem.W.kitOne K (.ref (He.ga K "Gone")) (.type "ValueError") = some true := of_decide_eq_true (t.fb_ 234 rfl)
theorem kit_Gone_WrongKind : PySem.W.kitOne K (.ref (He.ga K "Gone")) (.ref (He.ga K "WrongKind")) = some false := of_decide_eq_true (t.fb_ 235 rfl)
theorem kit_Late_BadWord : PySem.W.kitOne K (.ref (He.ga K "Late")) (.ref (He.ga K "BadWord")) = some false := of_decide_eq_true (t.fb_ 236 rfl)
theorem kit_Late_Beyond : PySem.W.kitOne K (.ref (He.ga K "Late")) (.ref (He.ga K "Beyond")) = some false := of_decide_eq_true (t.fb_ 237 rfl)
theorem kit_Late_Broken : PySem.W.kitOne K (.ref (He.ga K "Late")) (.ref (He.ga K "Broken")) = some false := of_decide_eq_true (t.fb_ 238 rfl)
theorem kit_Late_Busy : PySem.W.kitOne K (.ref (He.ga K "Late")) (.ref (He.ga K "Busy")) = some false := of_decide_eq_true (t.fb_ 239 rfl)
theorem kit_Late_DeedError : PySem.W.kitOne K (.ref (He.ga K "Late")) (.ref (He.ga K "DeedError")) = some false := of_decide_eq_true (t.fb_ 240 rfl)
theorem kit_Late_Doubled : PySem.W.kitOne K (.ref (He.ga K "Late")) (.ref (He.ga K "Doubled")) = some false := of_decide_eq_true (t.fb_ 241 rfl)
theorem kit_Late_Fenced : PySem.W.kitOne K (.ref (He.ga K "Late")) (.ref (He.ga K "Fenced")) = some false := of_decide_eq_true (t.fb_ 242 rfl)
theorem kit_Late_Gap : PySem.W.kitOne K (.ref (He.ga K "Late")) (.ref (He.ga K "Gap")) = some false := of_decide_eq_true (t.fb_ 243 rfl)
theorem kit_Late_Gone : PySem.W.kitOne K (.ref (He.ga K "Late")) (.ref (He.ga K "Gone")) = some false := of_decide_eq_true (t.fb_ 244 rfl)
theorem kit_Late_Late : PySem.W.kitOne K (.ref (He.ga K "Late")) (.ref (He.ga K "Late")) = some true := of_decide_eq_true (t.fb_ 245 rfl)
theorem kit_Late_LoanError : PySem.W.kitOne K (.ref (He.ga K "Late")) (.ref (He.ga K "LoanError")) = some true := of_decide_eq_true (t.fb_ 246 rfl)
theorem kit_Late_Needed : PySem.W.kitOne K (.ref (He.ga K "Late")) (.ref (He.ga K "Needed")) = some false := of_decide_eq_true (t.fb_ 247 rfl)
theorem kit_Late_NoDeed : PySem.W.kitOne K (.ref (He.ga K "Late")) (.ref (He.ga K "NoDeed")) = some false := of_decide_eq_true (t.fb_ 248 rfl)
theorem kit_Late_NoSuch : PySem.W.kitOne K (.ref (He.ga K "Late")) (.ref (He.ga K "NoSuch")) = some false := of_decide_eq_true (t.fb_ 249 rfl)
theorem kit_Late_NotYours : PySem.W.kitOne K (.ref (He.ga K "Late")) (.ref (He.ga K "NotYours")) = some false := of_decide_eq_true (t.fb_ 250 rfl)
theorem kit_Late_RowError : PySem.W.kitOne K (.ref (He.ga K "Late")) (.ref (He.ga K "RowError")) = some false := of_decide_eq_true (t.fb_ 251 rfl)
theorem kit_Late_SenderError : PySem.W.kitOne K (.ref (He.ga K "Late")) (.ref (He.ga K "SenderError")) = some false := of_decide_eq_true (t.fb_ 252 rfl)
theorem kit_Late_TooOld : PySem.W.kitOne K (.ref (He.ga K "Late")) (.ref (He.ga K "TooOld")) = some false := of_decide_eq_true (t.fb_ 253 rfl)
theorem kit_Late_Twice : PySem.W.kitOne K (.ref (He.ga K "Late")) (.ref (He.ga K "Twice")) = some false := of_decide_eq_true (t.fb_ 254 rfl)
theorem kit_Late_ValueError : PySem.W.kitOne K (.ref (He.ga K "Late")) (.type "ValueError") = some true := of_decide_eq_true (t.fb_ 255 rfl)
theorem kit_Late_WrongKind : PySem.W.kitOne K (.ref (He.ga K "Late")) (.ref (He.ga K "WrongKind")) = some false := of_decide_eq_true (t.fb_ 256 rfl)
theorem kit_Needed_BadWord : PySem.W.kitOne K (.ref (He.ga K "Needed")) (.ref (He.ga K "BadWord")) = some false := of_decide_eq_true (t.fb_ 257 rfl)
theorem kit_Needed_Beyond : PySem.W.kitOne K (.ref (He.ga K "Needed")) (.ref (He.ga K "Beyond")) = some false := of_decide_eq_true (t.fb_ 258 rfl)
theorem kit_Needed_Broken : PySem.W.kitOne K (.ref (He.ga K "Needed")) (.ref (He.ga K "Broken")) = some false := of_decide_eq_true (t.fb_ 259 rfl)
theorem kit_Needed_Busy : PySem.W.kitOne K (.ref (He.ga K "Needed")) (.ref (He.ga K "Busy")) = some false := of_decide_eq_true (t.fb_ 260 rfl)
theorem kit_Needed_DeedError : PySem.W.kitOne K (.ref (He.ga K "Needed")) (.ref (He.ga K "DeedError")) = some false := of_decide_eq_true (t.fb_ 261 rfl)
theorem kit_Needed_Doubled : PySem.W.kitOne K (.ref (He.ga K "Needed")) (.ref (He.ga K "Doubled")) = some false := of_decide_eq_true (t.fb_ 262 rfl)
theorem kit_Needed_Fenced : PySem.W.kitOne K (.ref (He.ga K "Needed")) (.ref (He.ga K "Fenced")) = some false := of_decide_eq_true (t.fb_ 263 rfl)
theorem kit_Needed_Gap : PySem.W.kitOne K (.ref (He.ga K "Needed")) (.ref (He.ga K "Gap")) = some false := of_decide_eq_true (t.fb_ 264 rfl)
theorem kit_Needed_Gone : PySem.W.kitOne K (.ref (He.ga K "Needed")) (.ref (He.ga K "Gone")) = some false := of_decide_eq_true (t.fb_ 265 rfl)
theorem kit_Needed_Late : PySem.W.kitOne K (.ref (He.ga K "Needed")) (.ref (He.ga K "Late")) = some false := of_decide_eq_true (t.fb_ 266 rfl)
theorem kit_Needed_LoanError : PySem.W.kitOne K (.ref (He.ga K "Needed")) (.ref (He.ga K "LoanError")) = some false := of_decide_eq_true (t.fb_ 267 rfl)
theorem kit_Needed_Needed : PySem.W.kitOne K (.ref (He.ga K "Needed")) (.ref (He.ga K "Needed")) = some true := of_decide_eq_true (t.fb_ 268 rfl)
theorem kit_Needed_NoDeed : PySem.W.kitOne K (.ref (He.ga K "Needed")) (.ref (He.ga K "NoDeed")) = some false := of_decide_eq_true (t.fb_ 269 rfl)
theorem kit_Needed_NoSuch : PySem.W.kitOne K (.ref (He.ga K "Needed")) (.ref (He.ga K "NoSuch")) = some false := of_decide_eq_true (t.fb_ 270 rfl)
theorem kit_Needed_NotYours : PySem.W.kitOne K (.ref (He.ga K "Needed")) (.ref (He.ga K "NotYours")) = some false := of_decide_eq_true (t.fb_ 271 rfl)
theorem kit_Needed_RowError : PySem.W.kitOne K (.ref (He.ga K "Needed")) (.ref (He.ga K "RowError")) = some true := of_decide_eq_true (t.fb_ 272 rfl)
theorem kit_Needed_SenderError : PySem.W.kitOne K (.ref (He.ga K "Needed")) (.ref (He.ga K "SenderError")) = some false := of_decide_eq_true (t.fb_ 273 rfl)
theorem kit_Needed_TooOld : PySem.W.kitOne K (.ref (He.ga K "Needed")) (.ref (He.ga K "TooOld")) = some false := of_decide_eq_true (t.fb_ 274 rfl)
theorem kit_Needed_Twice : PySem.W.kitOne K (.ref (He.ga K "Needed")) (.ref (He.ga K "Twice")) = some false := of_decide_eq_true (t.fb_ 275 rfl)
theorem kit_Needed_ValueError : PySem.W.kitOne K (.ref (He.ga K "Needed")) (.type "ValueError") = some true := of_decide_eq_true (t.fb_ 276 rfl)
theorem kit_Needed_WrongKind : PySem.W.kitOne K (.ref (He.ga K "Needed")) (.ref (He.ga K "WrongKind")) = some false := of_decide_eq_true (t.fb_ 277 rfl)
theorem kit_NoDeed_BadWord : PySem.W.kitOne K (.ref (He.ga K "NoDeed")) (.ref (He.ga K "BadWord")) = some false := of_decide_eq_true (t.fb_ 278 rfl)
theorem kit_NoDeed_Beyond : PySem.W.kitOne K (.ref (He.ga K "NoDeed")) (.ref (He.ga K "Beyond")) = some false := of_decide_eq_true (t.fb_ 279 rfl)
theorem kit_NoDeed_Broken : PySem.W.kitOne K (.ref (He.ga K "NoDeed")) (.ref (He.ga K "Broken")) = some false := of_decide_eq_true (t.fb_ 280 rfl)
theorem kit_NoDeed_Busy : PySem.W.kitOne K (.ref (He.ga K "NoDeed")) (.ref (He.ga K "Busy")) = some false := of_decide_eq_true (t.fb_ 281 rfl)
theorem kit_NoDeed_DeedError : PySem.W.kitOne K (.ref (He.ga K "NoDeed")) (.ref (He.ga K "DeedError")) = some true := of_decide_eq_true (t.fb_ 282 rfl)
theorem kit_NoDeed_Doubled : PySem.W.kitOne K (.ref (He.ga K "NoDeed")) (.ref (He.ga K "Doubled")) = some false := of_decide_eq_true (t.fb_ 283 rfl)
theorem kit_NoDeed_Fenced : PySem.W.kitOne K (.ref (He.ga K "NoDeed")) (.ref (He.ga K "Fenced")) = some false := of_decide_eq_true (t.fb_ 284 rfl)
theorem kit_NoDeed_Gap : PySem.W.kitOne K (.ref (He.ga K "NoDeed")) (.ref (He.ga K "Gap")) = some false := of_decide_eq_true (t.fb_ 285 rfl)
theorem kit_NoDeed_Gone : PySem.W.kitOne K (.ref (He.ga K "NoDeed")) (.ref (He.ga K "Gone")) = some false := of_decide_eq_true (t.fb_ 286 rfl)
theorem kit_NoDeed_Late : PySem.W.kitOne K (.ref (He.ga K "NoDeed")) (.ref (He.ga K "Late")) = some false := of_decide_eq_true (t.fb_ 287 rfl)
theorem kit_NoDeed_LoanError : PySem.W.kitOne K (.ref (He.ga K "NoDeed")) (.ref (He.ga K "LoanError")) = some false := of_decide_eq_true (t.fb_ 288 rfl)
theorem kit_NoDeed_Needed : PySem.W.kitOne K (.ref (He.ga K "NoDeed")) (.ref (He.ga K "Needed")) = some false := of_decide_eq_true (t.fb_ 289 rfl)
theorem kit_NoDeed_NoDeed : PySem.W.kitOne K (.ref (He.ga K "NoDeed")) (.ref (He.ga K "NoDeed")) = some true := of_decide_eq_true (t.fb_ 290 rfl)
theorem kit_NoDeed_NoSuch : PySem.W.kitOne K (.ref (He.ga K "NoDeed")) (.ref (He.ga K "NoSuch")) = some false := of_decide_eq_true (t.fb_ 291 rfl)
theorem kit_NoDeed_NotYours : PySem.W.kitOne K (.ref (He.ga K "NoDeed")) (.ref (He.ga K "NotYours")) = some false := of_decide_eq_true (t.fb_ 292 rfl)
theorem kit_NoDeed_RowError : PySem.W.kitOne K (.ref (He.ga K "NoDeed")) (.ref (He.ga K "RowError")) = some false := of_decide_eq_true (t.fb_ 293 rfl)
theorem kit_NoDeed_SenderError : PySem.W.kitOne K (.ref (He.ga K "NoDeed")) (.ref (He.ga K "SenderError")) = some false := of_decide_eq_true (t.fb_ 294 rfl)
theorem kit_NoDeed_TooOld : PySem.W.kitOne K (.ref (He.ga K "NoDeed")) (.ref (He.ga K "TooOld")) = some false := of_decide_eq_true (t.fb_ 295 rfl)
theorem kit_NoDeed_Twice : PySem.W.kitOne K (.ref (He.ga K "NoDeed")) (.ref (He.ga K "Twice")) = some false := of_decide_eq_true (t.fb_ 296 rfl)
theorem kit_NoDeed_ValueError : PySem.W.kitOne K (.ref (He.ga K "NoDeed")) (.type "ValueError") = some true := of_decide_eq_true (t.fb_ 297 rfl)
theorem kit_NoDeed_WrongKind : PySem.W.kitOne K (.ref (He.ga K "NoDeed")) (.ref (He.ga K "WrongKind")) = some false := of_decide_eq_true (t.fb_ 298 rfl)
theorem kit_NoSuch_BadWord : PySem.W.kitOne K (.ref (He.ga K "NoSuch")) (.ref (He.ga K "BadWord")) = some false := of_decide_eq_true (t.fb_ 299 rfl)
theorem kit_NoSuch_Beyond : PySem.W.kitOne K (.ref (He.ga K "NoSuch")) (.ref (He.ga K "Beyond")) = some false := of_decide_eq_true (t.fb_ 300 rfl)
theorem kit_NoSuch_Broken : PySem.W.kitOne K (.ref (He.ga K "NoSuch")) (.ref (He.ga K "Broken")) = some false := of_decide_eq_true (t.fb_ 301 rfl)
theorem kit_NoSuch_Busy : PySem.W.kitOne K (.ref (He.ga K "NoSuch")) (.ref (He.ga K "Busy")) = some false := of_decide_eq_true (t.fb_ 302 rfl)
theorem kit_NoSuch_DeedError : PySem.W.kitOne K (.ref (He.ga K "NoSuch")) (.ref (He.ga K "DeedError")) = some false := of_decide_eq_true (t.fb_ 303 rfl)
theorem kit_NoSuch_Doubled : PySem.W.kitOne K (.ref (He.ga K "NoSuch")) (.ref (He.ga K "Doubled")) = some false := of_decide_eq_true (t.fb_ 304 rfl)
theorem kit_NoSuch_Fenced : PySem.W.kitOne K (.ref (He.ga K "NoSuch")) (.ref (He.ga K "Fenced")) = some false := of_decide_eq_true (t.fb_ 305 rfl)
theorem kit_NoSuch_Gap : PySem.W.kitOne K (.ref (He.ga K "NoSuch")) (.ref (He.ga K "Gap")) = some false := of_decide_eq_true (t.fb_ 306 rfl)
theorem kit_NoSuch_Gone : PySem.W.kitOne K (.ref (He.ga K "NoSuch")) (.ref (He.ga K "Gone")) = some false := of_decide_eq_true (t.fb_ 307 rfl)
theorem kit_NoSuch_Late : PySem.W.kitOne K (.ref (He.ga K "NoSuch")) (.ref (He.ga K "Late")) = some false := of_decide_eq_true (t.fb_ 308 rfl)
theorem kit_NoSuch_LoanError : PySem.W.kitOne K (.ref (He.ga K "NoSuch")) (.ref (He.ga K "LoanError")) = some false := of_decide_eq_true (t.fb_ 309 rfl)
theorem kit_NoSuch_Needed : PySem.W.kitOne K (.ref (He.ga K "NoSuch")) (.ref (He.ga K "Needed")) = some false := of_decide_eq_true (t.fb_ 310 rfl)
theorem kit_NoSuch_NoDeed : PySem.W.kitOne K (.ref (He.ga K "NoSuch")) (.ref (He.ga K "NoDeed")) = some false := of_decide_eq_true (t.fb_ 311 rfl)
theorem kit_NoSuch_NoSuch : PySem.W.kitOne K (.ref (He.ga K "NoSuch")) (.ref (He.ga K "NoSuch")) = some true := of_decide_eq_true (t.fb_ 312 rfl)
theorem kit_NoSuch_NotYours : PySem.W.kitOne K (.ref (He.ga K "NoSuch")) (.ref (He.ga K "NotYours")) = some false := of_decide_eq_true (t.fb_ 313 rfl)
theorem kit_NoSuch_RowError : PySem.W.kitOne K (.ref (He.ga K "NoSuch")) (.ref (He.ga K "RowError")) = some false := of_decide_eq_true (t.fb_ 314 rfl)
theorem kit_NoSuch_SenderError : PySem.W.kitOne K (.ref (He.ga K "NoSuch")) (.ref (He.ga K "SenderError")) = some false := of_decide_eq_true (t.fb_ 315 rfl)
theorem kit_NoSuch_TooOld : PySem.W.kitOne K (.ref (He.ga K "NoSuch")) (.ref (He.ga K "TooOld")) = some false := of_decide_eq_true (t.fb_ 316 rfl)
theorem kit_NoSuch_Twice : PySem.W.kitOne K (.ref (He.ga K "NoSuch")) (.ref (He.ga K "Twice")) = some false := of_decide_eq_true (t.fb_ 317 rfl)
theorem kit_NoSuch_ValueError : PySem.W.kitOne K (.ref (He.ga K "NoSuch")) (.type "ValueError") = some true := of_decide_eq_true (t.fb_ 318 rfl)
theorem kit_NoSuch_WrongKind : PySem.W.kitOne K (.ref (He.ga K "NoSuch")) (.ref (He.ga K "WrongKind")) = some false := of_decide_eq_true (t.fb_ 319 rfl)
theorem kit_NotYours_BadWord : PySem.W.kitOne K (.ref (He.ga K "NotYours")) (.ref (He.ga K "BadWord")) = some false := of_decide_eq_true (t.fb_ 320 rfl)
theorem kit_NotYours_Beyond : PySem.W.kitOne K (.ref (He.ga K "NotYours")) (.ref (He.ga K "Beyond")) = some false := of_decide_eq_true (t.fb_ 321 rfl)
theorem kit_NotYours_Broken : PySem.W.kitOne K (.ref (He.ga K "NotYours")) (.ref (He.ga K "Broken")) = some false := of_decide_eq_true (t.fb_ 322 rfl)
theorem kit_NotYours_Busy : PySem.W.kitOne K (.ref (He.ga K "NotYours")) (.ref (He.ga K "Busy")) = some false := of_decide_eq_true (t.fb_ 323 rfl)
theorem kit_NotYours_DeedError : PySem.W.kitOne K (.ref (He.ga K "NotYours")) (.ref (He.ga K "DeedError")) = some false := of_decide_eq_true (t.fb_ 324 rfl)
theorem kit_NotYours_Doubled : PySem.W.kitOne K (.ref (He.ga K "NotYours")) (.ref (He.ga K "Doubled")) = some false := of_decide_eq_true (t.fb_ 325 rfl)
theorem kit_NotYours_Fenced : PySem.W.kitOne K (.ref (He.ga K "NotYours")) (.ref (He.ga K "Fenced")) = some false := of_decide_eq_true (t.fb_ 326 rfl)
theorem kit_NotYours_Gap : PySem.W.kitOne K (.ref (He.ga K "NotYours")) (.ref (He.ga K "Gap")) = some false := of_decide_eq_true (t.fb_ 327 rfl)
theorem kit_NotYours_Gone : PySem.W.kitOne K (.ref (He.ga K "NotYours")) (.ref (He.ga K "Gone")) = some false := of_decide_eq_true (t.fb_ 328 rfl)
theorem kit_NotYours_Late : PySem.W.kitOne K (.ref (He.ga K "NotYours")) (.ref (He.ga K "Late")) = some false := of_decide_eq_true (t.fb_ 329 rfl)
theorem kit_NotYours_LoanError : PySem.W.kitOne K (.ref (He.ga K "NotYours")) (.ref (He.ga K "LoanError")) = some true := of_decide_eq_true (t.fb_ 330 rfl)
theorem kit_NotYours_Needed : PySem.W.kitOne K (.ref (He.ga K "NotYours")) (.ref (He.ga K "Needed")) = some false := of_decide_eq_true (t.fb_ 331 rfl)
theorem kit_NotYours_NoDeed : PySem.W.kitOne K (.ref (He.ga K "NotYours")) (.ref (He.ga K "NoDeed")) = some false := of_decide_eq_true (t.fb_ 332 rfl)
theorem kit_NotYours_NoSuch : PySem.W.kitOne K (.ref (He.ga K "NotYours")) (.ref (He.ga K "NoSuch")) = some false := of_decide_eq_true (t.fb_ 333 rfl)
theorem kit_NotYours_NotYours : PySem.W.kitOne K (.ref (He.ga K "NotYours")) (.ref (He.ga K "NotYours")) = some true := of_decide_eq_true (t.fb_ 334 rfl)
theorem kit_NotYours_RowError : PySem.W.kitOne K (.ref (He.ga K "NotYours")) (.ref (He.ga K "RowError")) = some false := of_decide_eq_true (t.fb_ 335 rfl)
theorem kit_NotYours_SenderError : PySem.W.kitOne K (.ref (He.ga K "NotYours")) (.ref (He.ga K "SenderError")) = some false := of_decide_eq_true (t.fb_ 336 rfl)
theorem kit_NotYours_TooOld : PySem.W.kitOne K (.ref (He.ga K "NotYours")) (.ref (He.ga K "TooOld")) = some false := of_decide_eq_true (t.fb_ 337 rfl)
theorem kit_NotYours_Twice : PySem.W.kitOne K (.ref (He.ga K "NotYours")) (.ref (He.ga K "Twice")) = some false := of_decide_eq_true (t.fb_ 338 rfl)
theorem kit_NotYours_ValueError : PySem.W.kitOne K (.ref (He.ga K "NotYours")) (.type "ValueError") = some true := of_decide_eq_true (t.fb_ 339 rfl)
theorem kit_NotYours_WrongKind : PySem.W.kitOne K (.ref (He.ga K "NotYours")) (.ref (He.ga K "WrongKind")) = some false := of_decide_eq_true (t.fb_ 340 rfl)
theorem kit_TooOld_BadWord : PySem.W.kitOne K (.ref (He.ga K "TooOld")) (.ref (He.ga K "BadWord")) = some false := of_decide_eq_true (t.fb_ 341 rfl)
theorem kit_TooOld_Beyond : PySem.W.kitOne K (.ref (He.ga K "TooOld")) (.ref (He.ga K "Beyond")) = some false := of_decide_eq_true (t.fb_ 342 rfl)
theorem kit_TooOld_Broken : PySem.W.kitOne K (.ref (He.ga K "TooOld")) (.ref (He.ga K "Broken")) = some false := of_decide_eq_true (t.fb_ 343 rfl)
theorem kit_TooOld_Busy : PySem.W.kitOne K (.ref (He.ga K "TooOld")) (.ref (He.ga K "Busy")) = some false := of_decide_eq_true (t.fb_ 344 rfl)
theorem kit_TooOld_DeedError : PySem.W.kitOne K (.ref (He.ga K "TooOld")) (.ref (He.ga K "DeedError")) = some false := of_decide_eq_true (t.fb_ 345 rfl)
theorem kit_TooOld_Doubled : PySem.W.kitOne K (.ref (He.ga K "TooOld")) (.ref (He.ga K "Doubled")) = some false := of_decide_eq_true (t.fb_ 346 rfl)
theorem kit_TooOld_Fenced : PySem.W.kitOne K (.ref (He.ga K "TooOld")) (.ref (He.ga K "Fenced")) = some false := of_decide_eq_true (t.fb_ 347 rfl)
theorem kit_TooOld_Gap : PySem.W.kitOne K (.ref (He.ga K "TooOld")) (.ref (He.ga K "Gap")) = some false := of_decide_eq_true (t.fb_ 348 rfl)
theorem kit_TooOld_Gone : PySem.W.kitOne K (.ref (He.ga K "TooOld")) (.ref (He.ga K "Gone")) = some false := of_decide_eq_true (t.fb_ 349 rfl)
theorem kit_TooOld_Late : PySem.W.kitOne K (.ref (He.ga K "TooOld")) (.ref (He.ga K "Late")) = some false := of_decide_eq_true (t.fb_ 350 rfl)
theorem kit_TooOld_LoanError : PySem.W.kitOne K (.ref (He.ga K "TooOld")) (.ref (He.ga K "LoanError")) = some false := of_decide_eq_true (t.fb_ 351 rfl)
theorem kit_TooOld_Needed : PySem.W.kitOne K (.ref (He.ga K "TooOld")) (.ref (He.ga K "Needed")) = some false := of_decide_eq_true (t.fb_ 352 rfl)
theorem kit_TooOld_NoDeed : PySem.W.kitOne K (.ref (He.ga K "TooOld")) (.ref (He.ga K "NoDeed")) = some false := of_decide_eq_true (t.fb_ 353 rfl)
theorem kit_TooOld_NoSuch : PySem.W.kitOne K (.ref (He.ga K "TooOld")) (.ref (He.ga K "NoSuch")) = some false := of_decide_eq_true (t.fb_ 354 rfl)
theorem kit_TooOld_NotYours : PySem.W.kitOne K (.ref (He.ga K "TooOld")) (.ref (He.ga K "NotYours")) = some false := of_decide_eq_true (t.fb_ 355 rfl)
theorem kit_TooOld_RowError : PySem.W.kitOne K (.ref (He.ga K "TooOld")) (.ref (He.ga K "RowError")) = some false := of_decide_eq_true (t.fb_ 356 rfl)
theorem kit_TooOld_SenderError : PySem.W.kitOne K (.ref (He.ga K "TooOld")) (.ref (He.ga K "SenderError")) = some true := of_decide_eq_true (t.fb_ 357 rfl)
theorem kit_TooOld_TooOld : PySem.W.kitOne K (.ref (He.ga K "TooOld")) (.ref (He.ga K "TooOld")) = some true := of_decide_eq_true (t.fb_ 358 rfl)
theorem kit_TooOld_Twice : PySem.W.kitOne K (.ref (He.ga K "TooOld")) (.ref (He.ga K "Twice")) = some false := of_decide_eq_true (t.fb_ 359 rfl)
theorem kit_TooOld_ValueError : PySem.W.kitOne K (.ref (He.ga K "TooOld")) (.type "ValueError") = some true := of_decide_eq_true (t.fb_ 360 rfl)
theorem kit_TooOld_WrongKind : PySem.W.kitOne K (.ref (He.ga K "TooOld")) (.ref (He.ga K "WrongKind")) = some false := of_decide_eq_true (t.fb_ 361 rfl)
theorem kit_Twice_BadWord : PySem.W.kitOne K (.ref (He.ga K "Twice")) (.ref (He.ga K "BadWord")) = some false := of_decide_eq_true (t.fb_ 362 rfl)
theorem kit_Twice_Beyond : PySem.W.kitOne K (.ref (He.ga K "Twice")) (.ref (He.ga K "Beyond")) = some false := of_decide_eq_true (t.fb_ 363 rfl)
theorem kit_Twice_Broken : PySem.W.kitOne K (.ref (He.ga K "Twice")) (.ref (He.ga K "Broken")) = some false := of_decide_eq_true (t.fb_ 364 rfl)
theorem kit_Twice_Busy : PySem.W.kitOne K (.ref (He.ga K "Twice")) (.ref (He.ga K "Busy")) = some false := of_decide_eq_true (t.fb_ 365 rfl)
theorem kit_Twice_DeedError : PySem.W.kitOne K (.ref (He.ga K "Twice")) (.ref (He.ga K "DeedError")) = some false := of_decide_eq_true (t.fb_ 366 rfl)
theorem kit_Twice_Doubled : PySem.W.kitOne K (.ref (He.ga K "Twice")) (.ref (He.ga K "Doubled")) = some false := of_decide_eq_true (t.fb_ 367 rfl)
theorem kit_Twice_Fenced : PySem.W.kitOne K (.ref (He.ga K "Twice")) (.ref (He.ga K "Fenced")) = some false := of_decide_eq_true (t.fb_ 368 rfl)
theorem kit_Twice_Gap : PySem.W.kitOne K (.ref (He.ga K "Twice")) (.ref (He.ga K "Gap")) = some false := of_decide_eq_true (t.fb_ 369 rfl)
theorem kit_Twice_Gone : PySem.W.kitOne K (.ref (He.ga K "Twice")) (.ref (He.ga K "Gone")) = some false := of_decide_eq_true (t.fb_ 370 rfl)
theorem kit_Twice_Late : PySem.W.kitOne K (.ref (He.ga K "Twice")) (.ref (He.ga K "Late")) = some false := of_decide_eq_true (t.fb_ 371 rfl)
theorem kit_Twice_LoanError : PySem.W.kitOne K (.ref (He.ga K "Twice")) (.ref (He.ga K "LoanError")) = some true := of_decide_eq_true (t.fb_ 372 rfl)
theorem kit_Twice_Needed : PySem.W.kitOne K (.ref (He.ga K "Twice")) (.ref (He.ga K "Needed")) = some false := of_decide_eq_true (t.fb_ 373 rfl)
theorem kit_Twice_NoDeed : PySem.W.kitOne K (.ref (He.ga K "Twice")) (.ref (He.ga K "NoDeed")) = some false := of_decide_eq_true (t.fb_ 374 rfl)
theorem kit_Twice_NoSuch : PySem.W.kitOne K (.ref (He.ga K "Twice")) (.ref (He.ga K "NoSuch")) = some false := of_decide_eq_true (t.fb_ 375 rfl)
theorem kit_Twice_NotYours : PySem.W.kitOne K (.ref (He.ga K "Twice")) (.ref (He.ga K "NotYours")) = some false := of_decide_eq_true (t.fb_ 376 rfl)
theorem kit_Twice_RowError : PySem.W.kitOne K (.ref (He.ga K "Twice")) (.ref (He.ga K "RowError")) = some false := of_decide_eq_true (t.fb_ 377 rfl)
theorem kit_Twice_SenderError : PySem.W.kitOne K (.ref (He.ga K "Twice")) (.ref (He.ga K "SenderError")) = some false := of_decide_eq_true (t.fb_ 378 rfl)
theorem kit_Twice_TooOld : PySem.W.kitOne K (.ref (He.ga K "Twice")) (.ref (He.ga K "TooOld")) = some false := of_decide_eq_true (t.fb_ 379 rfl)
theorem kit_Twice_Twice : PySem.W.kitOne K (.ref (He.ga K "Twice")) (.ref (He.ga K "Twice")) = some true := of_decide_eq_true (t.fb_ 380 rfl)
theorem kit_Twice_ValueError : PySem.W.kitOne K (.ref (He.ga K "Twice")) (.type "ValueError") = some true := of_decide_eq_true (t.fb_ 381 rfl)
theorem kit_Twice_WrongKind : PySem.W.kitOne K (.ref (He.ga K "Twice")) (.ref (He.ga K "WrongKind")) = some false := of_decide_eq_true (t.fb_ 382 rfl)
theorem kit_WrongKind_BadWord : PySem.W.kitOne K (.ref (He.ga K "WrongKind")) (.ref (He.ga K "BadWord")) = some false := of_decide_eq_true (t.fb_ 383 rfl)
theorem kit_WrongKind_Beyond : PySem.W.kitOne K (.ref (He.ga K "WrongKind")) (.ref (He.ga K "Beyond")) = some false := of_decide_eq_true (t.fb_ 384 rfl)
theorem kit_WrongKind_Broken : PySem.W.kitOne K (.ref (He.ga K "WrongKind")) (.ref (He.ga K "Broken")) = some false := of_decide_eq_true (t.fb_ 385 rfl)
theorem kit_WrongKind_Busy : PySem.W.kitOne K (.ref (He.ga K "WrongKind")) (.ref (He.ga K "Busy")) = some false := of_decide_eq_true (t.fb_ 386 rfl)
theorem kit_WrongKind_DeedError : PySem.W.kitOne K (.ref (He.ga K "WrongKind")) (.ref (He.ga K "DeedError")) = some false := of_decide_eq_true (t.fb_ 387 rfl)
theorem kit_WrongKind_Doubled : PySem.W.kitOne K (.ref (He.ga K "WrongKind")) (.ref (He.ga K "Doubled")) = some false := of_decide_eq_true (t.fb_ 388 rfl)
theorem kit_WrongKind_Fenced : PySem.W.kitOne K (.ref (He.ga K "WrongKind")) (.ref (He.ga K "Fenced")) = some false := of_decide_eq_true (t.fb_ 389 rfl)
theorem kit_WrongKind_Gap : PySem.W.kitOne K (.ref (He.ga K "WrongKind")) (.ref (He.ga K "Gap")) = some false := of_decide_eq_true (t.fb_ 390 rfl)
theorem kit_WrongKind_Gone : PySem.W.kitOne K (.ref (He.ga K "WrongKind")) (.ref (He.ga K "Gone")) = some false := of_decide_eq_true (t.fb_ 391 rfl)
theorem kit_WrongKind_Late : PySem.W.kitOne K (.ref (He.ga K "WrongKind")) (.ref (He.ga K "Late")) = some false := of_decide_eq_true (t.fb_ 392 rfl)
theorem kit_WrongKind_LoanError : PySem.W.kitOne K (.ref (He.ga K "WrongKind")) (.ref (He.ga K "LoanError")) = some false := of_decide_eq_true (t.fb_ 393 rfl)
theorem kit_WrongKind_Needed : PySem.W.kitOne K (.ref (He.ga K "WrongKind")) (.ref (He.ga K "Needed")) = some false := of_decide_eq_true (t.fb_ 394 rfl)
theorem kit_WrongKind_NoDeed : PySem.W.kitOne K (.ref (He.ga K "WrongKind")) (.ref (He.ga K "NoDeed")) = some false := of_decide_eq_true (t.fb_ 395 rfl)
theorem kit_WrongKind_NoSuch : PySem.W.kitOne K (.ref (He.ga K "WrongKind")) (.ref (He.ga K "NoSuch")) = some false := of_decide_eq_true (t.fb_ 396 rfl)
theorem kit_WrongKind_NotYours : PySem.W.kitOne K (.ref (He.ga K "WrongKind")) (.ref (He.ga K "NotYours")) = some false := of_decide_eq_true (t.fb_ 397 rfl)
theorem kit_WrongKind_RowError : PySem.W.kitOne K (.ref (He.ga K "WrongKind")) (.ref (He.ga K "RowError")) = some true := of_decide_eq_true (t.fb_ 398 rfl)
theorem kit_WrongKind_SenderError : PySem.W.kitOne K (.ref (He.ga K "WrongKind")) (.ref (He.ga K "SenderError")) = some false := of_decide_eq_true (t.fb_ 399 rfl)
theorem kit_WrongKind_TooOld : PySem.W.kitOne K (.ref (He.ga K "WrongKind")) (.ref (He.ga K "TooOld")) = some false := of_decide_eq_true (t.fb_ 400 rfl)
theorem kit_WrongKind_Twice : PySem.W.kitOne K (.ref (He.ga K "WrongKind")) (.ref (He.ga K "Twice")) = some false := of_decide_eq_true (t.fb_ 401 rfl)
theorem kit_WrongKind_ValueError : PySem.W.kitOne K (.ref (He.ga K "WrongKind")) (.type "ValueError") = some true := of_decide_eq_true (t.fb_ 402 rfl)
theorem kit_WrongKind_WrongKind : PySem.W.kitOne K (.ref (He.ga K "WrongKind")) (.ref (He.ga K "WrongKind")) = some true := of_decide_eq_true (t.fb_ 403 rfl)
theorem fn_NoSuch___init__ : FunD K "__init__" "NoSuch.__init__" (defArgs s_NoSuch___init__) (defBody s_NoSuch___init__) (defScope s_NoSuch___init__) (d_NoSuch___init__.dvs K) (d_NoSuch___init__.kws K) (He.fAd K ("NoSuch", some "__init__")) (fdOf K ("NoSuch", some "__init__")) := t.fn 0 rfl
theorem b_NoSuch___init__ : Binds K (fdOf K ("NoSuch", some "__init__")) ["self", "name"] [] := (fn_NoSuch___init__ t).bindsN fun _ _ _ _ _ _ us hl => match us, hl with | [_, _], _ => rfl
theorem kp_NoSuch___init__ : PySem.W.keepIn K (.ref (He.fAd K ("NoSuch", some "__init__"))) = true := (fn_NoSuch___init__ t).kp
theorem fn_Doubled___init__ : FunD K "__init__" "Doubled.__init__" (defArgs s_Doubled___init__) (defBody s_Doubled___init__) (defScope s_Doubled___init__) (d_Doubled___init__.dvs K) (d_Doubled___init__.kws K) (He.fAd K ("Doubled", some "__init__")) (fdOf K ("Doubled", some "__init__")) := t.fn 1 rfl
theorem b_Doubled___init__ : Binds K (fdOf K ("Doubled", some "__init__")) ["self", "name"] [] := (fn_Doubled___init__ t).bindsN fun _ _ _ _ _ _ us hl => match us, hl with | [_, _], _ => rfl
theorem kp_Doubled___init__ : PySem.W.keepIn K (.ref (He.fAd K ("Doubled", some "__init__"))) = true := (fn_Doubled___init__ t).kp
theorem fn_Broken___init__ : FunD K "__init__" "Broken.__init__" (defArgs s_Broken___init__) (defBody s_Broken___init__) (defScope s_Broken___init__) (d_Broken___init__.dvs K) (d_Broken___init__.kws K) (He.fAd K ("Broken", some "__init__")) (fdOf K ("Broken", some "__init__")) := t.fn 2 rfl
theorem b_Broken___init__ : Binds K (fdOf K ("Broken", some "__init__")) ["self", "line"] [] := (fn_Broken___init__ t).bindsN fun _ _ _ _ _ _ us hl => match us, hl with | [_, _], _ => rfl
theorem kp_Broken___init__ : PySem.W.keepIn K (.ref (He.fAd K ("Broken", some "__init__"))) = true := (fn_Broken___init__ t).kp
theorem fn_Fenced___init__ : FunD K "__init__" "Fenced.__init__" (defArgs s_Fenced___init__) (defBody s_Fenced___init__) (defScope s_Fenced___init__) (d_Fenced___init__.dvs K) (d_Fenced___init__.kws K) (He.fAd K ("Fenced", some "__init__")) (fdOf K ("Fenced", some "__init__")) := t.fn 3 rfl
theorem b_Fenced___init__ : Binds K (fdOf K ("Fenced", some "__init__")) ["self", "life"] [] := (fn_Fenced___init__ t).bindsN fun _ _ _ _ _ _ us hl => match us, hl with | [_, _], _ => rfl
theorem kp_Fenced___init__ : PySem.W.keepIn K (.ref (He.fAd K ("Fenced", some "__init__"))) = true := (fn_Fenced___init__ t).kp
theorem fn_Gap___init__ : FunD K "__init__" "Gap.__init__" (defArgs s_Gap___init__) (defBody s_Gap___init__) (defScope s_Gap___init__) (d_Gap___init__.dvs K) (d_Gap___init__.kws K) (He.fAd K ("Gap", some "__init__")) (fdOf K ("Gap", some "__init__")) := t.fn 4 rfl
theorem b_Gap___init__ : Binds K (fdOf K ("Gap", some "__init__")) ["self", "due"] [] := (fn_Gap___init__ t).bindsN fun _ _ _ _ _ _ us hl => match us, hl with | [_, _], _ => rfl
theorem kp_Gap___init__ : PySem.W.keepIn K (.ref (He.fAd K ("Gap", some "__init__"))) = true := (fn_Gap___init__ t).kp
theorem fn_TooOld___init__ : FunD K "__init__" "TooOld.__init__" (defArgs s_TooOld___init__) (defBody s_TooOld___init__) (defScope s_TooOld___init__) (d_TooOld___init__.dvs K) (d_TooOld___init__.kws K) (He.fAd K ("TooOld", some "__init__")) (fdOf K ("TooOld", some "__init__")) := t.fn 5 rfl
theorem b_TooOld___init__ : Binds K (fdOf K ("TooOld", some "__init__")) ["self", "number"] [] := (fn_TooOld___init__ t).bindsN fun _ _ _ _ _ _ us hl => match us, hl with | [_, _], _ => rfl
theorem kp_TooOld___init__ : PySem.W.keepIn K (.ref (He.fAd K ("TooOld", some "__init__"))) = true := (fn_TooOld___init__ t).kp
theorem fn_Late___init__ : FunD K "__init__" "Late.__init__" (defArgs s_Late___init__) (defBody s_Late___init__) (defScope s_Late___init__) (d_Late___init__.dvs K) (d_Late___init__.kws K) (He.fAd K ("Late", some "__init__")) (fdOf K ("Late", some "__init__")) := t.fn 6 rfl
theorem b_Late___init__ : Binds K (fdOf K ("Late", some "__init__")) ["self", "row", "loan"] [] := (fn_Late___init__ t).bindsN fun _ _ _ _ _ _ us hl => match us, hl with | [_, _, _], _ => rfl
theorem kp_Late___init__ : PySem.W.keepIn K (.ref (He.fAd K ("Late", some "__init__"))) = true := (fn_Late___init__ t).kp
theorem fn_NotYours___init__ : FunD K "__init__" "NotYours.__init__" (defArgs s_NotYours___init__) (defBody s_NotYours___init__) (defScope s_NotYours___init__) (d_NotYours___init__.dvs K) (d_NotYours___init__.kws K) (He.fAd K ("NotYours", some "__init__")) (fdOf K ("NotYours", some "__init__")) := t.fn 7 rfl
theorem b_NotYours___init__ : Binds K (fdOf K ("NotYours", some "__init__")) ["self", "row", "owner"] [] := (fn_NotYours___init__ t).bindsN fun _ _ _ _ _ _ us hl => match us, hl with | [_, _, _], _ => rfl
theorem kp_NotYours___init__ : PySem.W.keepIn K (.ref (He.fAd K ("NotYours", some "__init__"))) = true := (fn_NotYours___init__ t).kp
theorem fn_Twice___init__ : FunD K "__init__" "Twice.__init__" (defArgs s_Twice___init__) (defBody s_Twice___init__) (defScope s_Twice___init__) (d_Twice___init__.dvs K) (d_Twice___init__.kws K) (He.fAd K ("Twice", some "__init__")) (fdOf K ("Twice", some "__init__")) := t.fn 8 rfl
theorem b_Twice___init__ : Binds K (fdOf K ("Twice", some "__init__")) ["self", "row", "loan"] [] := (fn_Twice___init__ t).bindsN fun _ _ _ _ _ _ us hl => match us, hl with | [_, _, _], _ => rfl
theorem kp_Twice___init__ : PySem.W.keepIn K (.ref (He.fAd K ("Twice", some "__init__"))) = true := (fn_Twice___init__ t).kp
theorem fn_Busy___init__ : FunD K "__init__" "Busy.__init__" (defArgs s_Busy___init__) (defBody s_Busy___init__) (defScope s_Busy___init__) (d_Busy___init__.dvs K) (d_Busy___init__.kws K) (He.fAd K ("Busy", some "__init__")) (fdOf K ("Busy", some "__init__")) := t.fn 9 rfl
theorem b_Busy___init__ : Binds K (fdOf K ("Busy", some "__init__")) ["self", "deed"] [] := (fn_Busy___init__ t).bindsN fun _ _ _ _ _ _ us hl => match us, hl with | [_, _], _ => rfl
theorem kp_Busy___init__ : PySem.W.keepIn K (.ref (He.fAd K ("Busy", some "__init__"))) = true := (fn_Busy___init__ t).kp
theorem fn_NoDeed___init__ : FunD K "__init__" "NoDeed.__init__" (defArgs s_NoDeed___init__) (defBody s_NoDeed___init__) (defScope s_NoDeed___init__) (d_NoDeed___init__.dvs K) (d_NoDeed___init__.kws K) (He.fAd K ("NoDeed", some "__init__")) (fdOf K ("NoDeed", some "__init__")) := t.fn 10 rfl
theorem b_NoDeed___init__ : Binds K (fdOf K ("NoDeed", some "__init__")) ["self", "name"] [] := (fn_NoDeed___init__ t).bindsN fun _ _ _ _ _ _ us hl => match us, hl with | [_, _], _ => rfl
theorem kp_NoDeed___init__ : PySem.W.keepIn K (.ref (He.fAd K ("NoDeed", some "__init__"))) = true := (fn_NoDeed___init__ t).kp
theorem fn_WrongKind___init__ : FunD K "__init__" "WrongKind.__init__" (defArgs s_WrongKind___init__) (defBody s_WrongKind___init__) (defScope s_WrongKind___init__) (d_WrongKind___init__.dvs K) (d_WrongKind___init__.kws K) (He.fAd K ("WrongKind", some "__init__")) (fdOf K ("WrongKind", some "__init__")) := t.fn 11 rfl
theorem b_WrongKind___init__ : Binds K (fdOf K ("WrongKind", some "__init__")) ["self", "row"] [] := (fn_WrongKind___init__ t).bindsN fun _ _ _ _ _ _ us hl => match us, hl with | [_, _], _ => rfl
theorem kp_WrongKind___init__ : PySem.W.keepIn K (.ref (He.fAd K ("WrongKind", some "__init__"))) = true := (fn_WrongKind___init__ t).kp
theorem fn_Needed___init__ : FunD K "__init__" "Needed.__init__" (defArgs s_Needed___init__) (defBody s_Needed___init__) (defScope s_Needed___init__) (d_Needed___init__.dvs K) (d_Needed___init__.kws K) (He.fAd K ("Needed", some "__init__")) (fdOf K ("Needed", some "__init__")) := t.fn 12 rfl
theorem b_Needed___init__ : Binds K (fdOf K ("Needed", some "__init__")) ["self", "row", "place"] [] := (fn_Needed___init__ t).bindsN fun _ _ _ _ _ _ us hl => match us, hl with | [_, _, _], _ => rfl
theorem kp_Needed___init__ : PySem.W.keepIn K (.ref (He.fAd K ("Needed", some "__init__"))) = true := (fn_Needed___init__ t).kp
theorem fn_Gone___init__ : FunD K "__init__" "Gone.__init__" (defArgs s_Gone___init__) (defBody s_Gone___init__) (defScope s_Gone___init__) (d_Gone___init__.dvs K) (d_Gone___init__.kws K) (He.fAd K ("Gone", some "__init__")) (fdOf K ("Gone", some "__init__")) := t.fn 13 rfl
theorem b_Gone___init__ : Binds K (fdOf K ("Gone", some "__init__")) ["self", "row", "place"] [] := (fn_Gone___init__ t).bindsN fun _ _ _ _ _ _ us hl => match us, hl with | [_, _, _], _ => rfl
theorem kp_Gone___init__ : PySem.W.keepIn K (.ref (He.fAd K ("Gone", some "__init__"))) = true := (fn_Gone___init__ t).kp
theorem fn_Beyond___init__ : FunD K "__init__" "Beyond.__init__" (defArgs s_Beyond___init__) (defBody s_Beyond___init__) (defScope s_Beyond___init__) (d_Beyond___init__.dvs K) (d_Beyond___init__.kws K) (He.fAd K ("Beyond", some "__init__")) (fdOf K ("Beyond", some "__init__")) := t.fn 14 rfl
theorem b_Beyond___init__ : Binds K (fdOf K ("Beyond", some "__init__")) ["self", "row", "place"] [] := (fn_Beyond___init__ t).bindsN fun _ _ _ _ _ _ us hl => match us, hl with | [_, _, _], _ => rfl
theorem kp_Beyond___init__ : PySem.W.keepIn K (.ref (He.fAd K ("Beyond", some "__init__"))) = true := (fn_Beyond___init__ t).kp
theorem fn__law_cell_at : FunD K "_law_cell_at" "_law_cell_at" (defArgs s__law_cell_at) (defBody s__law_cell_at) (defScope s__law_cell_at) (d__law_cell_at.dvs K) (d__law_cell_at.kws K) (He.fAd K ("_law_cell_at", none)) (fdOf K ("_law_cell_at", none)) := t.fn 15 rfl
theorem b__law_cell_at : Binds K (fdOf K ("_law_cell_at", none)) ["_law_script", "_law_k"] [] := (fn__law_cell_at t).bindsN fun _ _ _ _ _ _ us hl => match us, hl with | [_, _], _ => rfl
theorem kp__law_cell_at : PySem.W.keepIn K (.ref (He.fAd K ("_law_cell_at", none))) = true := (fn__law_cell_at t).kp
theorem fn__law_mixed : FunD K "_law_mixed" "_law_mixed" (defArgs s__law_mixed) (defBody s__law_mixed) (defScope s__law_mixed) (d__law_mixed.dvs K) (d__law_mixed.kws K) (He.fAd K ("_law_mixed", none)) (fdOf K ("_law_mixed", none)) := t.fn 16 rfl
theorem b__law_mixed : Binds K (fdOf K ("_law_mixed", none)) ["_law_cell", "_law_k"] [] := (fn__law_mixed t).bindsN fun _ _ _ _ _ _ us hl => match us, hl with | [_, _], _ => rfl
theorem kp__law_mixed : PySem.W.keepIn K (.ref (He.fAd K ("_law_mixed", none))) = true := (fn__law_mixed t).kp
theorem fn__law_kinds : FunD K "_law_kinds" "_law_kinds" (defArgs s__law_kinds) (defBody s__law_kinds) (defScope s__law_kinds) (d__law_kinds.dvs K) (d__law_kinds.kws K) (He.fAd K ("_law_kinds", none)) (fdOf K ("_law_kinds", none)) := t.fn 17 rfl
theorem b__law_kinds : Binds K (fdOf K ("_law_kinds", none)) ["_law_e"] [] := (fn__law_kinds t).bindsN fun _ _ _ _ _ _ us hl => match us, hl with | [_], _ => rfl
theorem kp__law_kinds : PySem.W.keepIn K (.ref (He.fAd K ("_law_kinds", none))) = true := (fn__law_kinds t).kp
theorem fn__law_gathered : FunD K "_law_gathered" "_law_gathered" (defArgs s__law_gathered) (defBody s__law_gathered) (defScope s__law_gathered) (d__law_gathered.dvs K) (d__law_gathered.kws K) (He.fAd K ("_law_gathered", none)) (fdOf K ("_law_gathered", none)) := t.fn 18 rfl
theorem b__law_gathered : Binds K (fdOf K ("_law_gathered", none)) ["_law_e"] [] := (fn__law_gathered t).bindsN fun _ _ _ _ _ _ us hl => match us, hl with | [_], _ => rfl
theorem kp__law_gathered : PySem.W.keepIn K (.ref (He.fAd K ("_law_gathered", none))) = true := (fn__law_gathered t).kp
theorem fn__law_raise_first : FunD K "_law_raise_first" "_law_raise_first" (defArgs s__law_raise_first) (defBody s__law_raise_first) (defScope s__law_raise_first) (d__law_raise_first.dvs K) (d__law_raise_first.kws K) (He.fAd K ("_law_raise_first", none)) (fdOf K ("_law_raise_first", none)) := t.fn 19 rfl
theorem b__law_raise_first : Binds K (fdOf K ("_law_raise_first", none)) ["_law_which", "_law_one"] [] := (fn__law_raise_first t).bindsN fun _ _ _ _ _ _ us hl => match us, hl with | [_, _], _ => rfl
theorem kp__law_raise_first : PySem.W.keepIn K (.ref (He.fAd K ("_law_raise_first", none))) = true := (fn__law_raise_first t).kp
theorem fn__law_raise_more : FunD K "_law_raise_more" "_law_raise_more" (defArgs s__law_raise_more) (defBody s__law_raise_more) (defScope s__law_raise_more) (d__law_raise_more.dvs K) (d__law_raise_more.kws K) (He.fAd K ("_law_raise_more", none)) (fdOf K ("_law_raise_more", none)) := t.fn 20 rfl
theorem b__law_raise_more : Binds K (fdOf K ("_law_raise_more", none)) ["_law_which", "_law_one", "_law_other"] [] := (fn__law_raise_more t).bindsN fun _ _ _ _ _ _ us hl => match us, hl with | [_, _, _], _ => rfl
theorem kp__law_raise_more : PySem.W.keepIn K (.ref (He.fAd K ("_law_raise_more", none))) = true := (fn__law_raise_more t).kp
theorem fn__law_fields_first : FunD K "_law_fields_first" "_law_fields_first" (defArgs s__law_fields_first) (defBody s__law_fields_first) (defScope s__law_fields_first) (d__law_fields_first.dvs K) (d__law_fields_first.kws K) (He.fAd K ("_law_fields_first", none)) (fdOf K ("_law_fields_first", none)) := t.fn 21 rfl
theorem b__law_fields_first : Binds K (fdOf K ("_law_fields_first", none)) ["_law_e"] [] := (fn__law_fields_first t).bindsN fun _ _ _ _ _ _ us hl => match us, hl with | [_], _ => rfl
theorem kp__law_fields_first : PySem.W.keepIn K (.ref (He.fAd K ("_law_fields_first", none))) = true := (fn__law_fields_first t).kp
theorem fn__law_fields_more : FunD K "_law_fields_more" "_law_fields_more" (defArgs s__law_fields_more) (defBody s__law_fields_more) (defScope s__law_fields_more) (d__law_fields_more.dvs K) (d__law_fields_more.kws K) (He.fAd K ("_law_fields_more", none)) (fdOf K ("_law_fields_more", none)) := t.fn 22 rfl
theorem b__law_fields_more : Binds K (fdOf K ("_law_fields_more", none)) ["_law_e"] [] := (fn__law_fields_more t).bindsN fun _ _ _ _ _ _ us hl => match us, hl with | [_], _ => rfl
theorem kp__law_fields_more : PySem.W.keepIn K (.ref (He.fAd K ("_law_fields_more", none))) = true := (fn__law_fields_more t).kp
theorem fn__law_field : FunD K "_law_field" "_law_field" (defArgs s__law_field) (defBody s__law_field) (defScope s__law_field) (d__law_field.dvs K) (d__law_field.kws K) (He.fAd K ("_law_field", none)) (fdOf K ("_law_field", none)) := t.fn 23 rfl
theorem b__law_field : Binds K (fdOf K ("_law_field", none)) ["_law_cell", "_law_k"] [] := (fn__law_field t).bindsN fun _ _ _ _ _ _ us hl => match us, hl with | [_, _], _ => rfl
theorem kp__law_field : PySem.W.keepIn K (.ref (He.fAd K ("_law_field", none))) = true := (fn__law_field t).kp
theorem fn__law_due_fields : FunD K "_law_due_fields" "_law_due_fields" (defArgs s__law_due_fields) (defBody s__law_due_fields) (defScope s__law_due_fields) (d__law_due_fields.dvs K) (d__law_due_fields.kws K) (He.fAd K ("_law_due_fields", none)) (fdOf K ("_law_due_fields", none)) := t.fn 24 rfl
theorem b__law_due_fields : Binds K (fdOf K ("_law_due_fields", none)) ["_law_which", "_law_one", "_law_other"] [] := (fn__law_due_fields t).bindsN fun _ _ _ _ _ _ us hl => match us, hl with | [_, _, _], _ => rfl
theorem kp__law_due_fields : PySem.W.keepIn K (.ref (He.fAd K ("_law_due_fields", none))) = true := (fn__law_due_fields t).kp
theorem fn_law : FunD K "law" "law" (defArgs s_law) (defBody s_law) (defScope s_law) (d_law.dvs K) (d_law.kws K) (He.fAd K ("law", none)) (fdOf K ("law", none)) := t.fn 25 rfl
theorem b_law : Binds K (fdOf K ("law", none)) ["_law_script"] [] := (fn_law t).bindsN fun _ _ _ _ _ _ us hl => match us, hl with | [_], _ => rfl
theorem kp_law : PySem.W.keepIn K (.ref (He.fAd K ("law", none))) = true := (fn_law t).kp
end
end K06

set_option Elab.async false
set_option linter.all false
set_option maxRecDepth 100000
set_option maxHeartbeats 4000000
namespace K06
open PySem PySem.Spec PyProof.Rows L2 LX
section
variable {P : Program} {w : World} {K : PySem.W.Frag} {mg : Str → Option Value} {base : Heap}
theorem ok_NoSuch___init__ (t : T K mg) : FnOk P w K mg base (L2.CX P w) 1 (He.fAd K ("NoSuch", some "__init__")) (fdOf K ("NoSuch", some "__init__")) ["self", "name"] (spX1 K (He.ga K "NoSuch") "name") := by
  refine (fn_NoSuch___init__ t).ok sc_NoSuch___init__ (fun vs H Q E h => ?_) (fun cdv A outer s H vs Q E hr h => ?_)
  · obtain ⟨a, y, rfl, _⟩ := h
    rfl
  · obtain ⟨a, y, rfl, ha, k⟩ := h
    refine ⟨_, (pss_cons (ps_expr (pe_clsVe (vei_CellarError t) rfl (mg_CellarError t) (pa_cons (pv 0) (pa_cons pe_str pa_nil))))
      (pss_one (ps_ost (pv 0) (pv 1)))), ?_⟩
    refine ⟨_, rfl, a, _, _, rfl, Nat.le_of_ble_eq_true rfl, oex_NoSuch t, ha, ?_⟩
    exact ⟨_, rfl, _, rfl, a, _, rfl, oex_NoSuch t, na_NoSuch_name t, Or.inl ⟨ha, k⟩⟩
theorem ok_Doubled___init__ (t : T K mg) : FnOk P w K mg base (L2.CX P w) 1 (He.fAd K ("Doubled", some "__init__")) (fdOf K ("Doubled", some "__init__")) ["self", "name"] (spX1 K (He.ga K "Doubled") "name") := by
  refine (fn_Doubled___init__ t).ok sc_Doubled___init__ (fun vs H Q E h => ?_) (fun cdv A outer s H vs Q E hr h => ?_)
  · obtain ⟨a, y, rfl, _⟩ := h
    rfl
  · obtain ⟨a, y, rfl, ha, k⟩ := h
    refine ⟨_, (pss_cons (ps_expr (pe_clsVe (vei_CellarError t) rfl (mg_CellarError t) (pa_cons (pv 0) (pa_cons pe_str pa_nil))))
      (pss_one (ps_ost (pv 0) (pv 1)))), ?_⟩
    refine ⟨_, rfl, a, _, _, rfl, Nat.le_of_ble_eq_true rfl, oex_Doubled t, ha, ?_⟩
    exact ⟨_, rfl, _, rfl, a, _, rfl, oex_Doubled t, na_Doubled_name t, Or.inl ⟨ha, k⟩⟩
theorem ok_Broken___init__ (t : T K mg) : FnOk P w K mg base (L2.CX P w) 1 (He.fAd K ("Broken", some "__init__")) (fdOf K ("Broken", some "__init__")) ["self", "line"] (spX1 K (He.ga K "Broken") "line") := by
  refine (fn_Broken___init__ t).ok sc_Broken___init__ (fun vs H Q E h => ?_) (fun cdv A outer s H vs Q E hr h => ?_)
  · obtain ⟨a, y, rfl, _⟩ := h
    rfl
  · obtain ⟨a, y, rfl, ha, k⟩ := h
    refine ⟨_, (pss_cons (ps_expr (pe_clsVe (vei_CellarError t) rfl (mg_CellarError t) (pa_cons (pv 0) (pa_cons pe_str pa_nil))))
      (pss_one (ps_ost (pv 0) (pv 1)))), ?_⟩
    refine ⟨_, rfl, a, _, _, rfl, Nat.le_of_ble_eq_true rfl, oex_Broken t, ha, ?_⟩
    exact ⟨_, rfl, _, rfl, a, _, rfl, oex_Broken t, na_Broken_line t, Or.inl ⟨ha, k⟩⟩
theorem ok_Fenced___init__ (t : T K mg) : FnOk P w K mg base (L2.CX P w) 1 (He.fAd K ("Fenced", some "__init__")) (fdOf K ("Fenced", some "__init__")) ["self", "life"] (spX1 K (He.ga K "Fenced") "life") := by
  refine (fn_Fenced___init__ t).ok sc_Fenced___init__ (fun vs H Q E h => ?_) (fun cdv A outer s H vs Q E hr h => ?_)
  · obtain ⟨a, y, rfl, _⟩ := h
    rfl
  · obtain ⟨a, y, rfl, ha, k⟩ := h
    refine ⟨_, (pss_cons (ps_expr (pe_clsVe (vei_SenderError t) rfl (mg_SenderError t) (pa_cons (pv 0) (pa_cons pe_str pa_nil))))
      (pss_one (ps_ost (pv 0) (pv 1)))), ?_⟩
    refine ⟨_, rfl, a, _, _, rfl, Nat.le_of_ble_eq_true rfl, oex_Fenced t, ha, ?_⟩
    exact ⟨_, rfl, _, rfl, a, _, rfl, oex_Fenced t, na_Fenced_life t, Or.inl ⟨ha, k⟩⟩
theorem ok_Gap___init__ (t : T K mg) : FnOk P w K mg base (L2.CX P w) 1 (He.fAd K ("Gap", some "__init__")) (fdOf K ("Gap", some "__init__")) ["self", "due"] (spX1 K (He.ga K "Gap") "due") := by
  refine (fn_Gap___init__ t).ok sc_Gap___init__ (fun vs H Q E h => ?_) (fun cdv A outer s H vs Q E hr h => ?_)
  · obtain ⟨a, y, rfl, _⟩ := h
    rfl
  · obtain ⟨a, y, rfl, ha, k⟩ := h
    refine ⟨_, (pss_cons (ps_expr (pe_clsVe (vei_SenderError t) rfl (mg_SenderError t) (pa_cons (pv 0) (pa_cons pe_str pa_nil))))
      (pss_one (ps_ost (pv 0) (pv 1)))), ?_⟩
    refine ⟨_, rfl, a, _, _, rfl, Nat.le_of_ble_eq_true rfl, oex_Gap t, ha, ?_⟩
    exact ⟨_, rfl, _, rfl, a, _, rfl, oex_Gap t, na_Gap_due t, Or.inl ⟨ha, k⟩⟩
theorem ok_TooOld___init__ (t : T K mg) : FnOk P w K mg base (L2.CX P w) 1 (He.fAd K ("TooOld", some "__init__")) (fdOf K ("TooOld", some "__init__")) ["self", "number"] (spX1 K (He.ga K "TooOld") "number") := by
  refine (fn_TooOld___init__ t).ok sc_TooOld___init__ (fun vs H Q E h => ?_) (fun cdv A outer s H vs Q E hr h => ?_)
  · obtain ⟨a, y, rfl, _⟩ := h
    rfl
  · obtain ⟨a, y, rfl, ha, k⟩ := h
    refine ⟨_, (pss_cons (ps_expr (pe_clsVe (vei_SenderError t) rfl (mg_SenderError t) (pa_cons (pv 0) (pa_cons pe_str pa_nil))))
      (pss_one (ps_ost (pv 0) (pv 1)))), ?_⟩
    refine ⟨_, rfl, a, _, _, rfl, Nat.le_of_ble_eq_true rfl, oex_TooOld t, ha, ?_⟩
    exact ⟨_, rfl, _, rfl, a, _, rfl, oex_TooOld t, na_TooOld_number t, Or.inl ⟨ha, k⟩⟩
theorem ok_Late___init__ (t : T K mg) : FnOk P w K mg base (L2.CX P w) 1 (He.fAd K ("Late", some "__init__")) (fdOf K ("Late", some "__init__")) ["self", "row", "loan"] (spX2 K (He.ga K "Late") "row" "loan") := by
  refine (fn_Late___init__ t).ok sc_Late___init__ (fun vs H Q E h => ?_) (fun cdv A outer s H vs Q E hr h => ?_)
  · obtain ⟨a, y, z, rfl, _⟩ := h
    rfl
  · obtain ⟨a, y, z, rfl, ha, k⟩ := h
    refine ⟨_, (pss_cons (ps_expr (pe_clsVe (vei_LoanError t) rfl (mg_LoanError t) (pa_cons (pv 0) (pa_cons pe_str pa_nil))))
      (pss_cons (ps_ost (pv 0) (pv 1))
      (pss_one (ps_ost (pv 0) (pv 2))))), ?_⟩
    refine ⟨_, rfl, a, _, _, rfl, Nat.le_of_ble_eq_true rfl, oex_Late t, ha, ?_⟩
    refine ⟨_, rfl, _, rfl, a, _, rfl, oex_Late t, na_Late_row t, Or.inl ⟨ha, fun dx n ne => ?_⟩⟩
    exact ⟨_, rfl, _, rfl, a, _, rfl, oex_Late t, na_Late_loan t, Or.inr ⟨dx, _, upd_same, by rw [upd_ne ne, upd_same], Nat.le_of_ble_eq_true rfl, k dx n ne⟩⟩
theorem ok_NotYours___init__ (t : T K mg) : FnOk P w K mg base (L2.CX P w) 1 (He.fAd K ("NotYours", some "__init__")) (fdOf K ("NotYours", some "__init__")) ["self", "row", "owner"] (spX2 K (He.ga K "NotYours") "row" "owner") := by
  refine (fn_NotYours___init__ t).ok sc_NotYours___init__ (fun vs H Q E h => ?_) (fun cdv A outer s H vs Q E hr h => ?_)
  · obtain ⟨a, y, z, rfl, _⟩ := h
    rfl
  · obtain ⟨a, y, z, rfl, ha, k⟩ := h
    refine ⟨_, (pss_cons (ps_expr (pe_clsVe (vei_LoanError t) rfl (mg_LoanError t) (pa_cons (pv 0) (pa_cons pe_str pa_nil))))
      (pss_cons (ps_ost (pv 0) (pv 1))
      (pss_one (ps_ost (pv 0) (pv 2))))), ?_⟩
    refine ⟨_, rfl, a, _, _, rfl, Nat.le_of_ble_eq_true rfl, oex_NotYours t, ha, ?_⟩
    refine ⟨_, rfl, _, rfl, a, _, rfl, oex_NotYours t, na_NotYours_row t, Or.inl ⟨ha, fun dx n ne => ?_⟩⟩
    exact ⟨_, rfl, _, rfl, a, _, rfl, oex_NotYours t, na_NotYours_owner t, Or.inr ⟨dx, _, upd_same, by rw [upd_ne ne, upd_same], Nat.le_of_ble_eq_true rfl, k dx n ne⟩⟩
theorem ok_Twice___init__ (t : T K mg) : FnOk P w K mg base (L2.CX P w) 1 (He.fAd K ("Twice", some "__init__")) (fdOf K ("Twice", some "__init__")) ["self", "row", "loan"] (spX2 K (He.ga K "Twice") "row" "loan") := by
  refine (fn_Twice___init__ t).ok sc_Twice___init__ (fun vs H Q E h => ?_) (fun cdv A outer s H vs Q E hr h => ?_)
  · obtain ⟨a, y, z, rfl, _⟩ := h
    rfl
  · obtain ⟨a, y, z, rfl, ha, k⟩ := h
    refine ⟨_, (pss_cons (ps_expr (pe_clsVe (vei_LoanError t) rfl (mg_LoanError t) (pa_cons (pv 0) (pa_cons pe_str pa_nil))))
      (pss_cons (ps_ost (pv 0) (pv 1))
      (pss_one (ps_ost (pv 0) (pv 2))))), ?_⟩
    refine ⟨_, rfl, a, _, _, rfl, Nat.le_of_ble_eq_true rfl, oex_Twice t, ha, ?_⟩
    refine ⟨_, rfl, _, rfl, a, _, rfl, oex_Twice t, na_Twice_row t, Or.inl ⟨ha, fun dx n ne => ?_⟩⟩
    exact ⟨_, rfl, _, rfl, a, _, rfl, oex_Twice t, na_Twice_loan t, Or.inr ⟨dx, _, upd_same, by rw [upd_ne ne, upd_same], Nat.le_of_ble_eq_true rfl, k dx n ne⟩⟩
theorem ok_Busy___init__ (t : T K mg) : FnOk P w K mg base (L2.CX P w) 1 (He.fAd K ("Busy", some "__init__")) (fdOf K ("Busy", some "__init__")) ["self", "deed"] (spX1 K (He.ga K "Busy") "deed") := by
  refine (fn_Busy___init__ t).ok sc_Busy___init__ (fun vs H Q E h => ?_) (fun cdv A outer s H vs Q E hr h => ?_)
  · obtain ⟨a, y, rfl, _⟩ := h
    rfl
  · obtain ⟨a, y, rfl, ha, k⟩ := h
    refine ⟨_, (pss_cons (ps_expr (pe_clsVe (vei_DeedError t) rfl (mg_DeedError t) (pa_cons (pv 0) (pa_cons pe_str pa_nil))))
      (pss_one (ps_ost (pv 0) (pv 1)))), ?_⟩
    refine ⟨_, rfl, a, _, _, rfl, Nat.le_of_ble_eq_true rfl, oex_Busy t, ha, ?_⟩
    exact ⟨_, rfl, _, rfl, a, _, rfl, oex_Busy t, na_Busy_deed t, Or.inl ⟨ha, k⟩⟩
theorem ok_NoDeed___init__ (t : T K mg) : FnOk P w K mg base (L2.CX P w) 1 (He.fAd K ("NoDeed", some "__init__")) (fdOf K ("NoDeed", some "__init__")) ["self", "name"] (spX1 K (He.ga K "NoDeed") "name") := by
  refine (fn_NoDeed___init__ t).ok sc_NoDeed___init__ (fun vs H Q E h => ?_) (fun cdv A outer s H vs Q E hr h => ?_)
  · obtain ⟨a, y, rfl, _⟩ := h
    rfl
  · obtain ⟨a, y, rfl, ha, k⟩ := h
    refine ⟨_, (pss_cons (ps_expr (pe_clsVe (vei_DeedError t) rfl (mg_DeedError t) (pa_cons (pv 0) (pa_cons pe_str pa_nil))))
      (pss_one (ps_ost (pv 0) (pv 1)))), ?_⟩
    refine ⟨_, rfl, a, _, _, rfl, Nat.le_of_ble_eq_true rfl, oex_NoDeed t, ha, ?_⟩
    exact ⟨_, rfl, _, rfl, a, _, rfl, oex_NoDeed t, na_NoDeed_name t, Or.inl ⟨ha, k⟩⟩
theorem ok_WrongKind___init__ (t : T K mg) : FnOk P w K mg base (L2.CX P w) 1 (He.fAd K ("WrongKind", some "__init__")) (fdOf K ("WrongKind", some "__init__")) ["self", "row"] (spX1 K (He.ga K "WrongKind") "row") := by
  refine (fn_WrongKind___init__ t).ok sc_WrongKind___init__ (fun vs H Q E h => ?_) (fun cdv A outer s H vs Q E hr h => ?_)
  · obtain ⟨a, y, rfl, _⟩ := h
    rfl
  · obtain ⟨a, y, rfl, ha, k⟩ := h
    refine ⟨_, (pss_cons (ps_expr (pe_clsVe (vei_RowError t) rfl (mg_RowError t) (pa_cons (pv 0) (pa_cons pe_str pa_nil))))
      (pss_one (ps_ost (pv 0) (pv 1)))), ?_⟩
    refine ⟨_, rfl, a, _, _, rfl, Nat.le_of_ble_eq_true rfl, oex_WrongKind t, ha, ?_⟩
    exact ⟨_, rfl, _, rfl, a, _, rfl, oex_WrongKind t, na_WrongKind_row t, Or.inl ⟨ha, k⟩⟩
theorem ok_Needed___init__ (t : T K mg) : FnOk P w K mg base (L2.CX P w) 1 (He.fAd K ("Needed", some "__init__")) (fdOf K ("Needed", some "__init__")) ["self", "row", "place"] (spX2 K (He.ga K "Needed") "row" "place") := by
  refine (fn_Needed___init__ t).ok sc_Needed___init__ (fun vs H Q E h => ?_) (fun cdv A outer s H vs Q E hr h => ?_)
  · obtain ⟨a, y, z, rfl, _⟩ := h
    rfl
  · obtain ⟨a, y, z, rfl, ha, k⟩ := h
    refine ⟨_, (pss_cons (ps_expr (pe_clsVe (vei_RowError t) rfl (mg_RowError t) (pa_cons (pv 0) (pa_cons pe_str pa_nil))))
      (pss_cons (ps_ost (pv 0) (pv 1))
      (pss_one (ps_ost (pv 0) (pv 2))))), ?_⟩
    refine ⟨_, rfl, a, _, _, rfl, Nat.le_of_ble_eq_true rfl, oex_Needed t, ha, ?_⟩
    refine ⟨_, rfl, _, rfl, a, _, rfl, oex_Needed t, na_Needed_row t, Or.inl ⟨ha, fun dx n ne => ?_⟩⟩
    exact ⟨_, rfl, _, rfl, a, _, rfl, oex_Needed t, na_Needed_place t, Or.inr ⟨dx, _, upd_same, by rw [upd_ne ne, upd_same], Nat.le_of_ble_eq_true rfl, k dx n ne⟩⟩
theorem ok_Gone___init__ (t : T K mg) : FnOk P w K mg base (L2.CX P w) 1 (He.fAd K ("Gone", some "__init__")) (fdOf K ("Gone", some "__init__")) ["self", "row", "place"] (spX2 K (He.ga K "Gone") "row" "place") := by
  refine (fn_Gone___init__ t).ok sc_Gone___init__ (fun vs H Q E h => ?_) (fun cdv A outer s H vs Q E hr h => ?_)
  · obtain ⟨a, y, z, rfl, _⟩ := h
    rfl
  · obtain ⟨a, y, z, rfl, ha, k⟩ := h
    refine ⟨_, (pss_cons (ps_expr (pe_clsVe (vei_RowError t) rfl (mg_RowError t) (pa_cons (pv 0) (pa_cons pe_str pa_nil))))
      (pss_cons (ps_ost (pv 0) (pv 1))
      (pss_one (ps_ost (pv 0) (pv 2))))), ?_⟩
    refine ⟨_, rfl, a, _, _, rfl, Nat.le_of_ble_eq_true rfl, oex_Gone t, ha, ?_⟩
    refine ⟨_, rfl, _, rfl, a, _, rfl, oex_Gone t, na_Gone_row t, Or.inl ⟨ha, fun dx n ne => ?_⟩⟩
    exact ⟨_, rfl, _, rfl, a, _, rfl, oex_Gone t, na_Gone_place t, Or.inr ⟨dx, _, upd_same, by rw [upd_ne ne, upd_same], Nat.le_of_ble_eq_true rfl, k dx n ne⟩⟩
theorem ok_Beyond___init__ (t : T K mg) : FnOk P w K mg base (L2.CX P w) 1 (He.fAd K ("Beyond", some "__init__")) (fdOf K ("Beyond", some "__init__")) ["self", "row", "place"] (spX2 K (He.ga K "Beyond") "row" "place") := by
  refine (fn_Beyond___init__ t).ok sc_Beyond___init__ (fun vs H Q E h => ?_) (fun cdv A outer s H vs Q E hr h => ?_)
  · obtain ⟨a, y, z, rfl, _⟩ := h
    rfl
  · obtain ⟨a, y, z, rfl, ha, k⟩ := h
    refine ⟨_, (pss_cons (ps_expr (pe_clsVe (vei_RowError t) rfl (mg_RowError t) (pa_cons (pv 0) (pa_cons pe_str pa_nil))))
      (pss_cons (ps_ost (pv 0) (pv 1))
      (pss_one (ps_ost (pv 0) (pv 2))))), ?_⟩
    refine ⟨_, rfl, a, _, _, rfl, Nat.le_of_ble_eq_true rfl, oex_Beyond t, ha, ?_⟩
    refine ⟨_, rfl, _, rfl, a, _, rfl, oex_Beyond t, na_Beyond_row t, Or.inl ⟨ha, fun dx n ne => ?_⟩⟩
    exact ⟨_, rfl, _, rfl, a, _, rfl, oex_Beyond t, na_Beyond_place t, Or.inr ⟨dx, _, upd_same, by rw [upd_ne ne, upd_same], Nat.le_of_ble_eq_true rfl, k dx n ne⟩⟩
/-! ### the law's helpers -/
theorem lg18 {i : Int} (h0 : 0 ≤ i) (h : i < 10 ^ 18) : i.natAbs.log2 < 1920 := by
  by_cases e : i.natAbs = 0
  · rw [e]
    decide
  · rw [Nat.log2_lt e]
    have h1 : i.natAbs < 10 ^ 18 := by omega
    exact Nat.lt_of_lt_of_le h1 (Nat.le_trans (by decide : 10 ^ 18 ≤ 2 ^ 60) (Nat.pow_le_pow_right (by decide) (by decide)))
theorem toStr_len {v : Int} (h0 : 0 ≤ v) {k : Nat} (hk : 0 < k) (h : v < 10 ^ k) : (Str.ofString (toString v)).length ≤ k := PyProof.Rows.toString_length_le h0 hk h
def cellAt (ns : List Int) (k : Nat) : Int := ns.getD k 0
def sp_cell (K : PySem.W.Frag) : Sp := fun vs H Q _ => ∃ (a : Addr) (ns : List Int) (k : Nat), vs = [.ref a, .int k] ∧ SqL K H a (ns.map V.int) ∧ Q (.int (cellAt ns k)) H
theorem ok__law_cell_at (t : T K mg) : FnOk P w K mg base (L2.CX P w) 1 (He.fAd K ("_law_cell_at", none)) (fdOf K ("_law_cell_at", none)) ["_law_script", "_law_k"] (sp_cell K) := by
  refine (fn__law_cell_at t).ok sc__law_cell_at (fun vs H Q E h => ?_) (fun cdv A outer s H vs Q E hr h => ?_)
  · obtain ⟨a, ns, k, rfl, _⟩ := h
    rfl
  · obtain ⟨a, ns, k, rfl, hS, q⟩ := h
    refine ⟨_, (pss_cons (ps_if (pt_cmpR op_lt (pv 1) (pe_callB call_len_seq (by rfl) (no_len t) (by decide +kernel) (pa_cons (pv 0) pa_nil)) (nomark _))
      (pss_one (ps_ret (pe_ix ix_list (pv 0) (pv 1) (fun _ _ => rfl))))
      pss_nil)
      (pss_one (ps_ret pe_int))), ?_⟩
    refine ⟨_, rfl, _, rfl, a, _, rfl, .inl hS, _, _, rfl, rfl, _, rfl, ite2 (fun c => ?_) (fun c => ?_)⟩
    · have hk : k < ns.length := by
        have := of_decide_eq_true c
        rw [List.length_map] at this
        omega
      refine ⟨_, rfl, _, rfl, a, _, _, _, rfl, rfl, hS, ?_, q⟩
      refine atI_nat ?_
      unfold cellAt
      rw [List.getElem?_map, List.getElem?_eq_getElem hk, List.getD_eq_getElem?_getD, List.getElem?_eq_getElem hk]
      rfl
    · have hk : ¬ k < ns.length := fun z => c (decide_eq_true (by rw [List.length_map]; omega))
      have e : cellAt ns k = 0 := by
        unfold cellAt
        rw [List.getD_eq_getElem?_getD, List.getElem?_eq_none (by omega)]
        rfl
      rw [e] at q
      exact q
def mixed (c k : Int) : Int := (((c % 2147483647) * 48271 + 7919 * k + 1) % 2147483647) * (((c % 2147483647) * 48271 + 7919 * k + 1) % 2147483647) % 2147483647
theorem mixed_nn (c k : Int) : 0 ≤ mixed c k := Int.emod_nonneg _ (by decide)
theorem mixed_lt (c k : Int) : mixed c k < 2147483647 := Int.emod_lt_of_pos _ (by decide)
def sp_mixed : Sp := fun vs H Q _ => ∃ c k : Int, vs = [.int c, .int k] ∧ Q (.int (mixed c k)) H
theorem ok__law_mixed (t : T K mg) : FnOk P w K mg base (L2.CX P w) 1 (He.fAd K ("_law_mixed", none)) (fdOf K ("_law_mixed", none)) ["_law_cell", "_law_k"] sp_mixed := by
  refine (fn__law_mixed t).ok sc__law_mixed (fun vs H Q E h => ?_) (fun cdv A outer s H vs Q E hr h => ?_)
  · obtain ⟨c, k, rfl, _⟩ := h
    rfl
  · obtain ⟨c, k, rfl, q⟩ := h
    refine ⟨_, (pss_cons (ps_set (i := 2) sc__law_mixed.nd rfl (Or.inl rfl) (pe_op op_mod (pe_op op_add (pe_op op_add (pe_op op_mul (pe_op op_mod (pv 0) pe_int) pe_int) (pe_op op_mul pe_int (pv 1))) pe_int) pe_int))
      (pss_one (ps_ret (pe_op op_mod (pe_op op_mul (pv 2) (pv 2)) pe_int)))), ?_⟩
    refine ⟨_, rfl, _, _, rfl, rfl, by show (0 : Int) < 2147483647; decide, _, _, rfl, rfl, ?_, _, rfl, _, _, rfl, rfl, ?_, _, _, rfl, rfl, _, _, rfl, rfl, _, _, rfl, rfl, by show (0 : Int) < 2147483647; decide, ?_⟩
    · exact Or.inr ⟨by decide, by decide⟩
    · exact Or.inl ⟨by decide, by decide⟩
    refine ⟨_, rfl, _, rfl, _, _, rfl, rfl, ?_, _, _, rfl, rfl, by show (0 : Int) < 2147483647; decide, q⟩
    have h1 := Int.emod_nonneg ((c % 2147483647) * 48271 + 7919 * k + 1) (show (2147483647 : Int) ≠ 0 by decide)
    have h2 := Int.emod_lt_of_pos ((c % 2147483647) * 48271 + 7919 * k + 1) (show (0 : Int) < 2147483647 by decide)
    exact Or.inl ⟨by omega, by omega⟩
/-- a field: a text or a whole number -/
def field (c k : Int) : V := if mixed c k % 4 = 0 then .str (("n" : Str) ++ toString (mixed c (k + 10) % 10 ^ 9)) else .int (mixed c (k + 10) % 10 ^ 9)
def sp_field : Sp := fun vs H Q _ => ∃ c k : Int, vs = [.int c, .int k] ∧ Q (field c k) H
theorem ok__law_field (t : T K mg) : FnOk P w K mg base (L2.CX P w) 2 (He.fAd K ("_law_field", none)) (fdOf K ("_law_field", none)) ["_law_cell", "_law_k"] sp_field := by
  refine (fn__law_field t).ok sc__law_field (fun vs H Q E h => ?_) (fun cdv A outer s H vs Q E hr h => ?_)
  · obtain ⟨c, k, rfl, _⟩ := h
    rfl
  · obtain ⟨c, k, rfl, q⟩ := h
    have G__law_mixed := ok__law_mixed (P := P) (w := w) (base := base) t
    refine ⟨_, (pss_cons (ps_set (i := 2) sc__law_field.nd rfl (Or.inl rfl) (pe_op op_mod (pe_call G__law_mixed (hr.mono (by decide)) rfl (mg__law_mixed t) (kp__law_mixed t) (b__law_mixed t) .nil (passes_call (takes_of rfl rfl rfl rfl) fun _ _ _ _ z => z) (pa_cons (pv 0) (pa_cons (pv 1) pa_nil))) pe_int))
      (pss_cons (ps_set (i := 3) sc__law_field.nd rfl (Or.inl rfl) (pe_op op_mod (pe_call G__law_mixed (hr.mono (by decide)) rfl (mg__law_mixed t) (kp__law_mixed t) (b__law_mixed t) .nil (passes_call (takes_of rfl rfl rfl rfl) fun _ _ _ _ z => z) (pa_cons (pv 0) (pa_cons (pe_op op_add (pv 1) pe_int) pa_nil))) (pe_op op_pow pe_int pe_int)))
      (pss_cons (ps_if (pt_cmpR op_eq (pv 2) pe_int (nomark _))
      (pss_one (ps_ret (pe_op op_add_str pe_str (pe_callTy call_str_int (by rfl) (no_str t) (by decide +kernel) (pa_cons (pv 3) pa_nil)))))
      pss_nil)
      (pss_one (ps_ret (pv 3)))))), ?_⟩
    refine ⟨_, rfl, _, rfl, c, k, rfl, _, _, rfl, rfl, by show (0 : Int) < 4; decide, ?_⟩
    refine ⟨_, rfl, _, rfl, _, _, rfl, rfl, c, k + 10, rfl, _, _, rfl, rfl, ⟨by decide, by decide, by decide⟩, _, _, rfl, rfl, by show (0 : Int) < 10 ^ (9 : Int).toNat; decide, ?_⟩
    refine ⟨_, rfl, rfl, _, rfl, ite2 (fun c0 => ?_) (fun c0 => ?_)⟩
    · have e : mixed c k % 4 = 0 := by simpa using c0
      have q' : Q (.str (("n" : Str) ++ toString (mixed c (k + 10) % 10 ^ 9))) H := by
        have z : field c k = .str (("n" : Str) ++ toString (mixed c (k + 10) % 10 ^ 9)) := if_pos e
        rw [← z]
        exact q
      have b1 := Int.emod_nonneg (mixed c (k + 10)) (show (10 ^ 9 : Int) ≠ 0 by decide)
      have b2 := Int.emod_lt_of_pos (mixed c (k + 10)) (show (0 : Int) < 10 ^ 9 by decide)
      have hl : (mixed c (k + 10) % 10 ^ 9).natAbs.log2 < 1920 := lg18 b1 (by omega)
      refine ⟨_, rfl, _, rfl, hl, _, _, rfl, rfl, ?_, q'⟩
      have := toStr_len b1 (k := 9) (by decide) b2
      exact Nat.le_trans (Nat.add_le_add_left this _) (by decide)
    · have e : ¬ mixed c k % 4 = 0 := fun z => c0 (by simpa using z)
      have z : field c k = .int (mixed c (k + 10) % 10 ^ 9) := if_neg e
      rw [z] at q
      exact ⟨_, rfl, q⟩
end
end K06

set_option Elab.async false
set_option linter.all false
set_option maxRecDepth 100000
set_option maxHeartbeats 4000000
namespace K06
open PySem PySem.Spec PyProof.Rows L2 LX
/-! ### the sixteen classes -/
def xname : Nat → Str
  | 0 => "BadWord"
  | 1 => "NoSuch"
  | 2 => "Doubled"
  | 3 => "Broken"
  | 4 => "Fenced"
  | 5 => "Gap"
  | 6 => "TooOld"
  | 7 => "Late"
  | 8 => "NotYours"
  | 9 => "Twice"
  | 10 => "Busy"
  | 11 => "NoDeed"
  | 12 => "WrongKind"
  | 13 => "Needed"
  | 14 => "Gone"
  | 15 => "Beyond"
  | _ => ""
def xfs (one other : V) : Nat → List (Str × V)
  | 0 => []
  | 1 => [("name", one)]
  | 2 => [("name", one)]
  | 3 => [("line", one)]
  | 4 => [("life", one)]
  | 5 => [("due", one)]
  | 6 => [("number", one)]
  | 7 => [("loan", other), ("row", one)]
  | 8 => [("owner", other), ("row", one)]
  | 9 => [("loan", other), ("row", one)]
  | 10 => [("deed", one)]
  | 11 => [("name", one)]
  | 12 => [("row", one)]
  | 13 => [("place", other), ("row", one)]
  | 14 => [("place", other), ("row", one)]
  | 15 => [("place", other), ("row", one)]
  | _ => []
def dueFs (one other : V) : Nat → List V
  | 0 => []
  | 1 => [one]
  | 2 => [one]
  | 3 => [one]
  | 4 => [one]
  | 5 => [one]
  | 6 => [one]
  | 7 => [one, other]
  | 8 => [one, other]
  | 9 => [one, other]
  | 10 => [one]
  | 11 => [one]
  | 12 => [one]
  | 13 => [one, other]
  | 14 => [one, other]
  | 15 => [one, other]
  | _ => []
section
variable {P : Program} {w : World} {K : PySem.W.Frag} {mg : Str → Option Value} {base : Heap}
theorem exc_of (t : T K mg) {n : Nat} (h : n < 16) : ExcC K (He.ga K (xname n)) := match n, h with
  | 0, _ => xf_BadWord t
  | 1, _ => xf_NoSuch t
  | 2, _ => xf_Doubled t
  | 3, _ => xf_Broken t
  | 4, _ => xf_Fenced t
  | 5, _ => xf_Gap t
  | 6, _ => xf_TooOld t
  | 7, _ => xf_Late t
  | 8, _ => xf_NotYours t
  | 9, _ => xf_Twice t
  | 10, _ => xf_Busy t
  | 11, _ => xf_NoDeed t
  | 12, _ => xf_WrongKind t
  | 13, _ => xf_Needed t
  | 14, _ => xf_Gone t
  | 15, _ => xf_Beyond t
  | _ + 16, h => absurd h (by omega)
theorem kitw_0 (t : T K mg) {j : Nat} (h : j < 16) : PySem.W.kitOne K (.ref (He.ga K (xname 0))) (.ref (He.ga K (xname j))) = some (decide (j = 0)) := match j, h with
  | 0, _ => kit_BadWord_BadWord t
  | 1, _ => kit_BadWord_NoSuch t
  | 2, _ => kit_BadWord_Doubled t
  | 3, _ => kit_BadWord_Broken t
  | 4, _ => kit_BadWord_Fenced t
  | 5, _ => kit_BadWord_Gap t
  | 6, _ => kit_BadWord_TooOld t
  | 7, _ => kit_BadWord_Late t
  | 8, _ => kit_BadWord_NotYours t
  | 9, _ => kit_BadWord_Twice t
  | 10, _ => kit_BadWord_Busy t
  | 11, _ => kit_BadWord_NoDeed t
  | 12, _ => kit_BadWord_WrongKind t
  | 13, _ => kit_BadWord_Needed t
  | 14, _ => kit_BadWord_Gone t
  | 15, _ => kit_BadWord_Beyond t
  | _ + 16, h => absurd h (by omega)
theorem kitw_1 (t : T K mg) {j : Nat} (h : j < 16) : PySem.W.kitOne K (.ref (He.ga K (xname 1))) (.ref (He.ga K (xname j))) = some (decide (j = 1)) := match j, h with
  | 0, _ => kit_NoSuch_BadWord t
  | 1, _ => kit_NoSuch_NoSuch t
  | 2, _ => kit_NoSuch_Doubled t
  | 3, _ => kit_NoSuch_Broken t
  | 4, _ => kit_NoSuch_Fenced t
  | 5, _ => kit_NoSuch_Gap t
  | 6, _ => kit_NoSuch_TooOld t
  | 7, _ => kit_NoSuch_Late t
  | 8, _ => kit_NoSuch_NotYours t
  | 9, _ => kit_NoSuch_Twice t
  | 10, _ => kit_NoSuch_Busy t
  | 11, _ => kit_NoSuch_NoDeed t
  | 12, _ => kit_NoSuch_WrongKind t
  | 13, _ => kit_NoSuch_Needed t
  | 14, _ => kit_NoSuch_Gone t
  | 15, _ => kit_NoSuch_Beyond t
  | _ + 16, h => absurd h (by omega)
theorem kitw_2 (t : T K mg) {j : Nat} (h : j < 16) : PySem.W.kitOne K (.ref (He.ga K (xname 2))) (.ref (He.ga K (xname j))) = some (decide (j = 2)) := match j, h with
  | 0, _ => kit_Doubled_BadWord t
  | 1, _ => kit_Doubled_NoSuch t
  | 2, _ => kit_Doubled_Doubled t
  | 3, _ => kit_Doubled_Broken t
  | 4, _ => kit_Doubled_Fenced t
  | 5, _ => kit_Doubled_Gap t
  | 6, _ => kit_Doubled_TooOld t
  | 7, _ => kit_Doubled_Late t
  | 8, _ => kit_Doubled_NotYours t
  | 9, _ => kit_Doubled_Twice t
  | 10, _ => kit_Doubled_Busy t
  | 11, _ => kit_Doubled_NoDeed t
  | 12, _ => kit_Doubled_WrongKind t
  | 13, _ => kit_Doubled_Needed t
  | 14, _ => kit_Doubled_Gone t
  | 15, _ => kit_Doubled_Beyond t
  | _ + 16, h => absurd h (by omega)
theorem kitw_3 (t : T K mg) {j : Nat} (h : j < 16) : PySem.W.kitOne K (.ref (He.ga K (xname 3))) (.ref (He.ga K (xname j))) = some (decide (j = 3)) := match j, h with
  | 0, _ => kit_Broken_BadWord t
  | 1, _ => kit_Broken_NoSuch t
  | 2, _ => kit_Broken_Doubled t
  | 3, _ => kit_Broken_Broken t
  | 4, _ => kit_Broken_Fenced t
  | 5, _ => kit_Broken_Gap t
  | 6, _ => kit_Broken_TooOld t
  | 7, _ => kit_Broken_Late t
  | 8, _ => kit_Broken_NotYours t
  | 9, _ => kit_Broken_Twice t
  | 10, _ => kit_Broken_Busy t
  | 11, _ => kit_Broken_NoDeed t
  | 12, _ => kit_Broken_WrongKind t
  | 13, _ => kit_Broken_Needed t
  | 14, _ => kit_Broken_Gone t
  | 15, _ => kit_Broken_Beyond t
  | _ + 16, h => absurd h (by omega)
theorem kitw_4 (t : T K mg) {j : Nat} (h : j < 16) : PySem.W.kitOne K (.ref (He.ga K (xname 4))) (.ref (He.ga K (xname j))) = some (decide (j = 4)) := match j, h with
  | 0, _ => kit_Fenced_BadWord t
  | 1, _ => kit_Fenced_NoSuch t
  | 2, _ => kit_Fenced_Doubled t
  | 3, _ => kit_Fenced_Broken t
  | 4, _ => kit_Fenced_Fenced t
  | 5, _ => kit_Fenced_Gap t
  | 6, _ => kit_Fenced_TooOld t
  | 7, _ => kit_Fenced_Late t
  | 8, _ => kit_Fenced_NotYours t
  | 9, _ => kit_Fenced_Twice t
  | 10, _ => kit_Fenced_Busy t
  | 11, _ => kit_Fenced_NoDeed t
  | 12, _ => kit_Fenced_WrongKind t
  | 13, _ => kit_Fenced_Needed t
  | 14, _ => kit_Fenced_Gone t
  | 15, _ => kit_Fenced_Beyond t
  | _ + 16, h => absurd h (by omega)
theorem kitw_5 (t : T K mg) {j : Nat} (h : j < 16) : PySem.W.kitOne K (.ref (He.ga K (xname 5))) (.ref (He.ga K (xname j))) = some (decide (j = 5)) := match j, h with
  | 0, _ => kit_Gap_BadWord t
  | 1, _ => kit_Gap_NoSuch t
  | 2, _ => kit_Gap_Doubled t
  | 3, _ => kit_Gap_Broken t
  | 4, _ => kit_Gap_Fenced t
  | 5, _ => kit_Gap_Gap t
  | 6, _ => kit_Gap_TooOld t
  | 7, _ => kit_Gap_Late t
  | 8, _ => kit_Gap_NotYours t
  | 9, _ => kit_Gap_Twice t
  | 10, _ => kit_Gap_Busy t
  | 11, _ => kit_Gap_NoDeed t
  | 12, _ => kit_Gap_WrongKind t
  | 13, _ => kit_Gap_Needed t
  | 14, _ => kit_Gap_Gone t
  | 15, _ => kit_Gap_Beyond t
  | _ + 16, h => absurd h (by omega)
theorem kitw_6 (t : T K mg) {j : Nat} (h : j < 16) : PySem.W.kitOne K (.ref (He.ga K (xname 6))) (.ref (He.ga K (xname j))) = some (decide (j = 6)) := match j, h with
  | 0, _ => kit_TooOld_BadWord t
  | 1, _ => kit_TooOld_NoSuch t
  | 2, _ => kit_TooOld_Doubled t
  | 3, _ => kit_TooOld_Broken t
  | 4, _ => kit_TooOld_Fenced t
  | 5, _ => kit_TooOld_Gap t
  | 6, _ => kit_TooOld_TooOld t
  | 7, _ => kit_TooOld_Late t
  | 8, _ => kit_TooOld_NotYours t
  | 9, _ => kit_TooOld_Twice t
  | 10, _ => kit_TooOld_Busy t
  | 11, _ => kit_TooOld_NoDeed t
  | 12, _ => kit_TooOld_WrongKind t
  | 13, _ => kit_TooOld_Needed t
  | 14, _ => kit_TooOld_Gone t
  | 15, _ => kit_TooOld_Beyond t
  | _ + 16, h => absurd h (by omega)
theorem kitw_7 (t : T K mg) {j : Nat} (h : j < 16) : PySem.W.kitOne K (.ref (He.ga K (xname 7))) (.ref (He.ga K (xname j))) = some (decide (j = 7)) := match j, h with
  | 0, _ => kit_Late_BadWord t
  | 1, _ => kit_Late_NoSuch t
  | 2, _ => kit_Late_Doubled t
  | 3, _ => kit_Late_Broken t
  | 4, _ => kit_Late_Fenced t
  | 5, _ => kit_Late_Gap t
  | 6, _ => kit_Late_TooOld t
  | 7, _ => kit_Late_Late t
  | 8, _ => kit_Late_NotYours t
  | 9, _ => kit_Late_Twice t
  | 10, _ => kit_Late_Busy t
  | 11, _ => kit_Late_NoDeed t
  | 12, _ => kit_Late_WrongKind t
  | 13, _ => kit_Late_Needed t
  | 14, _ => kit_Late_Gone t
  | 15, _ => kit_Late_Beyond t
  | _ + 16, h => absurd h (by omega)
theorem kitw_8 (t : T K mg) {j : Nat} (h : j < 16) : PySem.W.kitOne K (.ref (He.ga K (xname 8))) (.ref (He.ga K (xname j))) = some (decide (j = 8)) := match j, h with
  | 0, _ => kit_NotYours_BadWord t
  | 1, _ => kit_NotYours_NoSuch t
  | 2, _ => kit_NotYours_Doubled t
  | 3, _ => kit_NotYours_Broken t
  | 4, _ => kit_NotYours_Fenced t
  | 5, _ => kit_NotYours_Gap t
  | 6, _ => kit_NotYours_TooOld t
  | 7, _ => kit_NotYours_Late t
  | 8, _ => kit_NotYours_NotYours t
  | 9, _ => kit_NotYours_Twice t
  | 10, _ => kit_NotYours_Busy t
  | 11, _ => kit_NotYours_NoDeed t
  | 12, _ => kit_NotYours_WrongKind t
  | 13, _ => kit_NotYours_Needed t
  | 14, _ => kit_NotYours_Gone t
  | 15, _ => kit_NotYours_Beyond t
  | _ + 16, h => absurd h (by omega)
theorem kitw_9 (t : T K mg) {j : Nat} (h : j < 16) : PySem.W.kitOne K (.ref (He.ga K (xname 9))) (.ref (He.ga K (xname j))) = some (decide (j = 9)) := match j, h with
  | 0, _ => kit_Twice_BadWord t
  | 1, _ => kit_Twice_NoSuch t
  | 2, _ => kit_Twice_Doubled t
  | 3, _ => kit_Twice_Broken t
  | 4, _ => kit_Twice_Fenced t
  | 5, _ => kit_Twice_Gap t
  | 6, _ => kit_Twice_TooOld t
  | 7, _ => kit_Twice_Late t
  | 8, _ => kit_Twice_NotYours t
  | 9, _ => kit_Twice_Twice t
  | 10, _ => kit_Twice_Busy t
  | 11, _ => kit_Twice_NoDeed t
  | 12, _ => kit_Twice_WrongKind t
  | 13, _ => kit_Twice_Needed t
  | 14, _ => kit_Twice_Gone t
  | 15, _ => kit_Twice_Beyond t
  | _ + 16, h => absurd h (by omega)
theorem kitw_10 (t : T K mg) {j : Nat} (h : j < 16) : PySem.W.kitOne K (.ref (He.ga K (xname 10))) (.ref (He.ga K (xname j))) = some (decide (j = 10)) := match j, h with
  | 0, _ => kit_Busy_BadWord t
  | 1, _ => kit_Busy_NoSuch t
  | 2, _ => kit_Busy_Doubled t
  | 3, _ => kit_Busy_Broken t
  | 4, _ => kit_Busy_Fenced t
  | 5, _ => kit_Busy_Gap t
  | 6, _ => kit_Busy_TooOld t
  | 7, _ => kit_Busy_Late t
  | 8, _ => kit_Busy_NotYours t
  | 9, _ => kit_Busy_Twice t
  | 10, _ => kit_Busy_Busy t
  | 11, _ => kit_Busy_NoDeed t
  | 12, _ => kit_Busy_WrongKind t
  | 13, _ => kit_Busy_Needed t
  | 14, _ => kit_Busy_Gone t
  | 15, _ => kit_Busy_Beyond t
  | _ + 16, h => absurd h (by omega)
theorem kitw_11 (t : T K mg) {j : Nat} (h : j < 16) : PySem.W.kitOne K (.ref (He.ga K (xname 11))) (.ref (He.ga K (xname j))) = some (decide (j = 11)) := match j, h with
  | 0, _ => kit_NoDeed_BadWord t
  | 1, _ => kit_NoDeed_NoSuch t
  | 2, _ => kit_NoDeed_Doubled t
  | 3, _ => kit_NoDeed_Broken t
  | 4, _ => kit_NoDeed_Fenced t
  | 5, _ => kit_NoDeed_Gap t
  | 6, _ => kit_NoDeed_TooOld t
  | 7, _ => kit_NoDeed_Late t
  | 8, _ => kit_NoDeed_NotYours t
  | 9, _ => kit_NoDeed_Twice t
  | 10, _ => kit_NoDeed_Busy t
  | 11, _ => kit_NoDeed_NoDeed t
  | 12, _ => kit_NoDeed_WrongKind t
  | 13, _ => kit_NoDeed_Needed t
  | 14, _ => kit_NoDeed_Gone t
  | 15, _ => kit_NoDeed_Beyond t
  | _ + 16, h => absurd h (by omega)
theorem kitw_12 (t : T K mg) {j : Nat} (h : j < 16) : PySem.W.kitOne K (.ref (He.ga K (xname 12))) (.ref (He.ga K (xname j))) = some (decide (j = 12)) := match j, h with
  | 0, _ => kit_WrongKind_BadWord t
  | 1, _ => kit_WrongKind_NoSuch t
  | 2, _ => kit_WrongKind_Doubled t
  | 3, _ => kit_WrongKind_Broken t
  | 4, _ => kit_WrongKind_Fenced t
  | 5, _ => kit_WrongKind_Gap t
  | 6, _ => kit_WrongKind_TooOld t
  | 7, _ => kit_WrongKind_Late t
  | 8, _ => kit_WrongKind_NotYours t
  | 9, _ => kit_WrongKind_Twice t
  | 10, _ => kit_WrongKind_Busy t
  | 11, _ => kit_WrongKind_NoDeed t
  | 12, _ => kit_WrongKind_WrongKind t
  | 13, _ => kit_WrongKind_Needed t
  | 14, _ => kit_WrongKind_Gone t
  | 15, _ => kit_WrongKind_Beyond t
  | _ + 16, h => absurd h (by omega)
theorem kitw_13 (t : T K mg) {j : Nat} (h : j < 16) : PySem.W.kitOne K (.ref (He.ga K (xname 13))) (.ref (He.ga K (xname j))) = some (decide (j = 13)) := match j, h with
  | 0, _ => kit_Needed_BadWord t
  | 1, _ => kit_Needed_NoSuch t
  | 2, _ => kit_Needed_Doubled t
  | 3, _ => kit_Needed_Broken t
  | 4, _ => kit_Needed_Fenced t
  | 5, _ => kit_Needed_Gap t
  | 6, _ => kit_Needed_TooOld t
  | 7, _ => kit_Needed_Late t
  | 8, _ => kit_Needed_NotYours t
  | 9, _ => kit_Needed_Twice t
  | 10, _ => kit_Needed_Busy t
  | 11, _ => kit_Needed_NoDeed t
  | 12, _ => kit_Needed_WrongKind t
  | 13, _ => kit_Needed_Needed t
  | 14, _ => kit_Needed_Gone t
  | 15, _ => kit_Needed_Beyond t
  | _ + 16, h => absurd h (by omega)
theorem kitw_14 (t : T K mg) {j : Nat} (h : j < 16) : PySem.W.kitOne K (.ref (He.ga K (xname 14))) (.ref (He.ga K (xname j))) = some (decide (j = 14)) := match j, h with
  | 0, _ => kit_Gone_BadWord t
  | 1, _ => kit_Gone_NoSuch t
  | 2, _ => kit_Gone_Doubled t
  | 3, _ => kit_Gone_Broken t
  | 4, _ => kit_Gone_Fenced t
  | 5, _ => kit_Gone_Gap t
  | 6, _ => kit_Gone_TooOld t
  | 7, _ => kit_Gone_Late t
  | 8, _ => kit_Gone_NotYours t
  | 9, _ => kit_Gone_Twice t
  | 10, _ => kit_Gone_Busy t
  | 11, _ => kit_Gone_NoDeed t
  | 12, _ => kit_Gone_WrongKind t
  | 13, _ => kit_Gone_Needed t
  | 14, _ => kit_Gone_Gone t
  | 15, _ => kit_Gone_Beyond t
  | _ + 16, h => absurd h (by omega)
theorem kitw_15 (t : T K mg) {j : Nat} (h : j < 16) : PySem.W.kitOne K (.ref (He.ga K (xname 15))) (.ref (He.ga K (xname j))) = some (decide (j = 15)) := match j, h with
  | 0, _ => kit_Beyond_BadWord t
  | 1, _ => kit_Beyond_NoSuch t
  | 2, _ => kit_Beyond_Doubled t
  | 3, _ => kit_Beyond_Broken t
  | 4, _ => kit_Beyond_Fenced t
  | 5, _ => kit_Beyond_Gap t
  | 6, _ => kit_Beyond_TooOld t
  | 7, _ => kit_Beyond_Late t
  | 8, _ => kit_Beyond_NotYours t
  | 9, _ => kit_Beyond_Twice t
  | 10, _ => kit_Beyond_Busy t
  | 11, _ => kit_Beyond_NoDeed t
  | 12, _ => kit_Beyond_WrongKind t
  | 13, _ => kit_Beyond_Needed t
  | 14, _ => kit_Beyond_Gone t
  | 15, _ => kit_Beyond_Beyond t
  | _ + 16, h => absurd h (by omega)
theorem kit_of (t : T K mg) {n j : Nat} (h : n < 16) (hj : j < 16) : PySem.W.kitOne K (.ref (He.ga K (xname n))) (.ref (He.ga K (xname j))) = some (decide (j = n)) := match n, h with
  | 0, _ => kitw_0 t hj
  | 1, _ => kitw_1 t hj
  | 2, _ => kitw_2 t hj
  | 3, _ => kitw_3 t hj
  | 4, _ => kitw_4 t hj
  | 5, _ => kitw_5 t hj
  | 6, _ => kitw_6 t hj
  | 7, _ => kitw_7 t hj
  | 8, _ => kitw_8 t hj
  | 9, _ => kitw_9 t hj
  | 10, _ => kitw_10 t hj
  | 11, _ => kitw_11 t hj
  | 12, _ => kitw_12 t hj
  | 13, _ => kitw_13 t hj
  | 14, _ => kitw_14 t hj
  | 15, _ => kitw_15 t hj
  | _ + 16, h => absurd h (by omega)
def isG (g n : Nat) : Bool := match g with | 0 => decide (4 ≤ n ∧ n < 7) | 1 => decide (7 ≤ n ∧ n < 10) | 2 => decide (10 ≤ n ∧ n < 12) | _ => decide (12 ≤ n ∧ n < 16)
theorem kitg_SenderError (t : T K mg) {n : Nat} (h : n < 16) : PySem.W.kitOne K (.ref (He.ga K (xname n))) (.ref (He.ga K "SenderError")) = some (isG 0 n) := match n, h with
  | 0, _ => kit_BadWord_SenderError t
  | 1, _ => kit_NoSuch_SenderError t
  | 2, _ => kit_Doubled_SenderError t
  | 3, _ => kit_Broken_SenderError t
  | 4, _ => kit_Fenced_SenderError t
  | 5, _ => kit_Gap_SenderError t
  | 6, _ => kit_TooOld_SenderError t
  | 7, _ => kit_Late_SenderError t
  | 8, _ => kit_NotYours_SenderError t
  | 9, _ => kit_Twice_SenderError t
  | 10, _ => kit_Busy_SenderError t
  | 11, _ => kit_NoDeed_SenderError t
  | 12, _ => kit_WrongKind_SenderError t
  | 13, _ => kit_Needed_SenderError t
  | 14, _ => kit_Gone_SenderError t
  | 15, _ => kit_Beyond_SenderError t
  | _ + 16, h => absurd h (by omega)
theorem kitg_LoanError (t : T K mg) {n : Nat} (h : n < 16) : PySem.W.kitOne K (.ref (He.ga K (xname n))) (.ref (He.ga K "LoanError")) = some (isG 1 n) := match n, h with
  | 0, _ => kit_BadWord_LoanError t
  | 1, _ => kit_NoSuch_LoanError t
  | 2, _ => kit_Doubled_LoanError t
  | 3, _ => kit_Broken_LoanError t
  | 4, _ => kit_Fenced_LoanError t
  | 5, _ => kit_Gap_LoanError t
  | 6, _ => kit_TooOld_LoanError t
  | 7, _ => kit_Late_LoanError t
  | 8, _ => kit_NotYours_LoanError t
  | 9, _ => kit_Twice_LoanError t
  | 10, _ => kit_Busy_LoanError t
  | 11, _ => kit_NoDeed_LoanError t
  | 12, _ => kit_WrongKind_LoanError t
  | 13, _ => kit_Needed_LoanError t
  | 14, _ => kit_Gone_LoanError t
  | 15, _ => kit_Beyond_LoanError t
  | _ + 16, h => absurd h (by omega)
theorem kitg_DeedError (t : T K mg) {n : Nat} (h : n < 16) : PySem.W.kitOne K (.ref (He.ga K (xname n))) (.ref (He.ga K "DeedError")) = some (isG 2 n) := match n, h with
  | 0, _ => kit_BadWord_DeedError t
  | 1, _ => kit_NoSuch_DeedError t
  | 2, _ => kit_Doubled_DeedError t
  | 3, _ => kit_Broken_DeedError t
  | 4, _ => kit_Fenced_DeedError t
  | 5, _ => kit_Gap_DeedError t
  | 6, _ => kit_TooOld_DeedError t
  | 7, _ => kit_Late_DeedError t
  | 8, _ => kit_NotYours_DeedError t
  | 9, _ => kit_Twice_DeedError t
  | 10, _ => kit_Busy_DeedError t
  | 11, _ => kit_NoDeed_DeedError t
  | 12, _ => kit_WrongKind_DeedError t
  | 13, _ => kit_Needed_DeedError t
  | 14, _ => kit_Gone_DeedError t
  | 15, _ => kit_Beyond_DeedError t
  | _ + 16, h => absurd h (by omega)
theorem kitg_RowError (t : T K mg) {n : Nat} (h : n < 16) : PySem.W.kitOne K (.ref (He.ga K (xname n))) (.ref (He.ga K "RowError")) = some (isG 3 n) := match n, h with
  | 0, _ => kit_BadWord_RowError t
  | 1, _ => kit_NoSuch_RowError t
  | 2, _ => kit_Doubled_RowError t
  | 3, _ => kit_Broken_RowError t
  | 4, _ => kit_Fenced_RowError t
  | 5, _ => kit_Gap_RowError t
  | 6, _ => kit_TooOld_RowError t
  | 7, _ => kit_Late_RowError t
  | 8, _ => kit_NotYours_RowError t
  | 9, _ => kit_Twice_RowError t
  | 10, _ => kit_Busy_RowError t
  | 11, _ => kit_NoDeed_RowError t
  | 12, _ => kit_WrongKind_RowError t
  | 13, _ => kit_Needed_RowError t
  | 14, _ => kit_Gone_RowError t
  | 15, _ => kit_Beyond_RowError t
  | _ + 16, h => absurd h (by omega)
theorem kitv (t : T K mg) {n : Nat} (h : n < 16) : PySem.W.kitOne K (.ref (He.ga K (xname n))) (.type "ValueError") = some true := match n, h with
  | 0, _ => kit_BadWord_ValueError t
  | 1, _ => kit_NoSuch_ValueError t
  | 2, _ => kit_Doubled_ValueError t
  | 3, _ => kit_Broken_ValueError t
  | 4, _ => kit_Fenced_ValueError t
  | 5, _ => kit_Gap_ValueError t
  | 6, _ => kit_TooOld_ValueError t
  | 7, _ => kit_Late_ValueError t
  | 8, _ => kit_NotYours_ValueError t
  | 9, _ => kit_Twice_ValueError t
  | 10, _ => kit_Busy_ValueError t
  | 11, _ => kit_NoDeed_ValueError t
  | 12, _ => kit_WrongKind_ValueError t
  | 13, _ => kit_Needed_ValueError t
  | 14, _ => kit_Gone_ValueError t
  | 15, _ => kit_Beyond_ValueError t
  | _ + 16, h => absurd h (by omega)
theorem exm_of (t : T K mg) {n : Nat} (h : n < 16) : PySem.W.exmOne K (.ref (He.ga K (xname n))) (.ref (He.ga K "CellarError")) = some true := match n, h with
  | 0, _ => exm_BadWord_CellarError t
  | 1, _ => exm_NoSuch_CellarError t
  | 2, _ => exm_Doubled_CellarError t
  | 3, _ => exm_Broken_CellarError t
  | 4, _ => exm_Fenced_CellarError t
  | 5, _ => exm_Gap_CellarError t
  | 6, _ => exm_TooOld_CellarError t
  | 7, _ => exm_Late_CellarError t
  | 8, _ => exm_NotYours_CellarError t
  | 9, _ => exm_Twice_CellarError t
  | 10, _ => exm_Busy_CellarError t
  | 11, _ => exm_NoDeed_CellarError t
  | 12, _ => exm_WrongKind_CellarError t
  | 13, _ => exm_Needed_CellarError t
  | 14, _ => exm_Gone_CellarError t
  | 15, _ => exm_Beyond_CellarError t
  | _ + 16, h => absurd h (by omega)
/-- what stands behind a raise of the n-th class -/
def Out (K : PySem.W.Frag) (n : Nat) (one other : V) (H : Hp) (E : XK) : Prop := (n = 0 → E (.ref (He.ga K (xname 0))) none H) ∧ (n ≠ 0 → ∀ d, H d = none → E (.ref (He.ga K (xname n))) (some d) (upd H d (.xd (xfs one other n))))
theorem eqi {n : Nat} {k : Int} (c : decide (V.int (n : Int) = V.int k) = true) : (n : Int) = k := by simpa using c
theorem nei {n : Nat} {k : Int} (c : ¬ decide (V.int (n : Int) = V.int k) = true) : ¬ (n : Int) = k := by simpa using c
def sp_first (K : PySem.W.Frag) : Sp := fun vs H Q E => ∃ (n : Nat) (one : V), vs = [.int n, one] ∧ (n < 7 → Out K n one .non H E) ∧ (7 ≤ n → Q .non H)
def sp_more (K : PySem.W.Frag) : Sp := fun vs H Q E => ∃ (n : Nat) (one other : V), vs = [.int n, one, other] ∧ (7 ≤ n → n < 16 → Out K n one other H E) ∧ (n < 7 → Q .non H) ∧ n < 16
theorem ok__law_raise_first (t : T K mg) : FnOk P w K mg base (L2.CX P w) 3 (He.fAd K ("_law_raise_first", none)) (fdOf K ("_law_raise_first", none)) ["_law_which", "_law_one"] (sp_first K) := by
  refine (fn__law_raise_first t).ok sc__law_raise_first (fun vs H Q E h => ?_) (fun cdv A outer s H vs Q E hr h => ?_)
  · obtain ⟨n, one, rfl, _⟩ := h
    rfl
  · obtain ⟨n, one, rfl, ho, hq⟩ := h
    have G_NoSuch___init__ := ok_NoSuch___init__ (P := P) (w := w) (base := base) t
    have G_Doubled___init__ := ok_Doubled___init__ (P := P) (w := w) (base := base) t
    have G_Broken___init__ := ok_Broken___init__ (P := P) (w := w) (base := base) t
    have G_Fenced___init__ := ok_Fenced___init__ (P := P) (w := w) (base := base) t
    have G_Gap___init__ := ok_Gap___init__ (P := P) (w := w) (base := base) t
    have G_TooOld___init__ := ok_TooOld___init__ (P := P) (w := w) (base := base) t
    refine ⟨_, (pss_cons (ps_if (pt_cmpR op_eq (pv 0) pe_int (nomark _))
      (pss_one (ps_raise rfl (takes_of rfl rfl rfl rfl) (pmk_0 PySem.F.excBase_ValueError (exq_BadWord t) (mg_BadWord t) (keep_BadWord t) (raises_own (oex_BadWord t).exC (oex_BadWord t).tyC) rfl)))
      pss_nil)
      (pss_cons (ps_if (pt_cmpR op_eq (pv 0) pe_int (nomark _))
      (pss_one (ps_raise rfl (takes_of rfl rfl rfl rfl) (pmk_1 (oex_NoSuch t) (ini_NoSuch t).1 (ini_NoSuch t).2 G_NoSuch___init__ (hr.mono (by decide)) (b_NoSuch___init__ t) rfl (mg_NoSuch t) (pv 1))))
      pss_nil)
      (pss_cons (ps_if (pt_cmpR op_eq (pv 0) pe_int (nomark _))
      (pss_one (ps_raise rfl (takes_of rfl rfl rfl rfl) (pmk_1 (oex_Doubled t) (ini_Doubled t).1 (ini_Doubled t).2 G_Doubled___init__ (hr.mono (by decide)) (b_Doubled___init__ t) rfl (mg_Doubled t) (pv 1))))
      pss_nil)
      (pss_cons (ps_if (pt_cmpR op_eq (pv 0) pe_int (nomark _))
      (pss_one (ps_raise rfl (takes_of rfl rfl rfl rfl) (pmk_1 (oex_Broken t) (ini_Broken t).1 (ini_Broken t).2 G_Broken___init__ (hr.mono (by decide)) (b_Broken___init__ t) rfl (mg_Broken t) (pv 1))))
      pss_nil)
      (pss_cons (ps_if (pt_cmpR op_eq (pv 0) pe_int (nomark _))
      (pss_one (ps_raise rfl (takes_of rfl rfl rfl rfl) (pmk_1 (oex_Fenced t) (ini_Fenced t).1 (ini_Fenced t).2 G_Fenced___init__ (hr.mono (by decide)) (b_Fenced___init__ t) rfl (mg_Fenced t) (pv 1))))
      pss_nil)
      (pss_cons (ps_if (pt_cmpR op_eq (pv 0) pe_int (nomark _))
      (pss_one (ps_raise rfl (takes_of rfl rfl rfl rfl) (pmk_1 (oex_Gap t) (ini_Gap t).1 (ini_Gap t).2 G_Gap___init__ (hr.mono (by decide)) (b_Gap___init__ t) rfl (mg_Gap t) (pv 1))))
      pss_nil)
      (pss_one (ps_if (pt_cmpR op_eq (pv 0) pe_int (nomark _))
      (pss_one (ps_raise rfl (takes_of rfl rfl rfl rfl) (pmk_1 (oex_TooOld t) (ini_TooOld t).1 (ini_TooOld t).2 G_TooOld___init__ (hr.mono (by decide)) (b_TooOld___init__ t) rfl (mg_TooOld t) (pv 1))))
      pss_nil)))))))), ?_⟩
    refine ⟨_, rfl, rfl, _, rfl, ite2 (fun c => ?_) (fun c => ?_)⟩
    · obtain rfl : n = 0 := by have := eqi c; omega
      exact (ho (by decide)).1 rfl
    have c0 := nei c
    clear c
    refine ⟨_, rfl, rfl, _, rfl, ite2 (fun c => ?_) (fun c => ?_)⟩
    · obtain rfl : n = 1 := by have := eqi c; omega
      exact ⟨_, rfl, fun d hd => (ho (by decide)).2 (by decide) d hd⟩
    have c1 := nei c
    clear c
    refine ⟨_, rfl, rfl, _, rfl, ite2 (fun c => ?_) (fun c => ?_)⟩
    · obtain rfl : n = 2 := by have := eqi c; omega
      exact ⟨_, rfl, fun d hd => (ho (by decide)).2 (by decide) d hd⟩
    have c2 := nei c
    clear c
    refine ⟨_, rfl, rfl, _, rfl, ite2 (fun c => ?_) (fun c => ?_)⟩
    · obtain rfl : n = 3 := by have := eqi c; omega
      exact ⟨_, rfl, fun d hd => (ho (by decide)).2 (by decide) d hd⟩
    have c3 := nei c
    clear c
    refine ⟨_, rfl, rfl, _, rfl, ite2 (fun c => ?_) (fun c => ?_)⟩
    · obtain rfl : n = 4 := by have := eqi c; omega
      exact ⟨_, rfl, fun d hd => (ho (by decide)).2 (by decide) d hd⟩
    have c4 := nei c
    clear c
    refine ⟨_, rfl, rfl, _, rfl, ite2 (fun c => ?_) (fun c => ?_)⟩
    · obtain rfl : n = 5 := by have := eqi c; omega
      exact ⟨_, rfl, fun d hd => (ho (by decide)).2 (by decide) d hd⟩
    have c5 := nei c
    clear c
    refine ⟨_, rfl, rfl, _, rfl, ite2 (fun c => ?_) (fun c => ?_)⟩
    · obtain rfl : n = 6 := by have := eqi c; omega
      exact ⟨_, rfl, fun d hd => (ho (by decide)).2 (by decide) d hd⟩
    have c6 := nei c
    clear c
    exact hq (by omega)
theorem ok__law_raise_more (t : T K mg) : FnOk P w K mg base (L2.CX P w) 3 (He.fAd K ("_law_raise_more", none)) (fdOf K ("_law_raise_more", none)) ["_law_which", "_law_one", "_law_other"] (sp_more K) := by
  refine (fn__law_raise_more t).ok sc__law_raise_more (fun vs H Q E h => ?_) (fun cdv A outer s H vs Q E hr h => ?_)
  · obtain ⟨n, one, other, rfl, _⟩ := h
    rfl
  · obtain ⟨n, one, other, rfl, ho, hq, hn⟩ := h
    have G_Late___init__ := ok_Late___init__ (P := P) (w := w) (base := base) t
    have G_NotYours___init__ := ok_NotYours___init__ (P := P) (w := w) (base := base) t
    have G_Twice___init__ := ok_Twice___init__ (P := P) (w := w) (base := base) t
    have G_Busy___init__ := ok_Busy___init__ (P := P) (w := w) (base := base) t
    have G_NoDeed___init__ := ok_NoDeed___init__ (P := P) (w := w) (base := base) t
    have G_WrongKind___init__ := ok_WrongKind___init__ (P := P) (w := w) (base := base) t
    have G_Needed___init__ := ok_Needed___init__ (P := P) (w := w) (base := base) t
    have G_Gone___init__ := ok_Gone___init__ (P := P) (w := w) (base := base) t
    have G_Beyond___init__ := ok_Beyond___init__ (P := P) (w := w) (base := base) t
    refine ⟨_, (pss_cons (ps_if (pt_cmpR op_eq (pv 0) pe_int (nomark _))
      (pss_one (ps_raise rfl (takes_of rfl rfl rfl rfl) (pmk_2 (oex_Late t) (ini_Late t).1 (ini_Late t).2 G_Late___init__ (hr.mono (by decide)) (b_Late___init__ t) rfl (mg_Late t) (pv 1) (pv 2))))
      pss_nil)
      (pss_cons (ps_if (pt_cmpR op_eq (pv 0) pe_int (nomark _))
      (pss_one (ps_raise rfl (takes_of rfl rfl rfl rfl) (pmk_2 (oex_NotYours t) (ini_NotYours t).1 (ini_NotYours t).2 G_NotYours___init__ (hr.mono (by decide)) (b_NotYours___init__ t) rfl (mg_NotYours t) (pv 1) (pv 2))))
      pss_nil)
      (pss_cons (ps_if (pt_cmpR op_eq (pv 0) pe_int (nomark _))
      (pss_one (ps_raise rfl (takes_of rfl rfl rfl rfl) (pmk_2 (oex_Twice t) (ini_Twice t).1 (ini_Twice t).2 G_Twice___init__ (hr.mono (by decide)) (b_Twice___init__ t) rfl (mg_Twice t) (pv 1) (pv 2))))
      pss_nil)
      (pss_cons (ps_if (pt_cmpR op_eq (pv 0) pe_int (nomark _))
      (pss_one (ps_raise rfl (takes_of rfl rfl rfl rfl) (pmk_1 (oex_Busy t) (ini_Busy t).1 (ini_Busy t).2 G_Busy___init__ (hr.mono (by decide)) (b_Busy___init__ t) rfl (mg_Busy t) (pv 1))))
      pss_nil)
      (pss_cons (ps_if (pt_cmpR op_eq (pv 0) pe_int (nomark _))
      (pss_one (ps_raise rfl (takes_of rfl rfl rfl rfl) (pmk_1 (oex_NoDeed t) (ini_NoDeed t).1 (ini_NoDeed t).2 G_NoDeed___init__ (hr.mono (by decide)) (b_NoDeed___init__ t) rfl (mg_NoDeed t) (pv 1))))
      pss_nil)
      (pss_cons (ps_if (pt_cmpR op_eq (pv 0) pe_int (nomark _))
      (pss_one (ps_raise rfl (takes_of rfl rfl rfl rfl) (pmk_1 (oex_WrongKind t) (ini_WrongKind t).1 (ini_WrongKind t).2 G_WrongKind___init__ (hr.mono (by decide)) (b_WrongKind___init__ t) rfl (mg_WrongKind t) (pv 1))))
      pss_nil)
      (pss_cons (ps_if (pt_cmpR op_eq (pv 0) pe_int (nomark _))
      (pss_one (ps_raise rfl (takes_of rfl rfl rfl rfl) (pmk_2 (oex_Needed t) (ini_Needed t).1 (ini_Needed t).2 G_Needed___init__ (hr.mono (by decide)) (b_Needed___init__ t) rfl (mg_Needed t) (pv 1) (pv 2))))
      pss_nil)
      (pss_cons (ps_if (pt_cmpR op_eq (pv 0) pe_int (nomark _))
      (pss_one (ps_raise rfl (takes_of rfl rfl rfl rfl) (pmk_2 (oex_Gone t) (ini_Gone t).1 (ini_Gone t).2 G_Gone___init__ (hr.mono (by decide)) (b_Gone___init__ t) rfl (mg_Gone t) (pv 1) (pv 2))))
      pss_nil)
      (pss_one (ps_if (pt_cmpR op_eq (pv 0) pe_int (nomark _))
      (pss_one (ps_raise rfl (takes_of rfl rfl rfl rfl) (pmk_2 (oex_Beyond t) (ini_Beyond t).1 (ini_Beyond t).2 G_Beyond___init__ (hr.mono (by decide)) (b_Beyond___init__ t) rfl (mg_Beyond t) (pv 1) (pv 2))))
      pss_nil)))))))))), ?_⟩
    refine ⟨_, rfl, rfl, _, rfl, ite2 (fun c => ?_) (fun c => ?_)⟩
    · obtain rfl : n = 7 := by have := eqi c; omega
      exact ⟨_, rfl, _, rfl, fun d hd => (ho (by decide) (by decide)).2 (by decide) d hd⟩
    have c7 := nei c
    clear c
    refine ⟨_, rfl, rfl, _, rfl, ite2 (fun c => ?_) (fun c => ?_)⟩
    · obtain rfl : n = 8 := by have := eqi c; omega
      exact ⟨_, rfl, _, rfl, fun d hd => (ho (by decide) (by decide)).2 (by decide) d hd⟩
    have c8 := nei c
    clear c
    refine ⟨_, rfl, rfl, _, rfl, ite2 (fun c => ?_) (fun c => ?_)⟩
    · obtain rfl : n = 9 := by have := eqi c; omega
      exact ⟨_, rfl, _, rfl, fun d hd => (ho (by decide) (by decide)).2 (by decide) d hd⟩
    have c9 := nei c
    clear c
    refine ⟨_, rfl, rfl, _, rfl, ite2 (fun c => ?_) (fun c => ?_)⟩
    · obtain rfl : n = 10 := by have := eqi c; omega
      exact ⟨_, rfl, fun d hd => (ho (by decide) (by decide)).2 (by decide) d hd⟩
    have c10 := nei c
    clear c
    refine ⟨_, rfl, rfl, _, rfl, ite2 (fun c => ?_) (fun c => ?_)⟩
    · obtain rfl : n = 11 := by have := eqi c; omega
      exact ⟨_, rfl, fun d hd => (ho (by decide) (by decide)).2 (by decide) d hd⟩
    have c11 := nei c
    clear c
    refine ⟨_, rfl, rfl, _, rfl, ite2 (fun c => ?_) (fun c => ?_)⟩
    · obtain rfl : n = 12 := by have := eqi c; omega
      exact ⟨_, rfl, fun d hd => (ho (by decide) (by decide)).2 (by decide) d hd⟩
    have c12 := nei c
    clear c
    refine ⟨_, rfl, rfl, _, rfl, ite2 (fun c => ?_) (fun c => ?_)⟩
    · obtain rfl : n = 13 := by have := eqi c; omega
      exact ⟨_, rfl, _, rfl, fun d hd => (ho (by decide) (by decide)).2 (by decide) d hd⟩
    have c13 := nei c
    clear c
    refine ⟨_, rfl, rfl, _, rfl, ite2 (fun c => ?_) (fun c => ?_)⟩
    · obtain rfl : n = 14 := by have := eqi c; omega
      exact ⟨_, rfl, _, rfl, fun d hd => (ho (by decide) (by decide)).2 (by decide) d hd⟩
    have c14 := nei c
    clear c
    refine ⟨_, rfl, rfl, _, rfl, ite2 (fun c => ?_) (fun c => ?_)⟩
    · obtain rfl : n = 15 := by have := eqi c; omega
      exact ⟨_, rfl, _, rfl, fun d hd => (ho (by decide) (by decide)).2 (by decide) d hd⟩
    have c15 := nei c
    clear c
    exact hq (by omega)
/-! ### the defs that are handed the exception -/
def XD (d : Option Addr) (H : Hp) (n : Nat) (one other : V) : Prop := (n = 0 ∧ d = none) ∨ (n ≠ 0 ∧ ∃ dd, d = some dd ∧ H dd = some (.xd (xfs one other n)))
theorem XD.wk {d : Option Addr} {H : Hp} {n : Nat} {one other : V} (x : XD d H n one other) : d = none ∨ ∃ dd fs, d = some dd ∧ H dd = some (.xd fs) := by
  rcases x with ⟨_, e⟩ | ⟨_, dd, e, h⟩
  · exact Or.inl e
  · exact Or.inr ⟨dd, _, e, h⟩
theorem XD.ex {d : Option Addr} {H H' : Hp} {n : Nat} {one other : V} (x : XD d H n one other) (e : Evl.Ex H H') : XD d H' n one other := by
  rcases x with h | ⟨h0, dd, h1, h2⟩
  · exact Or.inl h
  · exact Or.inr ⟨h0, dd, h1, e _ _ h2⟩
def spE (K : PySem.W.Frag) (ans : Nat → V → V → List V) (a : Addr) (cls : Value) (d : Option Addr) : Sp := fun vs H Q _ => ∃ (n : Nat) (one other : V), n < 16 ∧ vs = [.ref a] ∧ cls = .ref (He.ga K (xname n)) ∧ XD d H n one other ∧
  ∀ H' l, Evl.Ex H H' → H l = none → H' l = some (.lst (ans n one other)) → Q (.ref l) H'
def kindsV (n : Nat) : List V := (List.range 16).map fun j => .bl (decide (j = n))
def gathV (n : Nat) : List V := (List.range 4).map fun g => .bl (isG g n)
def firstV (n : Nat) (one other : V) : List V := if n < 7 then dueFs one other n else []
def moreV (n : Nat) (one other : V) : List V := if n < 7 then [] else dueFs one other n
abbrev FnEs (P : Program) (w : World) (K : PySem.W.Frag) (mg : Str → Option Value) (base : Heap) (f : Str) (ans : Nat → V → V → List V) : Prop := FnE P w K mg base 1 (He.fAd K (f, none)) (fdOf K (f, none)) ["_law_e"] (spE K ans)
theorem ok__law_kinds (t : T K mg) : FnEs P w K mg base "_law_kinds" (fun n _ _ => kindsV n) := by
  refine fn_ofE (fn__law_kinds t) sc__law_kinds (fun a cls d vs H Q E h => ?_) (fun cdv A outer s H vs Q p cls d hr hz hf h => ?_)
  · obtain ⟨_, _, _, _, rfl, _⟩ := h
    rfl
  · obtain ⟨a, oe⟩ := p
    obtain ⟨n, one, other, hw, rfl, rfl, hx, q⟩ := h
    have hd := XD.wk hx
    refine ⟨_, (pss_cons (ps_set (i := 1) sc__law_kinds.nd rfl (Or.inl rfl) (pe_lst (pa_cons (pe_callB (call_isD (exc_of t hw) hz hf) (by rfl) (no_isinstance t) (by decide +kernel) (pa_cons (pv 0) (pa_cons (pe_glob (v := .ref (He.ga K "BadWord")) rfl (mg_BadWord t) rfl) pa_nil))) (pa_cons (pe_callB (call_isD (exc_of t hw) hz hf) (by rfl) (no_isinstance t) (by decide +kernel) (pa_cons (pv 0) (pa_cons (pe_glob (v := .ref (He.ga K "NoSuch")) rfl (mg_NoSuch t) rfl) pa_nil))) (pa_cons (pe_callB (call_isD (exc_of t hw) hz hf) (by rfl) (no_isinstance t) (by decide +kernel) (pa_cons (pv 0) (pa_cons (pe_glob (v := .ref (He.ga K "Doubled")) rfl (mg_Doubled t) rfl) pa_nil))) (pa_cons (pe_callB (call_isD (exc_of t hw) hz hf) (by rfl) (no_isinstance t) (by decide +kernel) (pa_cons (pv 0) (pa_cons (pe_glob (v := .ref (He.ga K "Broken")) rfl (mg_Broken t) rfl) pa_nil))) pa_nil))))))
      (pss_cons (ps_set (i := 1) sc__law_kinds.nd rfl (Or.inl rfl) (pe_op op_cat (pv 1) (pe_lst (pa_cons (pe_callB (call_isD (exc_of t hw) hz hf) (by rfl) (no_isinstance t) (by decide +kernel) (pa_cons (pv 0) (pa_cons (pe_glob (v := .ref (He.ga K "Fenced")) rfl (mg_Fenced t) rfl) pa_nil))) (pa_cons (pe_callB (call_isD (exc_of t hw) hz hf) (by rfl) (no_isinstance t) (by decide +kernel) (pa_cons (pv 0) (pa_cons (pe_glob (v := .ref (He.ga K "Gap")) rfl (mg_Gap t) rfl) pa_nil))) (pa_cons (pe_callB (call_isD (exc_of t hw) hz hf) (by rfl) (no_isinstance t) (by decide +kernel) (pa_cons (pv 0) (pa_cons (pe_glob (v := .ref (He.ga K "TooOld")) rfl (mg_TooOld t) rfl) pa_nil))) pa_nil))))))
      (pss_cons (ps_set (i := 1) sc__law_kinds.nd rfl (Or.inl rfl) (pe_op op_cat (pv 1) (pe_lst (pa_cons (pe_callB (call_isD (exc_of t hw) hz hf) (by rfl) (no_isinstance t) (by decide +kernel) (pa_cons (pv 0) (pa_cons (pe_glob (v := .ref (He.ga K "Late")) rfl (mg_Late t) rfl) pa_nil))) (pa_cons (pe_callB (call_isD (exc_of t hw) hz hf) (by rfl) (no_isinstance t) (by decide +kernel) (pa_cons (pv 0) (pa_cons (pe_glob (v := .ref (He.ga K "NotYours")) rfl (mg_NotYours t) rfl) pa_nil))) (pa_cons (pe_callB (call_isD (exc_of t hw) hz hf) (by rfl) (no_isinstance t) (by decide +kernel) (pa_cons (pv 0) (pa_cons (pe_glob (v := .ref (He.ga K "Twice")) rfl (mg_Twice t) rfl) pa_nil))) pa_nil))))))
      (pss_cons (ps_set (i := 1) sc__law_kinds.nd rfl (Or.inl rfl) (pe_op op_cat (pv 1) (pe_lst (pa_cons (pe_callB (call_isD (exc_of t hw) hz hf) (by rfl) (no_isinstance t) (by decide +kernel) (pa_cons (pv 0) (pa_cons (pe_glob (v := .ref (He.ga K "Busy")) rfl (mg_Busy t) rfl) pa_nil))) (pa_cons (pe_callB (call_isD (exc_of t hw) hz hf) (by rfl) (no_isinstance t) (by decide +kernel) (pa_cons (pv 0) (pa_cons (pe_glob (v := .ref (He.ga K "NoDeed")) rfl (mg_NoDeed t) rfl) pa_nil))) pa_nil)))))
      (pss_cons (ps_set (i := 1) sc__law_kinds.nd rfl (Or.inl rfl) (pe_op op_cat (pv 1) (pe_lst (pa_cons (pe_callB (call_isD (exc_of t hw) hz hf) (by rfl) (no_isinstance t) (by decide +kernel) (pa_cons (pv 0) (pa_cons (pe_glob (v := .ref (He.ga K "WrongKind")) rfl (mg_WrongKind t) rfl) pa_nil))) (pa_cons (pe_callB (call_isD (exc_of t hw) hz hf) (by rfl) (no_isinstance t) (by decide +kernel) (pa_cons (pv 0) (pa_cons (pe_glob (v := .ref (He.ga K "Needed")) rfl (mg_Needed t) rfl) pa_nil))) (pa_cons (pe_callB (call_isD (exc_of t hw) hz hf) (by rfl) (no_isinstance t) (by decide +kernel) (pa_cons (pv 0) (pa_cons (pe_glob (v := .ref (He.ga K "Gone")) rfl (mg_Gone t) rfl) pa_nil))) (pa_cons (pe_callB (call_isD (exc_of t hw) hz hf) (by rfl) (no_isinstance t) (by decide +kernel) (pa_cons (pv 0) (pa_cons (pe_glob (v := .ref (He.ga K "Beyond")) rfl (mg_Beyond t) rfl) pa_nil))) pa_nil)))))))
      (pss_one (ps_ret (pv 1)))))))), ?_⟩
    refine ⟨_, rfl, _, _, _, rfl, fun _ z => z, kit_of t (j := 0) hw (by decide), hd, ?_⟩
    refine ⟨_, rfl, _, _, _, rfl, fun _ z => z, kit_of t (j := 1) hw (by decide), hd, ?_⟩
    refine ⟨_, rfl, _, _, _, rfl, fun _ z => z, kit_of t (j := 2) hw (by decide), hd, ?_⟩
    refine ⟨_, rfl, _, _, _, rfl, fun _ z => z, kit_of t (j := 3) hw (by decide), hd, ?_⟩
    refine ⟨Nat.le_of_ble_eq_true rfl, fun p0 h0 => ?_⟩
    have e0 := Evl.Ex.new (H := H) (p := p0) (o := .lst [.bl (decide (0 = n)), .bl (decide (1 = n)), .bl (decide (2 = n)), .bl (decide (3 = n))]) h0
    refine ⟨_, rfl, ?_⟩
    have hd0 := XD.wk (XD.ex hx e0)
    refine ⟨_, rfl, _, _, _, rfl, fun _ z => z, kit_of t (j := 4) hw (by decide), hd0, ?_⟩
    refine ⟨_, rfl, _, _, _, rfl, fun _ z => z, kit_of t (j := 5) hw (by decide), hd0, ?_⟩
    refine ⟨_, rfl, _, _, _, rfl, fun _ z => z, kit_of t (j := 6) hw (by decide), hd0, ?_⟩
    refine ⟨Nat.le_of_ble_eq_true rfl, fun r0 hr0 => ?_⟩
    refine ⟨p0, r0, _, _, rfl, rfl, Evl.Ex.new hr0 _ _ upd_same, upd_same, Nat.le_of_ble_eq_true rfl, fun p1 hp1 => ?_⟩
    have e1 := (e0.trans (Evl.Ex.new (o := .lst [.bl (decide (4 = n)), .bl (decide (5 = n)), .bl (decide (6 = n))]) hr0)).trans (Evl.Ex.new (o := .lst ([.bl (decide (0 = n)), .bl (decide (1 = n)), .bl (decide (2 = n)), .bl (decide (3 = n))] ++ [.bl (decide (4 = n)), .bl (decide (5 = n)), .bl (decide (6 = n))])) hp1)
    refine ⟨_, rfl, ?_⟩
    have hd1 := XD.wk (XD.ex hx e1)
    refine ⟨_, rfl, _, _, _, rfl, fun _ z => z, kit_of t (j := 7) hw (by decide), hd1, ?_⟩
    refine ⟨_, rfl, _, _, _, rfl, fun _ z => z, kit_of t (j := 8) hw (by decide), hd1, ?_⟩
    refine ⟨_, rfl, _, _, _, rfl, fun _ z => z, kit_of t (j := 9) hw (by decide), hd1, ?_⟩
    refine ⟨Nat.le_of_ble_eq_true rfl, fun r1 hr1 => ?_⟩
    refine ⟨p1, r1, _, _, rfl, rfl, Evl.Ex.new hr1 _ _ upd_same, upd_same, Nat.le_of_ble_eq_true rfl, fun p2 hp2 => ?_⟩
    have e2 := (e1.trans (Evl.Ex.new (o := .lst [.bl (decide (7 = n)), .bl (decide (8 = n)), .bl (decide (9 = n))]) hr1)).trans (Evl.Ex.new (o := .lst (([.bl (decide (0 = n)), .bl (decide (1 = n)), .bl (decide (2 = n)), .bl (decide (3 = n))] ++ [.bl (decide (4 = n)), .bl (decide (5 = n)), .bl (decide (6 = n))]) ++ [.bl (decide (7 = n)), .bl (decide (8 = n)), .bl (decide (9 = n))])) hp2)
    refine ⟨_, rfl, ?_⟩
    have hd2 := XD.wk (XD.ex hx e2)
    refine ⟨_, rfl, _, _, _, rfl, fun _ z => z, kit_of t (j := 10) hw (by decide), hd2, ?_⟩
    refine ⟨_, rfl, _, _, _, rfl, fun _ z => z, kit_of t (j := 11) hw (by decide), hd2, ?_⟩
    refine ⟨Nat.le_of_ble_eq_true rfl, fun r2 hr2 => ?_⟩
    refine ⟨p2, r2, _, _, rfl, rfl, Evl.Ex.new hr2 _ _ upd_same, upd_same, Nat.le_of_ble_eq_true rfl, fun p3 hp3 => ?_⟩
    have e3 := (e2.trans (Evl.Ex.new (o := .lst [.bl (decide (10 = n)), .bl (decide (11 = n))]) hr2)).trans (Evl.Ex.new (o := .lst ((([.bl (decide (0 = n)), .bl (decide (1 = n)), .bl (decide (2 = n)), .bl (decide (3 = n))] ++ [.bl (decide (4 = n)), .bl (decide (5 = n)), .bl (decide (6 = n))]) ++ [.bl (decide (7 = n)), .bl (decide (8 = n)), .bl (decide (9 = n))]) ++ [.bl (decide (10 = n)), .bl (decide (11 = n))])) hp3)
    refine ⟨_, rfl, ?_⟩
    have hd3 := XD.wk (XD.ex hx e3)
    refine ⟨_, rfl, _, _, _, rfl, fun _ z => z, kit_of t (j := 12) hw (by decide), hd3, ?_⟩
    refine ⟨_, rfl, _, _, _, rfl, fun _ z => z, kit_of t (j := 13) hw (by decide), hd3, ?_⟩
    refine ⟨_, rfl, _, _, _, rfl, fun _ z => z, kit_of t (j := 14) hw (by decide), hd3, ?_⟩
    refine ⟨_, rfl, _, _, _, rfl, fun _ z => z, kit_of t (j := 15) hw (by decide), hd3, ?_⟩
    refine ⟨Nat.le_of_ble_eq_true rfl, fun r3 hr3 => ?_⟩
    refine ⟨p3, r3, _, _, rfl, rfl, Evl.Ex.new hr3 _ _ upd_same, upd_same, Nat.le_of_ble_eq_true rfl, fun p4 hp4 => ?_⟩
    have e4 := (e3.trans (Evl.Ex.new (o := .lst [.bl (decide (12 = n)), .bl (decide (13 = n)), .bl (decide (14 = n)), .bl (decide (15 = n))]) hr3)).trans (Evl.Ex.new (o := .lst (((([.bl (decide (0 = n)), .bl (decide (1 = n)), .bl (decide (2 = n)), .bl (decide (3 = n))] ++ [.bl (decide (4 = n)), .bl (decide (5 = n)), .bl (decide (6 = n))]) ++ [.bl (decide (7 = n)), .bl (decide (8 = n)), .bl (decide (9 = n))]) ++ [.bl (decide (10 = n)), .bl (decide (11 = n))]) ++ [.bl (decide (12 = n)), .bl (decide (13 = n)), .bl (decide (14 = n)), .bl (decide (15 = n))])) hp4)
    refine ⟨_, rfl, q _ p4 e4 ?_ upd_same⟩
    exact Evl.fresh_back (e3.trans (Evl.Ex.new (o := .lst [.bl (decide (12 = n)), .bl (decide (13 = n)), .bl (decide (14 = n)), .bl (decide (15 = n))]) hr3)) hp4
theorem ok__law_gathered (t : T K mg) : FnEs P w K mg base "_law_gathered" (fun n _ _ => gathV n) := by
  refine fn_ofE (fn__law_gathered t) sc__law_gathered (fun a cls d vs H Q E h => ?_) (fun cdv A outer s H vs Q p cls d hr hz hf h => ?_)
  · obtain ⟨_, _, _, _, rfl, _⟩ := h
    rfl
  · obtain ⟨a, oe⟩ := p
    obtain ⟨n, one, other, hw, rfl, rfl, hx, q⟩ := h
    have hd := XD.wk hx
    refine ⟨_, (pss_cons (ps_set (i := 1) sc__law_gathered.nd rfl (Or.inl rfl) (pe_lst (pa_cons (pe_callB (call_isD (exc_of t hw) hz hf) (by rfl) (no_isinstance t) (by decide +kernel) (pa_cons (pv 0) (pa_cons (pe_glob (v := .ref (He.ga K "SenderError")) rfl (mg_SenderError t) rfl) pa_nil))) (pa_cons (pe_callB (call_isD (exc_of t hw) hz hf) (by rfl) (no_isinstance t) (by decide +kernel) (pa_cons (pv 0) (pa_cons (pe_glob (v := .ref (He.ga K "LoanError")) rfl (mg_LoanError t) rfl) pa_nil))) (pa_cons (pe_callB (call_isD (exc_of t hw) hz hf) (by rfl) (no_isinstance t) (by decide +kernel) (pa_cons (pv 0) (pa_cons (pe_glob (v := .ref (He.ga K "DeedError")) rfl (mg_DeedError t) rfl) pa_nil))) (pa_cons (pe_callB (call_isD (exc_of t hw) hz hf) (by rfl) (no_isinstance t) (by decide +kernel) (pa_cons (pv 0) (pa_cons (pe_glob (v := .ref (He.ga K "RowError")) rfl (mg_RowError t) rfl) pa_nil))) pa_nil))))))
      (pss_one (ps_ret (pv 1)))), ?_⟩
    refine ⟨_, rfl, _, _, _, rfl, fun _ z => z, kitg_SenderError t hw, hd, ?_⟩
    refine ⟨_, rfl, _, _, _, rfl, fun _ z => z, kitg_LoanError t hw, hd, ?_⟩
    refine ⟨_, rfl, _, _, _, rfl, fun _ z => z, kitg_DeedError t hw, hd, ?_⟩
    refine ⟨_, rfl, _, _, _, rfl, fun _ z => z, kitg_RowError t hw, hd, ?_⟩
    refine ⟨Nat.le_of_ble_eq_true rfl, fun p0 h0 => ?_⟩
    exact ⟨_, rfl, q _ p0 (Evl.Ex.new h0) h0 upd_same⟩
theorem ok__law_fields_first (t : T K mg) : FnEs P w K mg base "_law_fields_first" firstV := by
  refine fn_ofE (fn__law_fields_first t) sc__law_fields_first (fun a cls d vs H Q E h => ?_) (fun cdv A outer s H vs Q p cls d hr hz hf h => ?_)
  · obtain ⟨_, _, _, _, rfl, _⟩ := h
    rfl
  · obtain ⟨a, oe⟩ := p
    obtain ⟨n, one, other, hw, rfl, rfl, hx, q⟩ := h
    have hd := XD.wk hx
    refine ⟨_, (pss_cons (ps_if (pt_val (pe_callB (call_isD (exc_of t hw) hz hf) (by rfl) (no_isinstance t) (by decide +kernel) (pa_cons (pv 0) (pa_cons (pe_glob (v := .ref (He.ga K "NoSuch")) rfl (mg_NoSuch t) rfl) pa_nil))))
      (pss_one (ps_ret (pe_lst (pa_cons (pe_xf (xxf_NoSuch t) (na_NoSuch_name t) hz hf (pv 0)) pa_nil))))
      pss_nil)
      (pss_cons (ps_if (pt_val (pe_callB (call_isD (exc_of t hw) hz hf) (by rfl) (no_isinstance t) (by decide +kernel) (pa_cons (pv 0) (pa_cons (pe_glob (v := .ref (He.ga K "Doubled")) rfl (mg_Doubled t) rfl) pa_nil))))
      (pss_one (ps_ret (pe_lst (pa_cons (pe_xf (xxf_Doubled t) (na_Doubled_name t) hz hf (pv 0)) pa_nil))))
      pss_nil)
      (pss_cons (ps_if (pt_val (pe_callB (call_isD (exc_of t hw) hz hf) (by rfl) (no_isinstance t) (by decide +kernel) (pa_cons (pv 0) (pa_cons (pe_glob (v := .ref (He.ga K "Broken")) rfl (mg_Broken t) rfl) pa_nil))))
      (pss_one (ps_ret (pe_lst (pa_cons (pe_xf (xxf_Broken t) (na_Broken_line t) hz hf (pv 0)) pa_nil))))
      pss_nil)
      (pss_cons (ps_if (pt_val (pe_callB (call_isD (exc_of t hw) hz hf) (by rfl) (no_isinstance t) (by decide +kernel) (pa_cons (pv 0) (pa_cons (pe_glob (v := .ref (He.ga K "Fenced")) rfl (mg_Fenced t) rfl) pa_nil))))
      (pss_one (ps_ret (pe_lst (pa_cons (pe_xf (xxf_Fenced t) (na_Fenced_life t) hz hf (pv 0)) pa_nil))))
      pss_nil)
      (pss_cons (ps_if (pt_val (pe_callB (call_isD (exc_of t hw) hz hf) (by rfl) (no_isinstance t) (by decide +kernel) (pa_cons (pv 0) (pa_cons (pe_glob (v := .ref (He.ga K "Gap")) rfl (mg_Gap t) rfl) pa_nil))))
      (pss_one (ps_ret (pe_lst (pa_cons (pe_xf (xxf_Gap t) (na_Gap_due t) hz hf (pv 0)) pa_nil))))
      pss_nil)
      (pss_cons (ps_if (pt_val (pe_callB (call_isD (exc_of t hw) hz hf) (by rfl) (no_isinstance t) (by decide +kernel) (pa_cons (pv 0) (pa_cons (pe_glob (v := .ref (He.ga K "TooOld")) rfl (mg_TooOld t) rfl) pa_nil))))
      (pss_one (ps_ret (pe_lst (pa_cons (pe_xf (xxf_TooOld t) (na_TooOld_number t) hz hf (pv 0)) pa_nil))))
      pss_nil)
      (pss_one (ps_ret (pe_lst pa_nil))))))))), ?_⟩
    refine ⟨_, rfl, _, _, _, rfl, fun _ z => z, kit_of t (j := 1) hw (by decide), hd, _, rfl, ite2 (fun c => ?_) (fun c => ?_)⟩
    · obtain rfl : 1 = n := of_decide_eq_true c
      rcases hx with ⟨z, _⟩ | ⟨_, dd, hdd, hh⟩
      · cases z
      refine ⟨_, rfl, rfl, rfl, dd, _, _, hdd, hh, rfl, ?_⟩
      exact ⟨Nat.le_of_ble_eq_true rfl, fun l hl => q _ l (Evl.Ex.new hl) hl upd_same⟩
    have c1 : ¬ 1 = n := fun z => c (decide_eq_true z)
    clear c
    refine ⟨_, rfl, _, _, _, rfl, fun _ z => z, kit_of t (j := 2) hw (by decide), hd, _, rfl, ite2 (fun c => ?_) (fun c => ?_)⟩
    · obtain rfl : 2 = n := of_decide_eq_true c
      rcases hx with ⟨z, _⟩ | ⟨_, dd, hdd, hh⟩
      · cases z
      refine ⟨_, rfl, rfl, rfl, dd, _, _, hdd, hh, rfl, ?_⟩
      exact ⟨Nat.le_of_ble_eq_true rfl, fun l hl => q _ l (Evl.Ex.new hl) hl upd_same⟩
    have c2 : ¬ 2 = n := fun z => c (decide_eq_true z)
    clear c
    refine ⟨_, rfl, _, _, _, rfl, fun _ z => z, kit_of t (j := 3) hw (by decide), hd, _, rfl, ite2 (fun c => ?_) (fun c => ?_)⟩
    · obtain rfl : 3 = n := of_decide_eq_true c
      rcases hx with ⟨z, _⟩ | ⟨_, dd, hdd, hh⟩
      · cases z
      refine ⟨_, rfl, rfl, rfl, dd, _, _, hdd, hh, rfl, ?_⟩
      exact ⟨Nat.le_of_ble_eq_true rfl, fun l hl => q _ l (Evl.Ex.new hl) hl upd_same⟩
    have c3 : ¬ 3 = n := fun z => c (decide_eq_true z)
    clear c
    refine ⟨_, rfl, _, _, _, rfl, fun _ z => z, kit_of t (j := 4) hw (by decide), hd, _, rfl, ite2 (fun c => ?_) (fun c => ?_)⟩
    · obtain rfl : 4 = n := of_decide_eq_true c
      rcases hx with ⟨z, _⟩ | ⟨_, dd, hdd, hh⟩
      · cases z
      refine ⟨_, rfl, rfl, rfl, dd, _, _, hdd, hh, rfl, ?_⟩
      exact ⟨Nat.le_of_ble_eq_true rfl, fun l hl => q _ l (Evl.Ex.new hl) hl upd_same⟩
    have c4 : ¬ 4 = n := fun z => c (decide_eq_true z)
    clear c
    refine ⟨_, rfl, _, _, _, rfl, fun _ z => z, kit_of t (j := 5) hw (by decide), hd, _, rfl, ite2 (fun c => ?_) (fun c => ?_)⟩
    · obtain rfl : 5 = n := of_decide_eq_true c
      rcases hx with ⟨z, _⟩ | ⟨_, dd, hdd, hh⟩
      · cases z
      refine ⟨_, rfl, rfl, rfl, dd, _, _, hdd, hh, rfl, ?_⟩
      exact ⟨Nat.le_of_ble_eq_true rfl, fun l hl => q _ l (Evl.Ex.new hl) hl upd_same⟩
    have c5 : ¬ 5 = n := fun z => c (decide_eq_true z)
    clear c
    refine ⟨_, rfl, _, _, _, rfl, fun _ z => z, kit_of t (j := 6) hw (by decide), hd, _, rfl, ite2 (fun c => ?_) (fun c => ?_)⟩
    · obtain rfl : 6 = n := of_decide_eq_true c
      rcases hx with ⟨z, _⟩ | ⟨_, dd, hdd, hh⟩
      · cases z
      refine ⟨_, rfl, rfl, rfl, dd, _, _, hdd, hh, rfl, ?_⟩
      exact ⟨Nat.le_of_ble_eq_true rfl, fun l hl => q _ l (Evl.Ex.new hl) hl upd_same⟩
    have c6 : ¬ 6 = n := fun z => c (decide_eq_true z)
    clear c
    refine ⟨Nat.le_of_ble_eq_true rfl, fun l hl => q _ l (Evl.Ex.new hl) hl ?_⟩
    rw [upd_same]
    have e : firstV n one other = [] := by
      unfold firstV
      split
      · obtain rfl : n = 0 := by omega
        rfl
      · rfl
    rw [e]
theorem ok__law_fields_more (t : T K mg) : FnEs P w K mg base "_law_fields_more" moreV := by
  refine fn_ofE (fn__law_fields_more t) sc__law_fields_more (fun a cls d vs H Q E h => ?_) (fun cdv A outer s H vs Q p cls d hr hz hf h => ?_)
  · obtain ⟨_, _, _, _, rfl, _⟩ := h
    rfl
  · obtain ⟨a, oe⟩ := p
    obtain ⟨n, one, other, hw, rfl, rfl, hx, q⟩ := h
    have hd := XD.wk hx
    refine ⟨_, (pss_cons (ps_if (pt_val (pe_callB (call_isD (exc_of t hw) hz hf) (by rfl) (no_isinstance t) (by decide +kernel) (pa_cons (pv 0) (pa_cons (pe_glob (v := .ref (He.ga K "Late")) rfl (mg_Late t) rfl) pa_nil))))
      (pss_one (ps_ret (pe_lst (pa_cons (pe_xf (xxf_Late t) (na_Late_row t) hz hf (pv 0)) (pa_cons (pe_xf (xxf_Late t) (na_Late_loan t) hz hf (pv 0)) pa_nil)))))
      pss_nil)
      (pss_cons (ps_if (pt_val (pe_callB (call_isD (exc_of t hw) hz hf) (by rfl) (no_isinstance t) (by decide +kernel) (pa_cons (pv 0) (pa_cons (pe_glob (v := .ref (He.ga K "NotYours")) rfl (mg_NotYours t) rfl) pa_nil))))
      (pss_one (ps_ret (pe_lst (pa_cons (pe_xf (xxf_NotYours t) (na_NotYours_row t) hz hf (pv 0)) (pa_cons (pe_xf (xxf_NotYours t) (na_NotYours_owner t) hz hf (pv 0)) pa_nil)))))
      pss_nil)
      (pss_cons (ps_if (pt_val (pe_callB (call_isD (exc_of t hw) hz hf) (by rfl) (no_isinstance t) (by decide +kernel) (pa_cons (pv 0) (pa_cons (pe_glob (v := .ref (He.ga K "Twice")) rfl (mg_Twice t) rfl) pa_nil))))
      (pss_one (ps_ret (pe_lst (pa_cons (pe_xf (xxf_Twice t) (na_Twice_row t) hz hf (pv 0)) (pa_cons (pe_xf (xxf_Twice t) (na_Twice_loan t) hz hf (pv 0)) pa_nil)))))
      pss_nil)
      (pss_cons (ps_if (pt_val (pe_callB (call_isD (exc_of t hw) hz hf) (by rfl) (no_isinstance t) (by decide +kernel) (pa_cons (pv 0) (pa_cons (pe_glob (v := .ref (He.ga K "Busy")) rfl (mg_Busy t) rfl) pa_nil))))
      (pss_one (ps_ret (pe_lst (pa_cons (pe_xf (xxf_Busy t) (na_Busy_deed t) hz hf (pv 0)) pa_nil))))
      pss_nil)
      (pss_cons (ps_if (pt_val (pe_callB (call_isD (exc_of t hw) hz hf) (by rfl) (no_isinstance t) (by decide +kernel) (pa_cons (pv 0) (pa_cons (pe_glob (v := .ref (He.ga K "NoDeed")) rfl (mg_NoDeed t) rfl) pa_nil))))
      (pss_one (ps_ret (pe_lst (pa_cons (pe_xf (xxf_NoDeed t) (na_NoDeed_name t) hz hf (pv 0)) pa_nil))))
      pss_nil)
      (pss_cons (ps_if (pt_val (pe_callB (call_isD (exc_of t hw) hz hf) (by rfl) (no_isinstance t) (by decide +kernel) (pa_cons (pv 0) (pa_cons (pe_glob (v := .ref (He.ga K "WrongKind")) rfl (mg_WrongKind t) rfl) pa_nil))))
      (pss_one (ps_ret (pe_lst (pa_cons (pe_xf (xxf_WrongKind t) (na_WrongKind_row t) hz hf (pv 0)) pa_nil))))
      pss_nil)
      (pss_cons (ps_if (pt_val (pe_callB (call_isD (exc_of t hw) hz hf) (by rfl) (no_isinstance t) (by decide +kernel) (pa_cons (pv 0) (pa_cons (pe_glob (v := .ref (He.ga K "Needed")) rfl (mg_Needed t) rfl) pa_nil))))
      (pss_one (ps_ret (pe_lst (pa_cons (pe_xf (xxf_Needed t) (na_Needed_row t) hz hf (pv 0)) (pa_cons (pe_xf (xxf_Needed t) (na_Needed_place t) hz hf (pv 0)) pa_nil)))))
      pss_nil)
      (pss_cons (ps_if (pt_val (pe_callB (call_isD (exc_of t hw) hz hf) (by rfl) (no_isinstance t) (by decide +kernel) (pa_cons (pv 0) (pa_cons (pe_glob (v := .ref (He.ga K "Gone")) rfl (mg_Gone t) rfl) pa_nil))))
      (pss_one (ps_ret (pe_lst (pa_cons (pe_xf (xxf_Gone t) (na_Gone_row t) hz hf (pv 0)) (pa_cons (pe_xf (xxf_Gone t) (na_Gone_place t) hz hf (pv 0)) pa_nil)))))
      pss_nil)
      (pss_cons (ps_if (pt_val (pe_callB (call_isD (exc_of t hw) hz hf) (by rfl) (no_isinstance t) (by decide +kernel) (pa_cons (pv 0) (pa_cons (pe_glob (v := .ref (He.ga K "Beyond")) rfl (mg_Beyond t) rfl) pa_nil))))
      (pss_one (ps_ret (pe_lst (pa_cons (pe_xf (xxf_Beyond t) (na_Beyond_row t) hz hf (pv 0)) (pa_cons (pe_xf (xxf_Beyond t) (na_Beyond_place t) hz hf (pv 0)) pa_nil)))))
      pss_nil)
      (pss_one (ps_ret (pe_lst pa_nil)))))))))))), ?_⟩
    refine ⟨_, rfl, _, _, _, rfl, fun _ z => z, kit_of t (j := 7) hw (by decide), hd, _, rfl, ite2 (fun c => ?_) (fun c => ?_)⟩
    · obtain rfl : 7 = n := of_decide_eq_true c
      rcases hx with ⟨z, _⟩ | ⟨_, dd, hdd, hh⟩
      · cases z
      refine ⟨_, rfl, rfl, rfl, dd, _, _, hdd, hh, rfl, ?_⟩
      refine ⟨_, rfl, rfl, rfl, dd, _, _, hdd, hh, rfl, ?_⟩
      exact ⟨Nat.le_of_ble_eq_true rfl, fun l hl => q _ l (Evl.Ex.new hl) hl upd_same⟩
    have c7 : ¬ 7 = n := fun z => c (decide_eq_true z)
    clear c
    refine ⟨_, rfl, _, _, _, rfl, fun _ z => z, kit_of t (j := 8) hw (by decide), hd, _, rfl, ite2 (fun c => ?_) (fun c => ?_)⟩
    · obtain rfl : 8 = n := of_decide_eq_true c
      rcases hx with ⟨z, _⟩ | ⟨_, dd, hdd, hh⟩
      · cases z
      refine ⟨_, rfl, rfl, rfl, dd, _, _, hdd, hh, rfl, ?_⟩
      refine ⟨_, rfl, rfl, rfl, dd, _, _, hdd, hh, rfl, ?_⟩
      exact ⟨Nat.le_of_ble_eq_true rfl, fun l hl => q _ l (Evl.Ex.new hl) hl upd_same⟩
    have c8 : ¬ 8 = n := fun z => c (decide_eq_true z)
    clear c
    refine ⟨_, rfl, _, _, _, rfl, fun _ z => z, kit_of t (j := 9) hw (by decide), hd, _, rfl, ite2 (fun c => ?_) (fun c => ?_)⟩
    · obtain rfl : 9 = n := of_decide_eq_true c
      rcases hx with ⟨z, _⟩ | ⟨_, dd, hdd, hh⟩
      · cases z
      refine ⟨_, rfl, rfl, rfl, dd, _, _, hdd, hh, rfl, ?_⟩
      refine ⟨_, rfl, rfl, rfl, dd, _, _, hdd, hh, rfl, ?_⟩
      exact ⟨Nat.le_of_ble_eq_true rfl, fun l hl => q _ l (Evl.Ex.new hl) hl upd_same⟩
    have c9 : ¬ 9 = n := fun z => c (decide_eq_true z)
    clear c
    refine ⟨_, rfl, _, _, _, rfl, fun _ z => z, kit_of t (j := 10) hw (by decide), hd, _, rfl, ite2 (fun c => ?_) (fun c => ?_)⟩
    · obtain rfl : 10 = n := of_decide_eq_true c
      rcases hx with ⟨z, _⟩ | ⟨_, dd, hdd, hh⟩
      · cases z
      refine ⟨_, rfl, rfl, rfl, dd, _, _, hdd, hh, rfl, ?_⟩
      exact ⟨Nat.le_of_ble_eq_true rfl, fun l hl => q _ l (Evl.Ex.new hl) hl upd_same⟩
    have c10 : ¬ 10 = n := fun z => c (decide_eq_true z)
    clear c
    refine ⟨_, rfl, _, _, _, rfl, fun _ z => z, kit_of t (j := 11) hw (by decide), hd, _, rfl, ite2 (fun c => ?_) (fun c => ?_)⟩
    · obtain rfl : 11 = n := of_decide_eq_true c
      rcases hx with ⟨z, _⟩ | ⟨_, dd, hdd, hh⟩
      · cases z
      refine ⟨_, rfl, rfl, rfl, dd, _, _, hdd, hh, rfl, ?_⟩
      exact ⟨Nat.le_of_ble_eq_true rfl, fun l hl => q _ l (Evl.Ex.new hl) hl upd_same⟩
    have c11 : ¬ 11 = n := fun z => c (decide_eq_true z)
    clear c
    refine ⟨_, rfl, _, _, _, rfl, fun _ z => z, kit_of t (j := 12) hw (by decide), hd, _, rfl, ite2 (fun c => ?_) (fun c => ?_)⟩
    · obtain rfl : 12 = n := of_decide_eq_true c
      rcases hx with ⟨z, _⟩ | ⟨_, dd, hdd, hh⟩
      · cases z
      refine ⟨_, rfl, rfl, rfl, dd, _, _, hdd, hh, rfl, ?_⟩
      exact ⟨Nat.le_of_ble_eq_true rfl, fun l hl => q _ l (Evl.Ex.new hl) hl upd_same⟩
    have c12 : ¬ 12 = n := fun z => c (decide_eq_true z)
    clear c
    refine ⟨_, rfl, _, _, _, rfl, fun _ z => z, kit_of t (j := 13) hw (by decide), hd, _, rfl, ite2 (fun c => ?_) (fun c => ?_)⟩
    · obtain rfl : 13 = n := of_decide_eq_true c
      rcases hx with ⟨z, _⟩ | ⟨_, dd, hdd, hh⟩
      · cases z
      refine ⟨_, rfl, rfl, rfl, dd, _, _, hdd, hh, rfl, ?_⟩
      refine ⟨_, rfl, rfl, rfl, dd, _, _, hdd, hh, rfl, ?_⟩
      exact ⟨Nat.le_of_ble_eq_true rfl, fun l hl => q _ l (Evl.Ex.new hl) hl upd_same⟩
    have c13 : ¬ 13 = n := fun z => c (decide_eq_true z)
    clear c
    refine ⟨_, rfl, _, _, _, rfl, fun _ z => z, kit_of t (j := 14) hw (by decide), hd, _, rfl, ite2 (fun c => ?_) (fun c => ?_)⟩
    · obtain rfl : 14 = n := of_decide_eq_true c
      rcases hx with ⟨z, _⟩ | ⟨_, dd, hdd, hh⟩
      · cases z
      refine ⟨_, rfl, rfl, rfl, dd, _, _, hdd, hh, rfl, ?_⟩
      refine ⟨_, rfl, rfl, rfl, dd, _, _, hdd, hh, rfl, ?_⟩
      exact ⟨Nat.le_of_ble_eq_true rfl, fun l hl => q _ l (Evl.Ex.new hl) hl upd_same⟩
    have c14 : ¬ 14 = n := fun z => c (decide_eq_true z)
    clear c
    refine ⟨_, rfl, _, _, _, rfl, fun _ z => z, kit_of t (j := 15) hw (by decide), hd, _, rfl, ite2 (fun c => ?_) (fun c => ?_)⟩
    · obtain rfl : 15 = n := of_decide_eq_true c
      rcases hx with ⟨z, _⟩ | ⟨_, dd, hdd, hh⟩
      · cases z
      refine ⟨_, rfl, rfl, rfl, dd, _, _, hdd, hh, rfl, ?_⟩
      refine ⟨_, rfl, rfl, rfl, dd, _, _, hdd, hh, rfl, ?_⟩
      exact ⟨Nat.le_of_ble_eq_true rfl, fun l hl => q _ l (Evl.Ex.new hl) hl upd_same⟩
    have c15 : ¬ 15 = n := fun z => c (decide_eq_true z)
    clear c
    refine ⟨Nat.le_of_ble_eq_true rfl, fun l hl => q _ l (Evl.Ex.new hl) hl ?_⟩
    rw [upd_same]
    have e : moreV n one other = [] := by
      unfold moreV
      rw [if_pos (by omega)]
    rw [e]
end
end K06

set_option Elab.async false
set_option linter.all false
set_option maxRecDepth 100000
set_option maxHeartbeats 4000000
namespace K06
open PySem PySem.Spec PyProof.Rows L2 LX
section
variable {P : Program} {w : World} {K : PySem.W.Frag} {mg : Str → Option Value} {base : Heap}
def sp_due (K : PySem.W.Frag) : Sp := fun vs H Q _ => ∃ (n : Nat) (one other : V), n < 16 ∧ vs = [.int n, one, other] ∧ ∀ H' l, Evl.Ex H H' → H l = none → H' l = some (.lst (dueFs one other n)) → Q (.ref l) H'
def two (n : Nat) : Bool := decide (n = 7 ∨ n = 8 ∨ n = 9 ∨ n = 13 ∨ n = 14 ∨ n = 15)
theorem in_two {n : Nat} (h : n < 16) : inV (.int n) [.int 7, .int 8, .int 9, .int 13, .int 14, .int 15] = two n := match n, h with
  | 0, _ => by decide
  | 1, _ => by decide
  | 2, _ => by decide
  | 3, _ => by decide
  | 4, _ => by decide
  | 5, _ => by decide
  | 6, _ => by decide
  | 7, _ => by decide
  | 8, _ => by decide
  | 9, _ => by decide
  | 10, _ => by decide
  | 11, _ => by decide
  | 12, _ => by decide
  | 13, _ => by decide
  | 14, _ => by decide
  | 15, _ => by decide
  | _ + 16, h => absurd h (by omega)
theorem due_two {n : Nat} {one other : V} (h : n < 16) (h0 : n ≠ 0) (c : two n = true) : dueFs one other n = [one, other] := match n, h, h0, c with
  | 0, _, z, _ => absurd rfl z
  | 1, _, _, z => by cases z
  | 2, _, _, z => by cases z
  | 3, _, _, z => by cases z
  | 4, _, _, z => by cases z
  | 5, _, _, z => by cases z
  | 6, _, _, z => by cases z
  | 7, _, _, _ => rfl
  | 8, _, _, _ => rfl
  | 9, _, _, _ => rfl
  | 10, _, _, z => by cases z
  | 11, _, _, z => by cases z
  | 12, _, _, z => by cases z
  | 13, _, _, _ => rfl
  | 14, _, _, _ => rfl
  | 15, _, _, _ => rfl
  | _ + 16, h, _, _ => absurd h (by omega)
theorem due_one {n : Nat} {one other : V} (h : n < 16) (h0 : n ≠ 0) (c : ¬ two n = true) : dueFs one other n = [one] := match n, h, h0, c with
  | 0, _, z, _ => absurd rfl z
  | 1, _, _, _ => rfl
  | 2, _, _, _ => rfl
  | 3, _, _, _ => rfl
  | 4, _, _, _ => rfl
  | 5, _, _, _ => rfl
  | 6, _, _, _ => rfl
  | 7, _, _, z => absurd rfl z
  | 8, _, _, z => absurd rfl z
  | 9, _, _, z => absurd rfl z
  | 10, _, _, _ => rfl
  | 11, _, _, _ => rfl
  | 12, _, _, _ => rfl
  | 13, _, _, z => absurd rfl z
  | 14, _, _, z => absurd rfl z
  | 15, _, _, z => absurd rfl z
  | _ + 16, h, _, _ => absurd h (by omega)
theorem ok__law_due_fields (t : T K mg) : FnOk P w K mg base (L2.CX P w) 1 (He.fAd K ("_law_due_fields", none)) (fdOf K ("_law_due_fields", none)) ["_law_which", "_law_one", "_law_other"] (sp_due K) := by
  refine (fn__law_due_fields t).ok sc__law_due_fields (fun vs H Q E h => ?_) (fun cdv A outer s H vs Q E hr h => ?_)
  · obtain ⟨n, one, other, _, rfl, _⟩ := h
    rfl
  · obtain ⟨n, one, other, hn, rfl, q⟩ := h
    refine ⟨_, (pss_cons (ps_if (pt_cmpR op_eq (pv 0) pe_int (nomark _))
      (pss_one (ps_ret (pe_lst pa_nil)))
      pss_nil)
      (pss_cons (ps_if (pt_cmpR op_in_seq (pv 0) (pe_tup (pa_cons pe_int (pa_cons pe_int (pa_cons pe_int (pa_cons pe_int (pa_cons pe_int (pa_cons pe_int pa_nil))))))) (by rfl))
      (pss_one (ps_ret (pe_lst (pa_cons (pv 1) (pa_cons (pv 2) pa_nil)))))
      pss_nil)
      (pss_one (ps_ret (pe_lst (pa_cons (pv 1) pa_nil)))))), ?_⟩
    refine ⟨_, rfl, rfl, _, rfl, ite2 (fun c => ?_) (fun c => ?_)⟩
    · obtain rfl : n = 0 := by have := eqi c; omega
      exact ⟨Nat.le_of_ble_eq_true rfl, fun l hl => q _ l (Evl.Ex.new hl) hl upd_same⟩
    have c0 : n ≠ 0 := by have := nei c; omega
    refine ⟨_, rfl, Nat.le_of_ble_eq_true rfl, fun p hp => ?_⟩
    have e1 := Evl.Ex.new (H := H) (p := p) (o := .tup [.int 7, .int 8, .int 9, .int 13, .int 14, .int 15]) hp
    refine ⟨p, _, rfl, .inr (SqT.of upd_same), rfl, rfl, _, rfl, ite2 (fun c => ?_) (fun c => ?_)⟩
    · have c2 : two n = true := by
        rw [← in_two hn]
        exact c
      refine ⟨_, rfl, _, rfl, Nat.le_of_ble_eq_true rfl, fun l hl => q _ l (e1.trans (Evl.Ex.new hl)) (Evl.fresh_back e1 hl) ?_⟩
      rw [upd_same, due_two hn c0 c2]
    · have c2 : ¬ two n = true := by
        rw [← in_two hn]
        exact c
      refine ⟨_, rfl, Nat.le_of_ble_eq_true rfl, fun l hl => q _ l (e1.trans (Evl.Ex.new hl)) (Evl.fresh_back e1 hl) ?_⟩
      rw [upd_same, due_one hn c0 c2]
end
end K06

set_option Elab.async false
set_option linter.all false
set_option maxRecDepth 100000
set_option maxHeartbeats 4000000
namespace K06
open PySem PySem.Spec PyProof.Rows L2 LX
section
variable {P : Program} {w : World} {K : PySem.W.Frag} {mg : Str → Option Value} {base : Heap}
def spLaw (K : PySem.W.Frag) : Sp := fun vs H Q _ => ∃ (a : Addr) (ns : List Int), vs = [.ref a] ∧ SqL K H a (ns.map V.int) ∧ ∀ H', Q (.bl true) H'
theorem strOk_of (z : String) : PyData.strOk (Str.ofString z) = true := by
  rw [Str.ofString_eq_toList]
  unfold PyData.strOk
  rw [Array.all_eq_true_iff_forall_mem]
  intro x hx
  rw [List.mem_toArray, List.mem_map] at hx
  obtain ⟨c, _, rfl⟩ := hx
  have h := c.valid
  rcases h with h | ⟨_, h⟩
  · exact decide_eq_true (Nat.lt_trans h (by decide))
  · exact decide_eq_true h
theorem strOk_app {a b : Str} (h1 : PyData.strOk a = true) (h2 : PyData.strOk b = true) : PyData.strOk (a ++ b) = true := by
  unfold PyData.strOk at *
  have e : (a ++ b).cps = a.cps ++ b.cps := rfl
  rw [e, Array.all_append, h1, h2]
  rfl
/-- a field's value -/
def FieldV (v : V) : Prop := (∃ i, v = .int i) ∨ ∃ z, v = .str z ∧ PyData.strOk z = true
theorem field_ok (c k : Int) : FieldV (field c k) := by
  unfold field
  split
  · exact Or.inr ⟨_, rfl, strOk_app (by decide +kernel) (strOk_of _)⟩
  · exact Or.inl ⟨_, rfl⟩
def dV : V → PyData
  | .int i => .int i
  | .str z => .str z
  | .bl b => .bool b
  | _ => .none
def Flat (v : V) : Prop := FieldV v ∨ ∃ b, v = .bl b
theorem dp_flat {K : PySem.W.Frag} {H : Hp} {v : V} (h : Flat v) : Dp K H v (dV v) := by
  rcases h with (⟨i, rfl⟩ | ⟨z, rfl, _⟩) | ⟨b, rfl⟩
  · exact .int i
  · exact .str z
  · exact .bl b
theorem lay_flat {v : V} (h : Flat v) : (dV v).canLay0 = true ∧ (dV v).depth = 0 := by
  rcases h with (⟨i, rfl⟩ | ⟨z, rfl, hz⟩) | ⟨b, rfl⟩
  · exact ⟨rfl, rfl⟩
  · exact ⟨hz, rfl⟩
  · exact ⟨rfl, rfl⟩
theorem all_flat {K : PySem.W.Frag} {H : Hp} : ∀ {xs : List V}, (∀ v ∈ xs, Flat v) → DpAll K H xs (xs.map dV) ∧ PyData.canLayAll0 (xs.map dV) = true ∧ PyData.depthAll (xs.map dV) = 0
  | [], _ => ⟨.nil, rfl, rfl⟩
  | v :: xs, h => by
    obtain ⟨a, b, c⟩ := all_flat (K := K) (H := H) (xs := xs) fun u hu => h u (List.mem_cons_of_mem _ hu)
    obtain ⟨d, e⟩ := lay_flat (h v List.mem_cons_self)
    refine ⟨.cons (dp_flat (h v List.mem_cons_self)) a, ?_, ?_⟩
    · show ((dV v).canLay0 && PyData.canLayAll0 (xs.map dV)) = true
      rw [d, b]
      rfl
    · show max (dV v).depth (PyData.depthAll (xs.map dV)) = 0
      rw [e, c]
      rfl
theorem kinds_flat (n : Nat) : ∀ v ∈ kindsV n, Flat v := fun v hv => by
  obtain ⟨j, _, rfl⟩ := List.mem_map.mp hv
  exact Or.inr ⟨_, rfl⟩
theorem gath_flat (n : Nat) : ∀ v ∈ gathV n, Flat v := fun v hv => by
  obtain ⟨j, _, rfl⟩ := List.mem_map.mp hv
  exact Or.inr ⟨_, rfl⟩
theorem due_flat {one other : V} (h1 : FieldV one) (h2 : FieldV other) {n : Nat} (h : n < 16) : ∀ v ∈ dueFs one other n, Flat v := by
  have key : dueFs one other n = [] ∨ dueFs one other n = [one] ∨ dueFs one other n = [one, other] := match n, h with
    | 0, _ => Or.inl rfl
    | 1, _ => Or.inr (Or.inl rfl)
    | 2, _ => Or.inr (Or.inl rfl)
    | 3, _ => Or.inr (Or.inl rfl)
    | 4, _ => Or.inr (Or.inl rfl)
    | 5, _ => Or.inr (Or.inl rfl)
    | 6, _ => Or.inr (Or.inl rfl)
    | 7, _ => Or.inr (Or.inr rfl)
    | 8, _ => Or.inr (Or.inr rfl)
    | 9, _ => Or.inr (Or.inr rfl)
    | 10, _ => Or.inr (Or.inl rfl)
    | 11, _ => Or.inr (Or.inl rfl)
    | 12, _ => Or.inr (Or.inl rfl)
    | 13, _ => Or.inr (Or.inr rfl)
    | 14, _ => Or.inr (Or.inr rfl)
    | 15, _ => Or.inr (Or.inr rfl)
    | _ + 16, h => absurd h (by omega)
  intro v hv
  rcases key with e | e | e <;> rw [e] at hv
  · cases hv
  · rw [List.mem_singleton] at hv
    rw [hv]
    exact Or.inl h1
  · rcases List.mem_cons.mp hv with e | hv
    · rw [e]
      exact Or.inl h1
    · rw [List.mem_singleton] at hv
      rw [hv]
      exact Or.inl h2
theorem fm (one other : V) {n : Nat} : firstV n one other ++ moreV n one other = dueFs one other n := by
  unfold firstV moreV
  split
  · rw [List.append_nil]
  · rfl
theorem lenFM (one other : V) (n : Nat) : (firstV n one other).length + (moreV n one other).length ≤ sizeLine := by
  have h : (dueFs one other n).length ≤ 2 := by
    unfold dueFs
    split <;> first | exact Nat.le_of_ble_eq_true rfl
  have e := congrArg List.length (fm one other (n := n))
  rw [List.length_append] at e
  rw [e]
  exact Nat.le_of_lt (small1000 (by omega))
theorem in_g0 {n : Nat} (h : n < 16) : inV (.int n) [.int 4, .int 5, .int 6] = isG 0 n := match n, h with
  | 0, _ => by decide
  | 1, _ => by decide
  | 2, _ => by decide
  | 3, _ => by decide
  | 4, _ => by decide
  | 5, _ => by decide
  | 6, _ => by decide
  | 7, _ => by decide
  | 8, _ => by decide
  | 9, _ => by decide
  | 10, _ => by decide
  | 11, _ => by decide
  | 12, _ => by decide
  | 13, _ => by decide
  | 14, _ => by decide
  | 15, _ => by decide
  | _ + 16, h => absurd h (by omega)
theorem in_g1 {n : Nat} (h : n < 16) : inV (.int n) [.int 7, .int 8, .int 9] = isG 1 n := match n, h with
  | 0, _ => by decide
  | 1, _ => by decide
  | 2, _ => by decide
  | 3, _ => by decide
  | 4, _ => by decide
  | 5, _ => by decide
  | 6, _ => by decide
  | 7, _ => by decide
  | 8, _ => by decide
  | 9, _ => by decide
  | 10, _ => by decide
  | 11, _ => by decide
  | 12, _ => by decide
  | 13, _ => by decide
  | 14, _ => by decide
  | 15, _ => by decide
  | _ + 16, h => absurd h (by omega)
theorem in_g2 {n : Nat} (h : n < 16) : inV (.int n) [.int 10, .int 11] = isG 2 n := match n, h with
  | 0, _ => by decide
  | 1, _ => by decide
  | 2, _ => by decide
  | 3, _ => by decide
  | 4, _ => by decide
  | 5, _ => by decide
  | 6, _ => by decide
  | 7, _ => by decide
  | 8, _ => by decide
  | 9, _ => by decide
  | 10, _ => by decide
  | 11, _ => by decide
  | 12, _ => by decide
  | 13, _ => by decide
  | 14, _ => by decide
  | 15, _ => by decide
  | _ + 16, h => absurd h (by omega)
theorem in_g3 {n : Nat} (h : n < 16) : inV (.int n) [.int 12, .int 13, .int 14, .int 15] = isG 3 n := match n, h with
  | 0, _ => by decide
  | 1, _ => by decide
  | 2, _ => by decide
  | 3, _ => by decide
  | 4, _ => by decide
  | 5, _ => by decide
  | 6, _ => by decide
  | 7, _ => by decide
  | 8, _ => by decide
  | 9, _ => by decide
  | 10, _ => by decide
  | 11, _ => by decide
  | 12, _ => by decide
  | 13, _ => by decide
  | 14, _ => by decide
  | 15, _ => by decide
  | _ + 16, h => absurd h (by omega)
def allD (one other : V) (n : Nat) : PyData := .tuple [.list ((kindsV n).map dV), .list ((gathV n).map dV), .list ((dueFs one other n).map dV), .bool true]
theorem allD_ok {K : PySem.W.Frag} {H : Hp} {one other : V} (h1 : FieldV one) (h2 : FieldV other) {n : Nat} (h : n < 16) {a b c p : Addr} (ha : H a = some (.lst (kindsV n))) (hb : H b = some (.lst (gathV n))) (hc : H c = some (.lst (dueFs one other n)))
    (hp : H p = some (.tup [.ref a, .ref b, .ref c, .bl true])) : Dp K H (.ref p) (allD one other n) :=
  .tup (SqT.of hp) (.cons (.lst (SqL.of ha) (all_flat (kinds_flat n)).1) (.cons (.lst (SqL.of hb) (all_flat (gath_flat n)).1) (.cons (.lst (SqL.of hc) (all_flat (due_flat h1 h2 h)).1) (.cons (.bl true) .nil))))
theorem allD_shaped (K : PySem.W.Frag) (H : Hp) {one other : V} (h1 : FieldV one) (h2 : FieldV other) {n : Nat} (h : n < 16) : SeqAt.shaped (allD one other n) = true := by
  have k := all_flat (K := K) (H := H) (kinds_flat n)
  have g := all_flat (K := K) (H := H) (gath_flat n)
  have d := all_flat (K := K) (H := H) (due_flat h1 h2 h)
  unfold SeqAt.shaped
  have e1 : (allD one other n).canLay0 = true := by
    show (PyData.canLayAll0 ((kindsV n).map dV) && (PyData.canLayAll0 ((gathV n).map dV) && (PyData.canLayAll0 ((dueFs one other n).map dV) && (true && true)))) = true
    rw [k.2.1, g.2.1, d.2.1]
    rfl
  have e2 : (allD one other n).depth = 2 := by
    show max (PyData.depthAll ((kindsV n).map dV) + 1) (max (PyData.depthAll ((gathV n).map dV) + 1) (max (PyData.depthAll ((dueFs one other n).map dV) + 1) (max 0 0))) + 1 = 2
    rw [k.2.2, g.2.2, d.2.2]
    rfl
  rw [e1, e2]
  rfl
theorem law_pre {H : Hp} {a : Addr} {ns : List Int} (hl : ns.length ≤ 63) (hS : SqL K H a (ns.map V.int)) : spLaw K [.ref a] H (fun v _ => v = .bl true) E0 := ⟨a, ns, rfl, hS, fun _ => rfl⟩
theorem ok_law (t : T K mg) : FnOk P w K mg base (L2.CX P w) 4 (He.fAd K ("law", none)) (fdOf K ("law", none)) ["_law_script"] (spLaw K) := by
  refine (fn_law t).ok sc_law (fun vs H Q E h => ?_) (fun cdv A outer s H vs Q E hr h => ?_)
  · obtain ⟨a, ns, rfl, _⟩ := h
    rfl
  · obtain ⟨a, ns, rfl, hS, q⟩ := h
    have G__law_cell_at := ok__law_cell_at (P := P) (w := w) (base := base) t
    have G__law_mixed := ok__law_mixed (P := P) (w := w) (base := base) t
    have G__law_field := ok__law_field (P := P) (w := w) (base := base) t
    have G__law_raise_first := ok__law_raise_first (P := P) (w := w) (base := base) t
    have G__law_raise_more := ok__law_raise_more (P := P) (w := w) (base := base) t
    have G__law_fields_first := ok__law_fields_first (P := P) (w := w) (base := base) t
    have G__law_fields_more := ok__law_fields_more (P := P) (w := w) (base := base) t
    have G__law_kinds := ok__law_kinds (P := P) (w := w) (base := base) t
    have G__law_gathered := ok__law_gathered (P := P) (w := w) (base := base) t
    have G__law_due_fields := ok__law_due_fields (P := P) (w := w) (base := base) t
    refine ⟨_, (pss_cons (ps_for (passes_of rfl) rfl (pi_range1 (by rfl) (no_range t) (pa_cons pe_int pa_nil)) (pg_name (i := 1) sc_law.nd rfl (Or.inl rfl))
      (pss_cons (ps_set (i := 2) sc_law.nd rfl (Or.inl rfl) (pe_call G__law_cell_at (hr.mono (by decide)) rfl (mg__law_cell_at t) (kp__law_cell_at t) (b__law_cell_at t) .nil (passes_call (takes_of rfl rfl rfl rfl) fun _ _ _ _ z => z) (pa_cons (pv 0) (pa_cons (pv 1) pa_nil))))
      (pss_cons (ps_set (i := 3) sc_law.nd rfl (Or.inr rfl) (pe_op op_mod (pe_call G__law_mixed (hr.mono (by decide)) rfl (mg__law_mixed t) (kp__law_mixed t) (b__law_mixed t) .nil (passes_call (takes_of rfl rfl rfl rfl) fun _ _ _ _ z => z) (pa_cons (pv 2) (pa_cons (pv 1) pa_nil))) pe_int))
      (pss_cons (ps_set (i := 4) sc_law.nd rfl (Or.inl rfl) (pe_call G__law_field (hr.mono (by decide)) rfl (mg__law_field t) (kp__law_field t) (b__law_field t) .nil (passes_call (takes_of rfl rfl rfl rfl) fun _ _ _ _ z => z) (pa_cons (pv 2) (pa_cons pe_int pa_nil))))
      (pss_cons (ps_set (i := 5) sc_law.nd rfl (Or.inl rfl) (pe_call G__law_field (hr.mono (by decide)) rfl (mg__law_field t) (kp__law_field t) (b__law_field t) .nil (passes_call (takes_of rfl rfl rfl rfl) fun _ _ _ _ z => z) (pa_cons (pv 2) (pa_cons pe_int pa_nil))))
      (pss_cons (ps_set (i := 6) sc_law.nd rfl (Or.inl rfl) pe_non)
      (pss_cons (ps_try_as (i := 7) rfl rfl sc_law.nd rfl rfl ⟨rfl, by decide, .inl (mg_CellarError t)⟩ (takes_of rfl rfl rfl rfl) (fun W pn xe tkW _ => (pss_cons (ps_expr (pe_callS G__law_raise_first (hr.mono (by decide)) rfl (mg__law_raise_first t) (kp__law_raise_first t) (b__law_raise_first t) (fun σ => passAt tkW σ) (pa_cons (pv 3) (pa_cons (pv 4) pa_nil))))
      (pss_one (ps_expr (pe_callS G__law_raise_more (hr.mono (by decide)) rfl (mg__law_raise_more t) (kp__law_raise_more t) (b__law_raise_more t) (fun σ => passAt tkW σ) (pa_cons (pv 3) (pa_cons (pv 4) (pa_cons (pv 5) pa_nil)))))))) (fun a oe cls d pn hz hf => (pss_cons (ps_set (i := 8) sc_law.nd rfl (Or.inl rfl) (pe_op op_cat (pe_callE hz hf G__law_fields_first ((L2H.roomH_mark hr _).mono (by decide)) rfl rfl (mg__law_fields_first t) (kp__law_fields_first t) (b__law_fields_first t) (pa_cons (pv 7) pa_nil)) (pe_callE hz hf G__law_fields_more ((L2H.roomH_mark hr _).mono (by decide)) rfl rfl (mg__law_fields_more t) (kp__law_fields_more t) (b__law_fields_more t) (pa_cons (pv 7) pa_nil))))
      (pss_one (ps_set (i := 6) sc_law.nd rfl (Or.inl rfl) (pe_tup (pa_cons (pe_callE hz hf G__law_kinds ((L2H.roomH_mark hr _).mono (by decide)) rfl rfl (mg__law_kinds t) (kp__law_kinds t) (b__law_kinds t) (pa_cons (pv 7) pa_nil)) (pa_cons (pe_callE hz hf G__law_gathered ((L2H.roomH_mark hr _).mono (by decide)) rfl rfl (mg__law_gathered t) (kp__law_gathered t) (b__law_gathered t) (pa_cons (pv 7) pa_nil)) (pa_cons (pv 8) (pa_cons (pe_given (p := fun n => n < 16 ∧ cls = .ref (He.ga K (xname n))) fun n hp => (pe_callB (call_isD (exc_of t hp.1) (hp.2 ▸ hz) hf) (by rfl) (no_isinstance t) (by decide +kernel) (pa_cons (pv 7) (pa_cons (pe_bltn (v := .ty "ValueError") rfl (no_ValueError t) (by decide +kernel) rfl) pa_nil)))) pa_nil))))))))))
      (pss_cons (ps_setLc (i := 9) (own := [("_law_number", 10)]) rfl sc_law.nd rfl rfl (sw_true rfl rfl rfl (by decide +kernel)) (pi_range1 (by rfl) (no_range t) (pa_cons pe_int pa_nil)) (blkOk_by (own := [("_law_number", 10)]) (N := ["_law_script", "_law_k", "_law_cell", "_law_which", "_law_one", "_law_other", "_law_seen", "_law_e", "_law_fields", "_law_kinds_here", "_law_number", "_law_gathers"]) (sc := defScope s_law) (by decide +kernel)) (fun _ _ _ _ _ => (pg_name (i := 10) sc_law.nd rfl (Or.inl rfl))) (fun _ _ _ _ _ => pts_nil) (fun _ _ _ _ _ => (pe_cmpR op_eq (pv 10) (pv 3) (nomark _))))
      (pss_cons (ps_set (i := 11) sc_law.nd rfl (Or.inl rfl) (pe_lst (pa_cons (pe_cmpR op_in_seq (pv 3) (pe_tup (pa_cons pe_int (pa_cons pe_int (pa_cons pe_int pa_nil)))) (by rfl)) (pa_cons (pe_cmpR op_in_seq (pv 3) (pe_tup (pa_cons pe_int (pa_cons pe_int (pa_cons pe_int pa_nil)))) (by rfl)) (pa_cons (pe_cmpR op_in_seq (pv 3) (pe_tup (pa_cons pe_int (pa_cons pe_int pa_nil))) (by rfl)) (pa_cons (pe_cmpR op_in_seq (pv 3) (pe_tup (pa_cons pe_int (pa_cons pe_int (pa_cons pe_int (pa_cons pe_int pa_nil))))) (by rfl)) pa_nil))))))
      (pss_one (ps_if (pt_cmpR (op_neD (Room.units hr)) (pv 6) (pe_tup (pa_cons (pv 9) (pa_cons (pv 11) (pa_cons (pe_call G__law_due_fields (hr.mono (by decide)) rfl (mg__law_due_fields t) (kp__law_due_fields t) (b__law_due_fields t) .nil (passes_call (takes_of rfl rfl rfl rfl) fun _ _ _ _ z => z) (pa_cons (pv 3) (pa_cons (pv 4) (pa_cons (pv 5) pa_nil)))) (pa_cons pe_bl pa_nil))))) (nomark _))
      (pss_one (ps_ret pe_bl))
      pss_nil)))))))))))
      (pss_one (ps_ret pe_bl))), ?_⟩
    refine ⟨6, rfl, by decide, by decide, for_range (lo := 0) (n := 6) (fun _ σ H => ∃ v1 v2 v3 v4 v5 v6 v7 v8 v9 v10 v11 : Option V, σ = [some (.ref a), v1, v2, v3, v4, v5, v6, v7, v8, v9, v10, v11] ∧ SqL K H a (ns.map V.int)) ⟨none, none, none, none, none, none, none, none, none, none, none, rfl, hS⟩ ?_ ?_⟩
    · rintro i σ H hi ⟨v1, v2, v3, v4, v5, v6, v7, v8, v9, v10, v11, rfl, hS⟩
      have e0 : (0 : Int) + (i : Int) = (i : Int) := by omega
      rw [e0]
      refine ⟨_, rfl, _, rfl, a, ns, i, rfl, hS, ?_⟩
      obtain ⟨n, hn, hlt⟩ : ∃ n : Nat, mixed (cellAt ns i) i % 16 = (n : Int) ∧ n < 16 := by
        have h1 := Int.emod_nonneg (mixed (cellAt ns i) i) (show (16 : Int) ≠ 0 by decide)
        have h2 := Int.emod_lt_of_pos (mixed (cellAt ns i) i) (show (0 : Int) < 16 by decide)
        exact ⟨(mixed (cellAt ns i) i % 16).toNat, by omega, by omega⟩
      refine ⟨_, rfl, _, rfl, _, _, rfl, _, _, rfl, rfl, by show (0 : Int) < 16; decide, ?_⟩
      dsimp only
      rw [hn]
      refine ⟨_, rfl, _, _, rfl, ?_⟩
      refine ⟨_, rfl, _, _, rfl, ?_⟩
      obtain ⟨one, hone⟩ : ∃ v, field (cellAt ns i) 20 = v := ⟨_, rfl⟩
      obtain ⟨other, hother⟩ : ∃ v, field (cellAt ns i) 40 = v := ⟨_, rfl⟩
      dsimp only
      rw [hone, hother]
      have f1 : FieldV one := hone ▸ field_ok _ _
      have f2 : FieldV other := hother ▸ field_ok _ _
      refine ⟨_, rfl, _, rfl, n, one, rfl, fun h7 => ⟨fun en => ?_, fun ne d hd => ?_⟩, fun h7 => ⟨_, rfl, _, rfl, _, rfl, n, one, other, rfl, fun _ _ => ⟨fun en => ?_, fun ne d hd => ?_⟩, fun z => ?_, hlt⟩⟩
      all_goals try (exfalso; omega)
      · have hx : XD none H n one other := Or.inl ⟨en, rfl⟩
        have eH : Evl.Ex H H := Evl.Ex.refl H
        rw [← en]
        refine ⟨true, exm_of t hlt, fun _ a0 ha0 => ?_, fun z => nomatch z⟩
        refine ⟨_, rfl, n, one, other, hlt, rfl, rfl, hx, fun H1 l1 e1 n1 q1 => ?_⟩
        refine ⟨_, rfl, n, one, other, hlt, rfl, rfl, XD.ex hx e1, fun H2 l2 e2 n2 q2 => ?_⟩
        refine ⟨l1, l2, _, _, rfl, rfl, e2 _ _ q1, q2, lenFM one other n, fun p3 h3 => ?_⟩
        have e3 := (e1.trans e2).trans (Evl.Ex.new (o := .lst (firstV n one other ++ moreV n one other)) h3)
        refine ⟨_, rfl, n, one, other, hlt, rfl, rfl, XD.ex hx e3, fun H4 l4 e4 n4 q4 => ?_⟩
        refine ⟨_, rfl, n, one, other, hlt, rfl, rfl, XD.ex hx (e3.trans e4), fun H5 l5 e5 n5 q5 => ?_⟩
        refine ⟨_, rfl, n, ⟨hlt, rfl⟩, _, rfl, _, _, true, rfl, fun _ z => z, kitv t hlt, XD.wk (XD.ex hx ((e3.trans e4).trans e5)), ?_⟩
        refine ⟨Nat.le_of_ble_eq_true rfl, fun p6 h6 => ?_⟩
        have c1 := e5 _ _ q4
        have c2 := (e4.trans e5) _ _ (upd_same (H := H2) (a := p3) (o := .lst (firstV n one other ++ moreV n one other)))
        rw [fm] at c2
        have e6 := Evl.Ex.new (H := H5) (p := p6) (o := .tup [.ref l4, .ref l5, .ref p3, .bl true]) h6
        have hS6 := Evl.ex_l ((((eH.trans e3).trans e4).trans e5).trans e6) hS
        have d1 := e6 _ _ c1
        have d2 := e6 _ _ q5
        have d3 := e6 _ _ c2
        have d4 := upd_same (H := H5) (a := p6) (o := .tup [.ref l4, .ref l5, .ref p3, .bl true])
        generalize upd H5 p6 (.tup [.ref l4, .ref l5, .ref p3, .bl true]) = H6 at *
        refine ⟨16, rfl, by decide, by decide, fun D hD => lc_range (lo := 0) (n := 16) (fun i H' => Evl.Ex H6 H' ∧ H' D = some (.lst ((List.range i).map fun j => V.bl (decide (j = n))))) ⟨Evl.Ex.new hD, upd_same⟩ ?_ ?_⟩
        · rintro i H' hi ⟨e7, q7⟩
          refine ⟨rfl, ?_⟩
          refine ⟨_, rfl, _, rfl, rfl, _, q7, ?_, Evl.Ex.mut e7 hD, ?_⟩
          · rw [List.length_map, List.length_range]
            exact small1000 (by omega)
          · rw [upd_same, List.range_succ, List.map_append]
            have e8 : decide (V.int ((0 : Int) + (i : Int)) = V.int (n : Int)) = decide (i = n) := by
              by_cases z : i = n
              · subst z
                rw [decide_eq_true rfl]
                exact decide_eq_true (by rw [Int.zero_add])
              · rw [decide_eq_false z]
                exact decide_eq_false fun y => z (by injection y with y; omega)
            rw [e8]
            rfl
        rintro H7 ⟨e7, q7⟩
        refine ⟨_, rfl, Nat.le_of_ble_eq_true rfl, fun g0 k0 => ⟨g0, _, rfl, .inr (SqT.of upd_same), rfl, rfl, ?_⟩⟩
        refine ⟨_, rfl, Nat.le_of_ble_eq_true rfl, fun g1 k1 => ⟨g1, _, rfl, .inr (SqT.of upd_same), rfl, rfl, ?_⟩⟩
        refine ⟨_, rfl, Nat.le_of_ble_eq_true rfl, fun g2 k2 => ⟨g2, _, rfl, .inr (SqT.of upd_same), rfl, rfl, ?_⟩⟩
        refine ⟨_, rfl, Nat.le_of_ble_eq_true rfl, fun g3 k3 => ⟨g3, _, rfl, .inr (SqT.of upd_same), rfl, rfl, ?_⟩⟩
        refine ⟨Nat.le_of_ble_eq_true rfl, fun g4 k4 => ?_⟩
        have r1 := ((((Evl.Ex.new (o := .tup [.int 4, .int 5, .int 6]) k0).trans (Evl.Ex.new (o := .tup [.int 7, .int 8, .int 9]) k1)).trans (Evl.Ex.new (o := .tup [.int 10, .int 11]) k2)).trans (Evl.Ex.new (o := .tup [.int 12, .int 13, .int 14, .int 15]) k3))
        have r2 := Evl.Ex.new (o := .lst [.bl (inV (.int n) [.int 4, .int 5, .int 6]), .bl (inV (.int n) [.int 7, .int 8, .int 9]), .bl (inV (.int n) [.int 10, .int 11]), .bl (inV (.int n) [.int 12, .int 13, .int 14, .int 15])]) k4
        have eg : [V.bl (inV (.int n) [.int 4, .int 5, .int 6]), .bl (inV (.int n) [.int 7, .int 8, .int 9]), .bl (inV (.int n) [.int 10, .int 11]), .bl (inV (.int n) [.int 12, .int 13, .int 14, .int 15])] = gathV n := by
          rw [in_g0 hlt, in_g1 hlt, in_g2 hlt, in_g3 hlt]
          rfl
        have r3 := (e7.trans r1).trans r2
        have m1 := (r1.trans r2) _ _ q7
        have m2 := upd_same (H := upd (upd (upd (upd H7 g0 (.tup [.int 4, .int 5, .int 6])) g1 (.tup [.int 7, .int 8, .int 9])) g2 (.tup [.int 10, .int 11])) g3 (.tup [.int 12, .int 13, .int 14, .int 15])) (a := g4) (o := .lst [.bl (inV (.int n) [.int 4, .int 5, .int 6]), .bl (inV (.int n) [.int 7, .int 8, .int 9]), .bl (inV (.int n) [.int 10, .int 11]), .bl (inV (.int n) [.int 12, .int 13, .int 14, .int 15])])
        have m2 := m2.trans (congrArg (fun l => some (HO.lst l)) eg)
        refine ⟨_, rfl, _, rfl, _, rfl, _, rfl, _, rfl, _, rfl, n, one, other, hlt, rfl, fun H9 l9 e9 n9 q9 => ⟨Nat.le_of_ble_eq_true rfl, fun p10 h10 => ?_⟩⟩
        have e10 := Evl.Ex.new (o := .tup [.ref D, .ref g4, .ref l9, .bl true]) h10
        have e11 := r3.trans (e9.trans e10)
        refine ⟨allD one other n, allD one other n, allD_ok f1 f2 hlt (e11 _ _ d1) (e11 _ _ d2) (e11 _ _ d3) (e11 _ _ d4), allD_ok f1 f2 hlt ((e9.trans e10) _ _ m1) ((e9.trans e10) _ _ m2) (e10 _ _ q9) upd_same, allD_shaped K H f1 f2 hlt, allD_shaped K H f1 f2 hlt, ?_⟩
        have ee : PyData.eqv (allD one other n) (allD one other n) = true := SeqAt.eqv_refl _ (SeqAt.canLay_of_shaped (allD_shaped K H f1 f2 hlt))
        refine ⟨_, rfl, ?_⟩
        rw [ee]
        refine iteF ?_
        exact ⟨_, _, _, _, _, _, _, _, _, _, _, rfl, Evl.ex_l e11 hS6⟩
      · have e7 : xfs one .non n = xfs one other n := match n, h7 with
          | 0, _ => rfl
          | 1, _ => rfl
          | 2, _ => rfl
          | 3, _ => rfl
          | 4, _ => rfl
          | 5, _ => rfl
          | 6, _ => rfl
          | _ + 7, h => absurd h (by omega)
        rw [e7]
        have hx : XD (some d) (upd H d (.xd (xfs one other n))) n one other := Or.inr ⟨ne, d, rfl, upd_same⟩
        have eH : Evl.Ex H (upd H d (.xd (xfs one other n))) := Evl.Ex.new hd
        refine ⟨true, exm_of t hlt, fun _ a0 ha0 => ?_, fun z => nomatch z⟩
        refine ⟨_, rfl, n, one, other, hlt, rfl, rfl, hx, fun H1 l1 e1 n1 q1 => ?_⟩
        refine ⟨_, rfl, n, one, other, hlt, rfl, rfl, XD.ex hx e1, fun H2 l2 e2 n2 q2 => ?_⟩
        refine ⟨l1, l2, _, _, rfl, rfl, e2 _ _ q1, q2, lenFM one other n, fun p3 h3 => ?_⟩
        have e3 := (e1.trans e2).trans (Evl.Ex.new (o := .lst (firstV n one other ++ moreV n one other)) h3)
        refine ⟨_, rfl, n, one, other, hlt, rfl, rfl, XD.ex hx e3, fun H4 l4 e4 n4 q4 => ?_⟩
        refine ⟨_, rfl, n, one, other, hlt, rfl, rfl, XD.ex hx (e3.trans e4), fun H5 l5 e5 n5 q5 => ?_⟩
        refine ⟨_, rfl, n, ⟨hlt, rfl⟩, _, rfl, _, _, true, rfl, fun _ z => z, kitv t hlt, XD.wk (XD.ex hx ((e3.trans e4).trans e5)), ?_⟩
        refine ⟨Nat.le_of_ble_eq_true rfl, fun p6 h6 => ?_⟩
        have c1 := e5 _ _ q4
        have c2 := (e4.trans e5) _ _ (upd_same (H := H2) (a := p3) (o := .lst (firstV n one other ++ moreV n one other)))
        rw [fm] at c2
        have e6 := Evl.Ex.new (H := H5) (p := p6) (o := .tup [.ref l4, .ref l5, .ref p3, .bl true]) h6
        have hS6 := Evl.ex_l ((((eH.trans e3).trans e4).trans e5).trans e6) hS
        have d1 := e6 _ _ c1
        have d2 := e6 _ _ q5
        have d3 := e6 _ _ c2
        have d4 := upd_same (H := H5) (a := p6) (o := .tup [.ref l4, .ref l5, .ref p3, .bl true])
        generalize upd H5 p6 (.tup [.ref l4, .ref l5, .ref p3, .bl true]) = H6 at *
        refine ⟨16, rfl, by decide, by decide, fun D hD => lc_range (lo := 0) (n := 16) (fun i H' => Evl.Ex H6 H' ∧ H' D = some (.lst ((List.range i).map fun j => V.bl (decide (j = n))))) ⟨Evl.Ex.new hD, upd_same⟩ ?_ ?_⟩
        · rintro i H' hi ⟨e7, q7⟩
          refine ⟨rfl, ?_⟩
          refine ⟨_, rfl, _, rfl, rfl, _, q7, ?_, Evl.Ex.mut e7 hD, ?_⟩
          · rw [List.length_map, List.length_range]
            exact small1000 (by omega)
          · rw [upd_same, List.range_succ, List.map_append]
            have e8 : decide (V.int ((0 : Int) + (i : Int)) = V.int (n : Int)) = decide (i = n) := by
              by_cases z : i = n
              · subst z
                rw [decide_eq_true rfl]
                exact decide_eq_true (by rw [Int.zero_add])
              · rw [decide_eq_false z]
                exact decide_eq_false fun y => z (by injection y with y; omega)
            rw [e8]
            rfl
        rintro H7 ⟨e7, q7⟩
        refine ⟨_, rfl, Nat.le_of_ble_eq_true rfl, fun g0 k0 => ⟨g0, _, rfl, .inr (SqT.of upd_same), rfl, rfl, ?_⟩⟩
        refine ⟨_, rfl, Nat.le_of_ble_eq_true rfl, fun g1 k1 => ⟨g1, _, rfl, .inr (SqT.of upd_same), rfl, rfl, ?_⟩⟩
        refine ⟨_, rfl, Nat.le_of_ble_eq_true rfl, fun g2 k2 => ⟨g2, _, rfl, .inr (SqT.of upd_same), rfl, rfl, ?_⟩⟩
        refine ⟨_, rfl, Nat.le_of_ble_eq_true rfl, fun g3 k3 => ⟨g3, _, rfl, .inr (SqT.of upd_same), rfl, rfl, ?_⟩⟩
        refine ⟨Nat.le_of_ble_eq_true rfl, fun g4 k4 => ?_⟩
        have r1 := ((((Evl.Ex.new (o := .tup [.int 4, .int 5, .int 6]) k0).trans (Evl.Ex.new (o := .tup [.int 7, .int 8, .int 9]) k1)).trans (Evl.Ex.new (o := .tup [.int 10, .int 11]) k2)).trans (Evl.Ex.new (o := .tup [.int 12, .int 13, .int 14, .int 15]) k3))
        have r2 := Evl.Ex.new (o := .lst [.bl (inV (.int n) [.int 4, .int 5, .int 6]), .bl (inV (.int n) [.int 7, .int 8, .int 9]), .bl (inV (.int n) [.int 10, .int 11]), .bl (inV (.int n) [.int 12, .int 13, .int 14, .int 15])]) k4
        have eg : [V.bl (inV (.int n) [.int 4, .int 5, .int 6]), .bl (inV (.int n) [.int 7, .int 8, .int 9]), .bl (inV (.int n) [.int 10, .int 11]), .bl (inV (.int n) [.int 12, .int 13, .int 14, .int 15])] = gathV n := by
          rw [in_g0 hlt, in_g1 hlt, in_g2 hlt, in_g3 hlt]
          rfl
        have r3 := (e7.trans r1).trans r2
        have m1 := (r1.trans r2) _ _ q7
        have m2 := upd_same (H := upd (upd (upd (upd H7 g0 (.tup [.int 4, .int 5, .int 6])) g1 (.tup [.int 7, .int 8, .int 9])) g2 (.tup [.int 10, .int 11])) g3 (.tup [.int 12, .int 13, .int 14, .int 15])) (a := g4) (o := .lst [.bl (inV (.int n) [.int 4, .int 5, .int 6]), .bl (inV (.int n) [.int 7, .int 8, .int 9]), .bl (inV (.int n) [.int 10, .int 11]), .bl (inV (.int n) [.int 12, .int 13, .int 14, .int 15])])
        have m2 := m2.trans (congrArg (fun l => some (HO.lst l)) eg)
        refine ⟨_, rfl, _, rfl, _, rfl, _, rfl, _, rfl, _, rfl, n, one, other, hlt, rfl, fun H9 l9 e9 n9 q9 => ⟨Nat.le_of_ble_eq_true rfl, fun p10 h10 => ?_⟩⟩
        have e10 := Evl.Ex.new (o := .tup [.ref D, .ref g4, .ref l9, .bl true]) h10
        have e11 := r3.trans (e9.trans e10)
        refine ⟨allD one other n, allD one other n, allD_ok f1 f2 hlt (e11 _ _ d1) (e11 _ _ d2) (e11 _ _ d3) (e11 _ _ d4), allD_ok f1 f2 hlt ((e9.trans e10) _ _ m1) ((e9.trans e10) _ _ m2) (e10 _ _ q9) upd_same, allD_shaped K H f1 f2 hlt, allD_shaped K H f1 f2 hlt, ?_⟩
        have ee : PyData.eqv (allD one other n) (allD one other n) = true := SeqAt.eqv_refl _ (SeqAt.canLay_of_shaped (allD_shaped K H f1 f2 hlt))
        refine ⟨_, rfl, ?_⟩
        rw [ee]
        refine iteF ?_
        exact ⟨_, _, _, _, _, _, _, _, _, _, _, rfl, Evl.ex_l e11 hS6⟩
      · have hx : XD (some d) (upd H d (.xd (xfs one other n))) n one other := Or.inr ⟨ne, d, rfl, upd_same⟩
        have eH : Evl.Ex H (upd H d (.xd (xfs one other n))) := Evl.Ex.new hd
        refine ⟨true, exm_of t hlt, fun _ a0 ha0 => ?_, fun z => nomatch z⟩
        refine ⟨_, rfl, n, one, other, hlt, rfl, rfl, hx, fun H1 l1 e1 n1 q1 => ?_⟩
        refine ⟨_, rfl, n, one, other, hlt, rfl, rfl, XD.ex hx e1, fun H2 l2 e2 n2 q2 => ?_⟩
        refine ⟨l1, l2, _, _, rfl, rfl, e2 _ _ q1, q2, lenFM one other n, fun p3 h3 => ?_⟩
        have e3 := (e1.trans e2).trans (Evl.Ex.new (o := .lst (firstV n one other ++ moreV n one other)) h3)
        refine ⟨_, rfl, n, one, other, hlt, rfl, rfl, XD.ex hx e3, fun H4 l4 e4 n4 q4 => ?_⟩
        refine ⟨_, rfl, n, one, other, hlt, rfl, rfl, XD.ex hx (e3.trans e4), fun H5 l5 e5 n5 q5 => ?_⟩
        refine ⟨_, rfl, n, ⟨hlt, rfl⟩, _, rfl, _, _, true, rfl, fun _ z => z, kitv t hlt, XD.wk (XD.ex hx ((e3.trans e4).trans e5)), ?_⟩
        refine ⟨Nat.le_of_ble_eq_true rfl, fun p6 h6 => ?_⟩
        have c1 := e5 _ _ q4
        have c2 := (e4.trans e5) _ _ (upd_same (H := H2) (a := p3) (o := .lst (firstV n one other ++ moreV n one other)))
        rw [fm] at c2
        have e6 := Evl.Ex.new (H := H5) (p := p6) (o := .tup [.ref l4, .ref l5, .ref p3, .bl true]) h6
        have hS6 := Evl.ex_l ((((eH.trans e3).trans e4).trans e5).trans e6) hS
        have d1 := e6 _ _ c1
        have d2 := e6 _ _ q5
        have d3 := e6 _ _ c2
        have d4 := upd_same (H := H5) (a := p6) (o := .tup [.ref l4, .ref l5, .ref p3, .bl true])
        generalize upd H5 p6 (.tup [.ref l4, .ref l5, .ref p3, .bl true]) = H6 at *
        refine ⟨16, rfl, by decide, by decide, fun D hD => lc_range (lo := 0) (n := 16) (fun i H' => Evl.Ex H6 H' ∧ H' D = some (.lst ((List.range i).map fun j => V.bl (decide (j = n))))) ⟨Evl.Ex.new hD, upd_same⟩ ?_ ?_⟩
        · rintro i H' hi ⟨e7, q7⟩
          refine ⟨rfl, ?_⟩
          refine ⟨_, rfl, _, rfl, rfl, _, q7, ?_, Evl.Ex.mut e7 hD, ?_⟩
          · rw [List.length_map, List.length_range]
            exact small1000 (by omega)
          · rw [upd_same, List.range_succ, List.map_append]
            have e8 : decide (V.int ((0 : Int) + (i : Int)) = V.int (n : Int)) = decide (i = n) := by
              by_cases z : i = n
              · subst z
                rw [decide_eq_true rfl]
                exact decide_eq_true (by rw [Int.zero_add])
              · rw [decide_eq_false z]
                exact decide_eq_false fun y => z (by injection y with y; omega)
            rw [e8]
            rfl
        rintro H7 ⟨e7, q7⟩
        refine ⟨_, rfl, Nat.le_of_ble_eq_true rfl, fun g0 k0 => ⟨g0, _, rfl, .inr (SqT.of upd_same), rfl, rfl, ?_⟩⟩
        refine ⟨_, rfl, Nat.le_of_ble_eq_true rfl, fun g1 k1 => ⟨g1, _, rfl, .inr (SqT.of upd_same), rfl, rfl, ?_⟩⟩
        refine ⟨_, rfl, Nat.le_of_ble_eq_true rfl, fun g2 k2 => ⟨g2, _, rfl, .inr (SqT.of upd_same), rfl, rfl, ?_⟩⟩
        refine ⟨_, rfl, Nat.le_of_ble_eq_true rfl, fun g3 k3 => ⟨g3, _, rfl, .inr (SqT.of upd_same), rfl, rfl, ?_⟩⟩
        refine ⟨Nat.le_of_ble_eq_true rfl, fun g4 k4 => ?_⟩
        have r1 := ((((Evl.Ex.new (o := .tup [.int 4, .int 5, .int 6]) k0).trans (Evl.Ex.new (o := .tup [.int 7, .int 8, .int 9]) k1)).trans (Evl.Ex.new (o := .tup [.int 10, .int 11]) k2)).trans (Evl.Ex.new (o := .tup [.int 12, .int 13, .int 14, .int 15]) k3))
        have r2 := Evl.Ex.new (o := .lst [.bl (inV (.int n) [.int 4, .int 5, .int 6]), .bl (inV (.int n) [.int 7, .int 8, .int 9]), .bl (inV (.int n) [.int 10, .int 11]), .bl (inV (.int n) [.int 12, .int 13, .int 14, .int 15])]) k4
        have eg : [V.bl (inV (.int n) [.int 4, .int 5, .int 6]), .bl (inV (.int n) [.int 7, .int 8, .int 9]), .bl (inV (.int n) [.int 10, .int 11]), .bl (inV (.int n) [.int 12, .int 13, .int 14, .int 15])] = gathV n := by
          rw [in_g0 hlt, in_g1 hlt, in_g2 hlt, in_g3 hlt]
          rfl
        have r3 := (e7.trans r1).trans r2
        have m1 := (r1.trans r2) _ _ q7
        have m2 := upd_same (H := upd (upd (upd (upd H7 g0 (.tup [.int 4, .int 5, .int 6])) g1 (.tup [.int 7, .int 8, .int 9])) g2 (.tup [.int 10, .int 11])) g3 (.tup [.int 12, .int 13, .int 14, .int 15])) (a := g4) (o := .lst [.bl (inV (.int n) [.int 4, .int 5, .int 6]), .bl (inV (.int n) [.int 7, .int 8, .int 9]), .bl (inV (.int n) [.int 10, .int 11]), .bl (inV (.int n) [.int 12, .int 13, .int 14, .int 15])])
        have m2 := m2.trans (congrArg (fun l => some (HO.lst l)) eg)
        refine ⟨_, rfl, _, rfl, _, rfl, _, rfl, _, rfl, _, rfl, n, one, other, hlt, rfl, fun H9 l9 e9 n9 q9 => ⟨Nat.le_of_ble_eq_true rfl, fun p10 h10 => ?_⟩⟩
        have e10 := Evl.Ex.new (o := .tup [.ref D, .ref g4, .ref l9, .bl true]) h10
        have e11 := r3.trans (e9.trans e10)
        refine ⟨allD one other n, allD one other n, allD_ok f1 f2 hlt (e11 _ _ d1) (e11 _ _ d2) (e11 _ _ d3) (e11 _ _ d4), allD_ok f1 f2 hlt ((e9.trans e10) _ _ m1) ((e9.trans e10) _ _ m2) (e10 _ _ q9) upd_same, allD_shaped K H f1 f2 hlt, allD_shaped K H f1 f2 hlt, ?_⟩
        have ee : PyData.eqv (allD one other n) (allD one other n) = true := SeqAt.eqv_refl _ (SeqAt.canLay_of_shaped (allD_shaped K H f1 f2 hlt))
        refine ⟨_, rfl, ?_⟩
        rw [ee]
        refine iteF ?_
        exact ⟨_, _, _, _, _, _, _, _, _, _, _, rfl, Evl.ex_l e11 hS6⟩
    · rintro σ H ⟨v1, v2, v3, v4, v5, v6, v7, v8, v9, v10, v11, rfl, hS⟩
      exact q _
end
end K06

set_option Elab.async false
set_option linter.all false
set_option maxRecDepth 100000
set_option maxHeartbeats 0
namespace K06
open PySem PySem.Spec PyProof.Rows L2 LX
abbrev hk : PySem.W.Hook := hookM 5 fa fn fb
def ob (s : PySem.W.SharedT) : He.AlD × Bool := obsMG 5 fa fn fb (HandSHeadRun.getT s)
theorem ob_eq (s : PySem.W.SharedT) : ob s = hk.obs s.abs := obsMG_eq (HandSHeadRun.getT_eq s)
theorem run (w : World) : HandSHeadRun.RunEq R (PySem.W.view R.prog [33]) hk ob 20000 loose w := by
  intro os
  kernel_rfl
theorem at_end (w : World) (mg : Str → Option Value) (fa0 : Addr) (h : Heap) (Y : hk.says w h) (G : h.Ns mainGlobals mg) (hmg : mg ("law" : PySem.Str) = some (.ref fa0)) :
    ∃ (K : PySem.W.Frag) (fd : FuncData) (sp : Sp), K.In h ∧ (∀ (s : Shared) (u : Value), BindsTo s fd ⟨[u], []⟩ [("_law_script", u)]) ∧
      (∀ (H : Hp) (a : Addr) (ns : List Int), ns.length ≤ 63 → Only H → SqL K H a (ns.map V.int) → sp [.ref a] H (fun v _ => v = .bl true) fun _ _ _ => False) ∧
      ∀ base : Heap, K.In base → base.Ns mainGlobals mg → FnOk (PySem.Challenge.rw_lettercell_k06_what_is_refused).prog w K mg base CX0 4 fa0 fd ["_law_script"] sp := by
  obtain ⟨K, KX, c⟩ := Y
  have t : T K mg := ⟨c, h, KX, G⟩
  have e := hmg.symm.trans (mg_law t)
  injection e with e
  injection e with e
  subst e
  refine ⟨K, fdOf K ("law", none), fun vs H Q E => spLaw K vs H Q E0, KX, fun s u => (fn_law t).bindsA (ps := ["_law_script"]) (fun _ _ _ _ _ _ us hl => match us, hl with | [_], _ => rfl) s [u] rfl, fun H a ns hl _ hS => law_pre hl hS, fun base _ _ => calm_of (ok_law t)⟩
end K06
open PySem PySem.W PySem.Calls PyProof.Rows
theorem PySem.Challenge.cw_lettercell_k06_what_is_refused_holds : PySem.Challenge.rw_lettercell_k06_what_is_refused.Holds := by
  w_on; o_law
  refine HandSHeadRun.head_any (r := OpenLaw.row PySem.Challenge.rw_lettercell_k06_what_is_refused) (q := view (OpenLaw.row PySem.Challenge.rw_lettercell_k06_what_is_refused).prog [33]) (H := K06.hk) (ob := K06.ob) (M := 20000) (loose := K06.loose) (d := HandSHeadRun.topDef (OpenLaw.row PySem.Challenge.rw_lettercell_k06_what_is_refused).prog 33) (kwd := []) K06.ob_eq
    (by kernel_rfl) (fun s => by kernel_rfl) K06.run (by kernel_rfl) (by kernel_rfl) (by kernel_rfl) (by rfl) (by first | assumption | decide +kernel) (by decide +kernel) ⟨rfl, rfl, rfl, rfl, rfl, by decide +kernel⟩ ?hw ?hc
  case hw => w_witness2
  case hc =>
    refine L2.walk_ofE (l := PySem.Challenge.rw_lettercell_k06_what_is_refused) (n := 63) (k := 4) (x := "_law_script") (CX := L2.CX0) rfl (by decide) (by kernel_rfl) ⟨rfl, by decide, by decide⟩ ?F (fun _ _ _ _ z => z)
    intro w mg fa h Y G hmg0
    have hmg : mg ("law" : PySem.Str) = some (.ref fa) := by
      have e : (HandSHeadRun.topDef (OpenLaw.row PySem.Challenge.rw_lettercell_k06_what_is_refused).prog 33).name = ("law" : PySem.Str) := by kernel_rfl
      rw [← e]
      exact hmg0
    exact K06.at_end w mg fa h Y G hmg

