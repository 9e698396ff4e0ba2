import PyProof.Rows.All
import Wide.All
import OpenK.AllK
import Wide.FinOn
import KE.KExcSuper
import HandS.Base
import HandS.Call
import HandS.Ends
import HandS.Exc
import HandS.TryOnly
import HandS.ExcOwn
import HandS.ExcSuper
import HandS.Words
import HandS.WordsExc
import KE.KStateDown
import HandS.Defaults
import HandS.Head0
import HandS.Head1
import HandS.Head2
import HandS.Head3
import HandS.HeadEnd
import HandS.HeadHook1
import HandS.HeadHook2
import HandS.List
import HandS.Comp
import HandS.IsInst
import HandS.Gcd
import HandS.Steps
import PySem.Challenge.RW_nowaittasks_k63_order_of_giving
section
set_option Elab.async false
set_option linter.all false
set_option maxRecDepth 100000
set_option maxHeartbeats 2000000
/-! own errors: class E(T): def __init__(self, a, ..): super().__init__(text); self.a = a; .. ; T an own class over Exception -/
namespace NwX
open PySem PySem.W PySem.Calls PyProof.Rows
open Builtin Builtin.ObjectAttr
abbrev exT : List Value := [.type "Exception", .type "BaseException", .type "object"]
def stSuper (e : Expr) (p0 p1 p2 p3 p4 : Pos) : Stmt := .Expr (.Call (.Attribute (.Call (.Name "super" p0) [] [] p1) "__init__" p2) [e] [] p3) p4
def stStore (f : Str) (q1 q2 q3 q4 : Pos) : Stmt := .Assign [.Attribute (.Name "self" q1) f q2] (.Name f q3) q4
/-- what the written part says of the class -/
structure ErrK (prog : Program) (K : Frag) (C fI : Addr) (qual : Str) (params : Arguments) (body : List Stmt) (scope : Scope) : Prop where
  cls : excInitIn K C exT "Exception.__new__" = true
  over : excOver K C exT = true
  sa : findIn K (.ref C) "__setattr__" = some (some (.builtin "object.__setattr__"))
  ga : findIn K (.ref C) "__getattribute__" = some (some (.builtin "BaseException.__getattribute__"))
  gg : findIn K (.ref C) "__getattr__" = some none
  iC : findIn K (.ref C) "__init__" = some (some (.ref fI))
  tI : typeIn K (.ref fI) = some (.type "function")
  kC : keepIn K (.ref C) = true
  exC : subIn K (.ref C) (.type "BaseException") = some true
  exE : subIn K (.ref C) (.type "Exception") = some true
  me : mroIn K C (.ref C) = some true
  tyC : typeIn K (.ref C) = some (.type "type")
  hdC : hasDictIn K C = true
  sup : ks_superIn K C C "__init__" = some (some (.builtin "Exception.__init__"))
  opq : nsIn K cStatics "thirdparty.any" = some none
  fn : ∃ (oc : Value) (od : Option Addr) (osl : Array (Option Value)) (cc cda : Addr) (kV doc pm ct : Value) (an : Option Addr) (vs : Array Value) (file : Str) (tf : Tok) (o1 o2 : Value) (d1 d2 : Option Addr) (s1 s2 : Array (Option Value)),
    K.lookup fI = some ⟨oc, od, .func (fnX "__init__" qual params body scope [("__class__", cc)] .none kV doc pm an (.ref cda) ct), osl⟩ ∧ codeIn K (.ref cda) qual = true ∧
    K.lookup cda = some ⟨o1, d1, .fields vs, s1⟩ ∧ vs[2]? = some (.str file tf) ∧ ((prog.main.file : Str) == file) = true ∧ K.lookup cc = some ⟨o2, d2, .cell (some (.ref C)), s2⟩
/-- how the call of super().__init__ goes: true of a written text, of a text and a name, by rfl -/
def CallOk (env : Env) (e : Expr) (p0 p1 p2 p3 p4 : Pos) : Prop := (∃ pl : Sem Bool, eval (.Call (.Attribute (.Call (.Name "super" p0) [] [] p1) "__init__" p2) [e] [] p3) env = (do
      let ov ← attributeBase (.Call (.Name "super" p0) [] [] p1) "__init__" env (eval (.Call (.Name "super" p0) [] [] p1) env)
      standAt p2.atName
      let (f, first) ← holding [ov] (getMethod ov "__init__" pl)
      callWith p3 f first (backTo p3 (starEach [e] env)) [])) ∧ starEach [e] env = [(false, eval e env)] ∧ swapsWith (.Call (.Attribute (.Call (.Name "super" p0) [] [] p1) "__init__" p2) [e] [] p3) none p4.line env = pure false ∧ interactive env = false
/-- what the text of __init__ is -/
structure ErrS (qual : Str) (params : Arguments) (body : List Stmt) (scope : Scope) (ps : List Str) : Prop where
  cell : ∀ x ∈ scope.names, x.2 ≠ .cell
  co : scope.isCoroutine = false
  gen : scope.isGenerator = false
  kind : scope.kind = .function
  sup : scope.names.lookup ("super" : Str) = some .globalImplicit
  klass : scope.names.lookup ("__class__" : Str) = some .free
  slf : scope.names.lookup ("self" : Str) = some .local
  loc : ∀ p ∈ ps, scope.names.lookup p = some .local
  head : ∃ ar, (params.posonlyargs ++ params.args).head? = some ar ∧ ar.arg = "self"
  nd : (("self" : Str) :: ps).Nodup
  bind : ∀ (cl : List (Str × Addr)) (kV doc pm : Value) (an : Option Addr) (cdv ct : Value) (us : List Value), us.length = ps.length + 1 → bindArgs (fnX "__init__" qual params body scope cl .none kV doc pm an cdv ct) ⟨us, []⟩ = pure ((("self" : Str) :: ps).zip us)
/-- the message: a text, whatever it is -/
def MsgOk (e : Expr) (env : Env) (m : Str → Option Value) : Prop := ∀ (M : Model) (prog : Program) (w : World), M = model prog w → ∀ (A : Around) (E : Value → Shared → Prop) (s : Shared) (Q : Value → Shared → Prop), s.heap.Ns env.locals m →
  (∀ z t t', Q (.str z t) { s with toks := t' }) → wpAny M A (eval e env) Q E s
theorem msg_const {x : Str} {j} {pos : Pos} {env : Env} {m : Str → Option Value} : MsgOk (.Constant (.str x) j pos) env m := fun M prog w hM A E s Q _ q => by
  subst hM
  exact Calls.Constant_str (q _ _ _)
theorem msg_add {x y z : Str} {j} {p1 p2 p3 : Pos} {env : Env} {m : Str → Option Value} {t : Tok} (hk : env.scope.kind = .function) (hl : env.kindOf y = some .local) (hd : (y == ("__debug__" : Str)) = false) (hm : m y = some (.str z t)) (hz : x.length + z.length ≤ sizeLine) :
    MsgOk (.BinOp (.Constant (.str x) j p1) .Add (.Name y p2) p3) env m := fun M prog w hM A E s Q hn q => by
  subst hM
  refine wpAny_BinOp (Calls.Constant_str ?_)
  refine ESX.ldL (m := m) hn hm ?_ hk hl hd
  exact add_str (fun t' tk => q _ _ _) hz
theorem ns_keep {h h' : Heap} {L : Addr} {m : Str → Option Value} (n : h.Ns L m) (k : ∀ o, h.get? L = some o → h'.get? L = some o) : h'.Ns L m := by
  obtain ⟨oL, es, ep, hL, r⟩ := n
  exact ⟨oL, es, ep, k _ hL, r⟩
section
variable {prog : Program} {w : World} {A : Around} {R : Result → Shared → Prop} {s : Shared} {K : Frag} {C fI : Addr} {qual : Str} {params : Arguments} {rest : List Stmt} {scope : Scope} {e : Expr} {p0 p1 p2 p3 p4 : Pos} {ps : List Str}
/-- super().__init__(text), then the rest -/
theorem init_super {mg : Str → Option Value} (T : ErrK prog K C fI qual params (stSuper e p0 p1 p2 p3 p4 :: rest) scope) (S : ErrS qual params (stSuper e p0 p1 p2 p3 p4 :: rest) scope ps)
    (htop : (prog.main.scope.names.lookup ("super" : Str)).isSome = false) {x t0 : Addr} {vs : List Value} (hlen : vs.length = ps.length) (X : K.In s.heap) (hlim : s.heap.NoLimit) (hG : s.heap.Ns mainGlobals mg) (hm : mg "super" = none)
    (hB : ∃ mb, s.heap.Ns builtinsNs mb ∧ mb "super" = some (.type "super")) (hx : s.heap.get? x = some (HandSPX.excO C t0)) (hxC : x ≠ C) (hroom : A.depth < recursionLimit) (hcall : ∀ L cda cc : Addr, CallOk (envX qual scope L fI (.ref cda) [("__class__", cc)]) e p0 p1 p2 p3 p4)
    (he : ∀ cc cda : Addr, MsgOk e (envX qual scope s.heap.objs.size fI (.ref cda) [("__class__", cc)]) (fun y => ((("self" : Str) :: ps).zip (.ref x :: vs)).reverse.lookup y))
    (hq : ∀ h₁ tk₁ t1 (cc cda : Addr), (∀ b o, b ≠ x → s.heap.get? b = some o → h₁.get? b = some o) → h₁.get? x = some (HandSPX.excO C t1) → h₁.Ns s.heap.objs.size (fun y => ((("self" : Str) :: ps).zip (.ref x :: vs)).reverse.lookup y) →
      wpAny (model prog w) (A.deeper (envX qual scope s.heap.objs.size fI (.ref cda) [("__class__", cc)])) (execs rest (envX qual scope s.heap.objs.size fI (.ref cda) [("__class__", cc)])) (fun f s' => R (.ok (.ret (match f with | .ret v => v | _ => .none))) s')
        (fun ev s' => wpAny (model prog w) (A.deeper (envX qual scope s.heap.objs.size fI (.ref cda) [("__class__", cc)])) (leaving (envX qual scope s.heap.objs.size fI (.ref cda) [("__class__", cc)]) ev) (fun _ s'' => R (.error ev) s'') (fun e' s'' => R (.error e') s'') s')
        { s with heap := h₁, toks := tk₁ }) :
    codeAny (model prog w) A (.call (.ref fI) ⟨.ref x :: vs, []⟩) R s := by
  obtain ⟨oc, od, osl, cc, cda, kV, doc, pm, ct, an, fvs, file, tf, o1, o2, d1, d2, s1, s2, lk, hcd, hcode, hvs, hfile, hcell⟩ := T.fn
  obtain ⟨ar, har, hself⟩ := S.head
  have hxL : s.heap.objs.size ≠ x := Nat.ne_of_gt (Heap.lt_size hx)
  have hself' : ((("self" : Str) :: ps).zip (Value.ref x :: vs)).reverse.lookup ("self" : Str) = some (.ref x) := by
    rw [List.zip_cons_cons, List.reverse_cons, List.lookup_append]
    have : (ps.zip vs).reverse.lookup ("self" : Str) = none := by
      rw [List.lookup_eq_none_iff]
      intro p hp
      have hp' := (List.mem_reverse.mp hp)
      have h1 : p.1 ∈ ps := (List.of_mem_zip (a := p.1) (b := p.2) hp').1
      have nd := (List.nodup_cons.mp S.nd).1
      simp only [bne_iff_ne, ne_eq, beq_iff_eq, Bool.not_eq_true, beq_eq_false_iff_ne]
      intro q
      exact nd (q ▸ h1)
    rw [this]
    simp
  refine ks_codeAny_call_defAt (fd := fnX "__init__" qual params (stSuper e p0 p1 p2 p3 p4 :: rest) scope [("__class__", cc)] .none kV doc pm an (.ref cda) ct) (body := stSuper e p0 p1 p2 p3 p4 :: rest) (binds := (("self" : Str) :: ps).zip (.ref x :: vs)) hroom (X _ _ lk) rfl hlim (codeRec_of X hcd) rfl
    (BindsTo.of_eq (S.bind _ _ _ _ _ _ _ _ (by rw [List.length_cons, hlen]))) S.cell ?_ (fun h₁ hns hk₁ => ?_) S.co S.gen S.kind
  · intro y hy
    have h1 : y.1 ∈ ("self" : Str) :: ps := (List.of_mem_zip (a := y.1) (b := y.2) hy).1
    rcases List.mem_cons.mp h1 with q | q
    · rw [q]; exact S.slf
    · exact S.loc _ q
  have X₁ : K.In h₁ := X.keeps hk₁
  obtain ⟨cd, hcC⟩ : ∃ cd, clsIn K C = some cd := by
    have z := T.sup
    unfold ks_superIn at z
    cases q : clsIn K C with
    | none => rw [q] at z; cases z
    | some cd => exact ⟨cd, rfl⟩
  obtain ⟨oD, hD1, hD2⟩ : ∃ oD, h₁.get? C = some oD ∧ oD.data = .cls cd := by
    unfold clsIn at hcC
    split at hcC
    · rename_i c d cd' sl ho
      cases hcC
      exact ⟨_, X₁ _ _ ho, rfl⟩
    · cases hcC
  have hx₁ := hk₁ _ _ hx
  obtain ⟨mb, hB1, hB2⟩ := hB
  have hin : Looks (model prog w) h₁ (isInstance (.ref x) (.type "Exception")) true := (InstAt.type (ox := HandSPX.excO C t0) (od := none) ⟨hx₁, rfl, rfl, trivial⟩).andThen (looks_subIn X₁ T.exE)
  show _root_.PySem.wpAt _ _ (.func _ (envX qual scope s.heap.objs.size fI (.ref cda) [("__class__", cc)])) (execs _ (envX qual scope s.heap.objs.size fI (.ref cda) [("__class__", cc)])) _ _ _
  obtain ⟨⟨pl, hev⟩, hst, hsw, hint⟩ := hcall s.heap.objs.size cda cc
  refine ks_wpAt_execs_cons (ks_wpAt_Expr_any (ks_wpAt_MethodCall (he := hev) (ks_wpAt_super_base (attr := "__init__") S.sup S.klass (by decide) rfl (X₁ _ _ lk) rfl har rfl (X₁ _ _ hcode) rfl hvs hfile htop ?_)) (hi := hint) (hs := hsw))
  refine ks_loadName_global S.kind S.sup (loadGlobal_builtin (mg := mg) (mb := mb) (ns_keep hG (fun o q => hk₁ _ _ q)) hm (ns_keep hB1 (fun o q => hk₁ _ _ q)) hB2 ⟨rfl, ?_⟩)
  refine wpAny_loadName_free S.kind S.klass rfl ⟨_, X₁ _ _ hcell, rfl⟩ ?_
  refine wpAny_loadName_local S.kind (by rw [hself]; exact S.slf) hns (by rw [hself]; exact hself') ?_
  refine ks_wpAny_isType_cls hD1 hD2 ⟨rfl, ?_⟩
  refine ks_wpAny_call_super hD1 hD2 hx₁ rfl (fun c q => nomatch q) (looks_mroIn X₁ T.me) (fun h₂ e₂ k₂ => ?_)
  have hsuper := T.sup
  unfold ks_superIn at hsuper
  rw [hcC] at hsuper
  have X₂ : K.In h₂ := X₁.keeps k₂
  have hx₂ := k₂ _ _ hx₁
  refine kxs_getMethod kxs_Exception e₂ (looks_opaque X₂ T.opq) (l₀ := cd.mro) (fun A Q E s k q => wpAny_bind ((looks_clsIn X₂ hcC) A _ E s k (wpAny_pure q))) rfl X₂ hsuper (hin.keeps k₂) hxC (by decide) ?_
  have k₃ : ∀ b o, h₂.get? b = some o → (h₂.push (kxs_mw "Exception.__init__" x)).get? b = some o := fun b o q => Heap.get?_push_of_some _ q
  have hu : (h₂.push (kxs_mw "Exception.__init__" x)).get? h₂.objs.size = some (kxs_mw "Exception.__init__" x) := Heap.get?_push_at rfl rfl
  rw [hst]
  refine ESX.callWith_bw (x := x) rfl (evalArgs_plain ?_)
  show wpAny _ _ (spliced [(false, eval e _)]) _ _ _
  refine Calls.spliced_cons (he cc cda _ prog w rfl _ _ _ _ (ns_keep hns fun o q => k₃ _ _ (k₂ _ _ q)) fun z tz tz' => Calls.spliced_nil ⟨hu, ?_⟩)
  obtain ⟨nm, N, qn, bs, bm, hdct, sn, sub, ab, col, dd, k0, k1, kk2, kk3, k5, hC, hT⟩ := excInit_of (X₂.keeps k₃) T.cls
  refine ESX.call_bw hC (k₃ _ _ hx₂) hu (by show 1 ≤ sizeLine; decide) fun h₄ t1 k₄ hx₄ => ?_
  refine _root_.PySem.wpAt_of_wpAny ?_
  exact hq h₄ _ t1 cc cda (fun b o hb q => k₄ b o hb (k₃ _ _ (k₂ _ _ (hk₁ _ _ q)))) hx₄ (ns_keep hns fun o q => k₄ _ _ hxL (k₃ _ _ (k₂ _ _ q)))
end

/-! ### self.f = v on such an exception -/
section
variable {prog : Program} {w : World} {A : Around} {E : Value → Shared → Prop} {R : Result → Shared → Prop} {hp : Heap} {g : Array GenState} {d : Drawn} {t : Nat} {os : OsState}
theorem taker_none {K : Frag} {C : Addr} {f : Str} (h : findIn K (.ref C) f = some none) : takerIn K C f = some none := by
  unfold takerIn
  rw [h]
  rfl
theorem osa_new {K : Frag} {name : Str} {tk : Tok} {v : Value} {x C : Addr} {fv : Array Value} {cd : ClassData}
    (X : K.In hp) (hx : hp.get? x = some { cls := .ref C, data := .fields fv }) (hov : excOver K C exT = true) (hcd : clsIn K C = some cd) (hh : cd.hasDict = true) (ha : findIn K (.ref C) name = some none)
    (hq : ∀ h' tk' dx, (∀ b o, b ≠ x → hp.get? b = some o → h'.get? b = some o) → hp.objs.size ≤ dx → dx ≠ x → h'.get? x = some { cls := .ref C, dict := some dx, data := .fields fv } →
      h'.Ns1 dx (fun y => if y = name then some v else none) → R (.ok (.ret .none)) ⟨h', g, d, tk', os⟩) :
    codeAny (model prog w) A (.call (.builtin "object.__setattr__") ⟨[.ref x, .str name tk, v], []⟩) R ⟨hp, g, d, t, os⟩ := by
  have I : InstAt hp x { cls := .ref C, data := .fields fv } C none := ⟨hx, rfl, rfl, trivial⟩
  have hxs : x ≠ hp.objs.size := Nat.ne_of_lt (Heap.lt_size hx)
  refine osa_openX (s := ⟨hp, g, d, t, os⟩) F.store_Exception X I hov (taker_none ha) fun b => ?_
  have hcls : Looks (model prog w) hp (classData C) cd := looks_clsIn X hcd
  show wpAny _ _ (storeInOwnDict (.ref x) (.ref C) (.str name tk) name v b) _ _ _
  obtain ⟨nm, bs, mro, ns, qn, hd, sn, sb, ab, col, del⟩ := cd
  dsimp only at hh
  subst hh
  unfold storeInOwnDict ownDictForStores
  repeat (first | with_reducible refine HandSPX.store_in_new ?_ ?_ | with_reducible refine wpAny_loadPart_at hx ?_ | with_reducible refine hcls.at ?_ | wp_step)
  · exact ⟨_, #[], _, (Heap.get?_update_ne _ _ _ _ hxs.symm).trans (Heap.get?_push_at rfl rfl), rfl, fun e he => absurd he (by simp), fun _ => rfl⟩
  · intro h' tk' hn' hs
    have hx₁ : (hp.push { cls := .type "dict", data := .dict #[] }).get? x = some { cls := .ref C, data := .fields fv } := Heap.get?_push_of_some _ hx
    refine hq h' tk' hp.objs.size (fun b o hb ho => ?_) (Nat.le_refl _) hxs.symm ?_ hn'
    · exact (hs.2 b (Nat.ne_of_lt (Heap.lt_size ho))).trans ((Heap.get?_update_ne _ _ _ _ hb).trans (Heap.get?_push_of_some _ ho))
    · exact (hs.2 x hxs).trans (Heap.get?_update_self _ hx₁ rfl)
theorem osa_old {K : Frag} {name : Str} {tk : Tok} {v : Value} {x C dx : Addr} {fv : Array Value} {cd : ClassData} {m0 : Str → Option Value} {nl : List Str}
    (X : K.In hp) (hx : hp.get? x = some { cls := .ref C, dict := some dx, data := .fields fv }) (hns : hp.Ns1 dx m0) (hw : Within m0 nl) (hz : nl.length ≤ 1000) (hov : excOver K C exT = true) (hcd : clsIn K C = some cd) (hh : cd.hasDict = true)
    (ha : findIn K (.ref C) name = some none)
    (hq : ∀ h' tk', (∀ b o, b ≠ dx → hp.get? b = some o → h'.get? b = some o) → h'.Ns1 dx (fun y => if y = name then some v else m0 y) → R (.ok (.ret .none)) ⟨h', g, d, tk', os⟩) :
    codeAny (model prog w) A (.call (.builtin "object.__setattr__") ⟨[.ref x, .str name tk, v], []⟩) R ⟨hp, g, d, t, os⟩ := by
  obtain ⟨oD, esD, epD, hoD, hdD, _⟩ := hns.count hw
  have I : InstAt hp x { cls := .ref C, dict := some dx, data := .fields fv } C (some oD) := ⟨hx, rfl, rfl, hoD⟩
  refine osa_openX (s := ⟨hp, g, d, t, os⟩) F.store_Exception X I hov (taker_none ha) fun b => ?_
  have hcls : Looks (model prog w) hp (classData C) cd := looks_clsIn X hcd
  show wpAny _ _ (storeInOwnDict (.ref x) (.ref C) (.str name tk) name v b) _ _ _
  obtain ⟨nm, bs, mro, ns, qn, hd, sn, sb, ab, col, del⟩ := cd
  dsimp only at hh
  subst hh
  unfold storeInOwnDict ownDictForStores
  repeat (first | with_reducible refine ESX.store_in_old hns hw hz ?_ | with_reducible refine wpAny_loadPart_at hx ?_ | with_reducible refine hcls.at ?_ | wp_step)
  intro h' tk' hn' hs
  exact hq h' tk' (fun b o hb ho => (hs.2 b hb).trans ho) hn'
end

/-- a made error: what is new at e (class C, own dict d) -/
structure OwnMade (h h' : Heap) (e C : Addr) (d : Option Addr) (m : Str → Option Value) : Prop where
  keep : ∀ b o, h.get? b = some o → h'.get? b = some o
  new : h.objs.size ≤ e
  obj : ∃ oe vs, h'.get? e = some oe ∧ oe.cls = .ref C ∧ oe.dict = d ∧ oe.data = .fields vs ∧ vs[1]? = some .none
  dic : ∀ a, d = some a → h.objs.size ≤ a ∧ a ≠ e ∧ h'.Ns1 a m
/-- what __init__ leaves of a fresh exception at x -/
def InitEnd (h h' : Heap) (x C : Addr) (d : Option Addr) (m : Str → Option Value) : Prop :=
  (∀ b o, b ≠ x → h.get? b = some o → h'.get? b = some o) ∧ (∃ t1, h'.get? x = some { cls := .ref C, dict := d, data := .fields #[.ref t1, .none, .none, .none, .bool false, .none] }) ∧
    ∀ a, d = some a → h.objs.size ≤ a ∧ a ≠ x ∧ h'.Ns1 a m
section
variable {prog : Program} {w : World} {A : Around} {R : Flow → Shared → Prop} {E : Value → Shared → Prop} {s : Shared} {K : Frag} {C fI : Addr} {qual : Str} {params : Arguments} {body rest : List Stmt} {scope : Scope} {f1 f2 : Str} {q1 q2 q3 q4 r1 r2 r3 r4 : Pos} {env : Env} {m : Str → Option Value} {v1 v2 : Value} {x t1 : Addr}
theorem store_one (T : ErrK prog K C fI qual params body scope) (X : K.In s.heap) (hk : env.scope.kind = .function) (hls : env.kindOf "self" = some .local) (hl1 : env.kindOf f1 = some .local) (hd1 : (f1 == ("__debug__" : Str)) = false)
    (hn : s.heap.Ns env.locals m) (hms : m "self" = some (.ref x)) (hm1 : m f1 = some v1) (hno : findIn K (.ref C) f1 = some none) (hx : s.heap.get? x = some (HandSPX.excO C t1)) (hnx : K.lookup x = none) (hLx : env.locals ≠ x)
    (hsw : swapsWith (.Name f1 q3) (some (.Attribute (.Name "self" q1) f1 q2)) q4.line env = pure false)
    (hq : ∀ h' tk' dx, (∀ b o, b ≠ x → s.heap.get? b = some o → h'.get? b = some o) → s.heap.objs.size ≤ dx → dx ≠ x → h'.get? x = some { cls := .ref C, dict := some dx, data := .fields #[.ref t1, .none, .none, .none, .bool false, .none] } →
      h'.Ns1 dx (fun y => if y = f1 then some v1 else none) → K.In h' → h'.Ns env.locals m → wpAny (model prog w) A (execs rest env) R E { s with heap := h', toks := tk' }) :
    wpAny (model prog w) A (execs (stStore f1 q1 q2 q3 q4 :: rest) env) R E s := by
  obtain ⟨cd, hcC⟩ : ∃ cd, clsIn K C = some cd := by
    have z := T.sup
    unfold ks_superIn at z
    cases q : clsIn K C with
    | none => rw [q] at z; cases z
    | some cd => exact ⟨cd, rfl⟩
  have hdict : cd.hasDict = true := by
    have z := T.hdC
    unfold hasDictIn at z
    rw [hcC] at z
    exact z
  refine wpAny_execs_cons (plainObj_wpAny_Assign_Attribute ?_ hsw)
  refine ESX.ldL (m := m) hn hm1 (ESX.ldL (m := m) hn hms ?_ hk hls (by decide)) hk hl1 hd1
  refine set_plain X (ox := HandSPX.excO C t1) (od := none) ⟨hx, rfl, rfl, trivial⟩ T.sa ?_
  obtain ⟨hp, g, d, t, os⟩ := s
  refine osa_new X hx T.over hcC hdict hno (fun h₃ tk₃ dx k₃ dn dne hx₃ hn₃ => ?_)
  refine hq h₃ tk₃ dx k₃ dn dne hx₃ hn₃ ?_ (ns_keep hn fun o q => k₃ _ _ hLx q)
  exact fun a o e => k₃ a o (fun z => by rw [z, hnx] at e; cases e) (X a o e)
theorem store_two (T : ErrK prog K C fI qual params body scope) (X : K.In s.heap) {dx : Addr} {m0 : Str → Option Value} (hk : env.scope.kind = .function) (hls : env.kindOf "self" = some .local) (hl1 : env.kindOf f1 = some .local) (hd1 : (f1 == ("__debug__" : Str)) = false)
    (hn : s.heap.Ns env.locals m) (hms : m "self" = some (.ref x)) (hm1 : m f1 = some v1) (hno : findIn K (.ref C) f1 = some none) (hx : s.heap.get? x = some { cls := .ref C, dict := some dx, data := .fields #[.ref t1, .none, .none, .none, .bool false, .none] })
    (hns : s.heap.Ns1 dx m0) (hw : Within m0 [f2])
    (hsw : swapsWith (.Name f1 q3) (some (.Attribute (.Name "self" q1) f1 q2)) q4.line env = pure false)
    (hq : ∀ h' tk', (∀ b o, b ≠ dx → s.heap.get? b = some o → h'.get? b = some o) → h'.Ns1 dx (fun y => if y = f1 then some v1 else m0 y) → wpAny (model prog w) A (execs rest env) R E { s with heap := h', toks := tk' }) :
    wpAny (model prog w) A (execs (stStore f1 q1 q2 q3 q4 :: rest) env) R E s := by
  obtain ⟨cd, hcC⟩ : ∃ cd, clsIn K C = some cd := by
    have z := T.sup
    unfold ks_superIn at z
    cases q : clsIn K C with
    | none => rw [q] at z; cases z
    | some cd => exact ⟨cd, rfl⟩
  have hdict : cd.hasDict = true := by
    have z := T.hdC
    unfold hasDictIn at z
    rw [hcC] at z
    exact z
  refine wpAny_execs_cons (plainObj_wpAny_Assign_Attribute ?_ hsw)
  refine ESX.ldL (m := m) hn hm1 (ESX.ldL (m := m) hn hms ?_ hk hls (by decide)) hk hl1 hd1
  obtain ⟨oD, _, _, hoD, _, _⟩ := hns.count hw
  refine set_plain X (ox := { cls := .ref C, dict := some dx, data := .fields #[.ref t1, .none, .none, .none, .bool false, .none] }) (od := some oD) ⟨hx, rfl, rfl, hoD⟩ T.sa ?_
  obtain ⟨hp, g, d, t, os⟩ := s
  refine osa_old X hx hns hw (by show 1 ≤ 1000; decide) T.over hcC hdict hno (fun h₃ tk₃ k₃ hn₃ => ?_)
  exact hq h₃ tk₃ k₃ hn₃
end

/-- the body: super().__init__(e), then a store a parameter (none, one or two) -/
def BodyIs (e : Expr) (p0 p1 p2 p3 p4 : Pos) (body : List Stmt) : List Str → Prop
  | [] => body = [stSuper e p0 p1 p2 p3 p4]
  | [f] => ∃ q1 q2 q3 q4, body = [stSuper e p0 p1 p2 p3 p4, stStore f q1 q2 q3 q4]
  | [f, f'] => ∃ q1 q2 q3 q4 r1 r2 r3 r4, body = [stSuper e p0 p1 p2 p3 p4, stStore f q1 q2 q3 q4, stStore f' r1 r2 r3 r4]
  | _ => False
/-- the own dict's words -/
def fldM : List Str → List Value → Str → Option Value
  | [f], [v] => fun y => if y = f then some v else none
  | [f, f'], [v, v'] => fun y => if y = f' then some v' else if y = f then some v else none
  | _, _ => fun _ => none
theorem swaps_store {f : Str} {q1 q2 q3 q4 : Pos} {env : Env} : swapsWith (.Name f q3) (some (.Attribute (.Name "self" q1) f q2)) q4.line env = pure false := by rfl
section
variable {prog : Program} {w : World} {A : Around} {R : Result → Shared → Prop} {s : Shared} {K : Frag} {C fI : Addr} {qual : Str} {params : Arguments} {body : List Stmt} {scope : Scope} {e : Expr} {p0 p1 p2 p3 p4 : Pos} {ps : List Str}
theorem init_end {mg : Str → Option Value} (T : ErrK prog K C fI qual params body scope) (S : ErrS qual params body scope ps) (hb : BodyIs e p0 p1 p2 p3 p4 body ps) (hdb : ∀ p ∈ ps, (p == ("__debug__" : Str)) = false)
    (hno : ∀ p ∈ ps, findIn K (.ref C) p = some none)
    (htop : (prog.main.scope.names.lookup ("super" : Str)).isSome = false) {x t0 : Addr} {vs : List Value} (hlen : vs.length = ps.length) (X : K.In s.heap) (hlim : s.heap.NoLimit) (hG : s.heap.Ns mainGlobals mg) (hm : mg "super" = none)
    (hB : ∃ mb, s.heap.Ns builtinsNs mb ∧ mb "super" = some (.type "super")) (hx : s.heap.get? x = some (HandSPX.excO C t0)) (hnx : K.lookup x = none) (hxC : x ≠ C) (hroom : A.depth < recursionLimit) (hcall : ∀ L cda cc : Addr, CallOk (envX qual scope L fI (.ref cda) [("__class__", cc)]) e p0 p1 p2 p3 p4)
    (he : ∀ L cc cda : Addr, MsgOk e (envX qual scope L fI (.ref cda) [("__class__", cc)]) (fun y => ((("self" : Str) :: ps).zip (.ref x :: vs)).reverse.lookup y))
    (hq : ∀ h' tk' d, InitEnd s.heap h' x C d (fldM ps vs) → (d = none ↔ ps = []) → R (.ok (.ret .none)) { s with heap := h', toks := tk' }) :
    codeAny (model prog w) A (.call (.ref fI) ⟨.ref x :: vs, []⟩) R s := by
  have hLx : s.heap.objs.size ≠ x := Nat.ne_of_gt (Heap.lt_size hx)
  match ps, vs, hlen with
  | [], [], _ =>
    have hb' : body = [stSuper e p0 p1 p2 p3 p4] := hb
    subst hb'
    refine init_super T S htop rfl X hlim hG hm hB hx hxC hroom hcall (fun cc cda => he _ cc cda) fun h₁ tk₁ t1 cc cda k hx₁ hn₁ => ?_
    exact wpAny_execs_nil (hq h₁ _ none ⟨k, ⟨_, hx₁⟩, fun a z => nomatch z⟩ ⟨fun _ => rfl, fun _ => rfl⟩)
  | [f], [v], _ =>
    obtain ⟨q1, q2, q3, q4, hb'⟩ := hb
    subst hb'
    refine init_super T S htop rfl X hlim hG hm hB hx hxC hroom hcall (fun cc cda => he _ cc cda) fun h₁ tk₁ t1 cc cda k hx₁ hn₁ => ?_
    have X₁ : K.In h₁ := fun a o q => k a o (fun z => by rw [z, hnx] at q; cases q) (X a o q)
    have nd := S.nd
    have hfs : f ≠ ("self" : Str) := fun q => (List.nodup_cons.mp nd).1 (by rw [q]; exact List.mem_cons_self)
    refine store_one (x := x) (v1 := v) T X₁ S.kind S.slf (S.loc _ List.mem_cons_self) (hdb _ List.mem_cons_self) hn₁ ?_ ?_ (hno _ List.mem_cons_self) hx₁ hnx hLx swaps_store ?_
    · show List.lookup ("self" : Str) [(f, v), (("self" : Str), Value.ref x)] = some (.ref x)
      have q : (("self" : Str) == f) = false := by simpa using (Ne.symm hfs)
      rw [List.lookup_cons, q]
      simp
    · show List.lookup f [(f, v), (("self" : Str), Value.ref x)] = some v
      simp
    · intro h' tk' dx k' dn dne hx' hn' X' hnL
      have hsz : s.heap.objs.size ≤ dx := by
        refine Nat.le_trans ?_ dn
        show s.heap.objs.size ≤ h₁.objs.size
        obtain ⟨oL, es, ep, hL, r⟩ := hn₁
        exact Nat.le_of_lt (Heap.lt_size hL)
      exact wpAny_execs_nil (hq h' _ (some dx) ⟨fun b o hb q => k' b o hb (k b o hb q), ⟨_, hx'⟩, fun a z => by cases z; exact ⟨hsz, dne, hn'⟩⟩ ⟨(fun z => nomatch z), (fun z => nomatch z)⟩)
  | [f, f'], [v, v'], _ =>
    obtain ⟨q1, q2, q3, q4, r1, r2, r3, r4, hb'⟩ := hb
    subst hb'
    refine init_super T S htop rfl X hlim hG hm hB hx hxC hroom hcall (fun cc cda => he _ cc cda) fun h₁ tk₁ t1 cc cda k hx₁ hn₁ => ?_
    have X₁ : K.In h₁ := fun a o q => k a o (fun z => by rw [z, hnx] at q; cases q) (X a o q)
    have nd := S.nd
    have hfs : f ≠ ("self" : Str) := fun q => (List.nodup_cons.mp nd).1 (by rw [q]; exact List.mem_cons_self)
    have hfs' : f' ≠ ("self" : Str) := fun q => (List.nodup_cons.mp nd).1 (by rw [q]; exact List.mem_cons_of_mem _ List.mem_cons_self)
    have hff : f ≠ f' := fun q => (List.nodup_cons.mp (List.nodup_cons.mp nd).2).1 (by rw [q]; exact List.mem_cons_self)
    have lS : List.lookup ("self" : Str) [(f', v'), (f, v), (("self" : Str), Value.ref x)] = some (.ref x) := by
      have q : (("self" : Str) == f) = false := by simpa using (Ne.symm hfs)
      have q' : (("self" : Str) == f') = false := by simpa using (Ne.symm hfs')
      rw [List.lookup_cons, q']
      simp only []
      rw [List.lookup_cons, q]
      simp
    have lF : List.lookup f [(f', v'), (f, v), (("self" : Str), Value.ref x)] = some v := by
      have q : (f == f') = false := by simpa using hff
      rw [List.lookup_cons, q]
      simp
    have lF' : List.lookup f' [(f', v'), (f, v), (("self" : Str), Value.ref x)] = some v' := by simp
    refine store_one (x := x) (v1 := v) T X₁ S.kind S.slf (S.loc _ List.mem_cons_self) (hdb _ List.mem_cons_self) hn₁ lS lF (hno _ List.mem_cons_self) hx₁ hnx hLx swaps_store ?_
    intro h' tk' dx k' dn dne hx' hn' X' hnL
    have hsz : s.heap.objs.size ≤ dx := by
      refine Nat.le_trans ?_ dn
      show s.heap.objs.size ≤ h₁.objs.size
      obtain ⟨oL, es, ep, hL, r⟩ := hn₁
      exact Nat.le_of_lt (Heap.lt_size hL)
    refine store_two (x := x) (v1 := v') (f2 := f) T X' S.kind S.slf (S.loc _ (List.mem_cons_of_mem _ List.mem_cons_self)) (hdb _ (List.mem_cons_of_mem _ List.mem_cons_self)) hnL lS lF' (hno _ (List.mem_cons_of_mem _ List.mem_cons_self)) hx' hn' ?_ swaps_store ?_
    · intro y hy
      show y ∈ [f]
      by_cases z : y = f
      · rw [z]; exact List.mem_cons_self
      · exact absurd (if_neg z) hy
    · intro h3 tk3 k3 hn3
      refine wpAny_execs_nil (hq h3 _ (some dx) ⟨fun b o hb q => ?_, ⟨_, k3 _ _ (Ne.symm dne) hx'⟩, fun a z => by cases z; exact ⟨hsz, dne, hn3⟩⟩ ⟨(fun z => nomatch z), (fun z => nomatch z)⟩)
      exact k3 b o (Nat.ne_of_lt (Nat.lt_of_lt_of_le (Heap.lt_size q) hsz)) (k' b o hb (k b o hb q))
  | _ :: _ :: _ :: _, _, _ => exact hb.elim
theorem err_made {mg : Str → Option Value} (T : ErrK prog K C fI qual params body scope) (S : ErrS qual params body scope ps) (hb : BodyIs e p0 p1 p2 p3 p4 body ps) (hdb : ∀ p ∈ ps, (p == ("__debug__" : Str)) = false)
    (hno : ∀ p ∈ ps, findIn K (.ref C) p = some none)
    (htop : (prog.main.scope.names.lookup ("super" : Str)).isSome = false) {vs : List Value} (hlen : vs.length = ps.length) (X : K.In s.heap) (hlim : s.heap.NoLimit) (hG : s.heap.Ns mainGlobals mg) (hm : mg "super" = none)
    (hB : ∃ mb, s.heap.Ns builtinsNs mb ∧ mb "super" = some (.type "super")) (hroom : A.depth + 1 < recursionLimit) (hcall : ∀ L cda cc : Addr, CallOk (envX qual scope L fI (.ref cda) [("__class__", cc)]) e p0 p1 p2 p3 p4)
    (he : ∀ x L cc cda : Addr, MsgOk e (envX qual scope L fI (.ref cda) [("__class__", cc)]) (fun y => ((("self" : Str) :: ps).zip (.ref x :: vs)).reverse.lookup y))
    (hq : ∀ h' tk' ex d, OwnMade s.heap h' ex C d (fldM ps vs) → (d = none ↔ ps = []) → R (.ok (.ret (.ref ex))) { s with heap := h', toks := tk' }) :
    codeAny (model prog w) A (.call (.ref C) ⟨vs, []⟩) R s := by
  obtain ⟨hp, g, dr, tk, os⟩ := s
  have k : ∀ b o, hp.get? b = some o → ((hp.push (kdv_tup vs)).push (HandSPX.excO C hp.objs.size)).get? b = some o := fun b o q => Heap.get?_push_of_some _ (Heap.get?_push_of_some _ q)
  have hget : ((hp.push (kdv_tup vs)).push (HandSPX.excO C hp.objs.size)).get? (hp.objs.size + 1) = some (HandSPX.excO C hp.objs.size) := by heap_get
  have hnx : K.lookup (hp.objs.size + 1) = none := by
    cases q : K.lookup (hp.objs.size + 1) with
    | none => rfl
    | some o =>
      have z : hp.get? (hp.objs.size + 1) = some o := X _ _ q
      exact absurd (Nat.lt_of_succ_lt (Heap.lt_size z)) (Nat.lt_irrefl _)
  obtain ⟨nm, N, qn, bs, bm, hdct, sn, sub, ab, col, dd, k0, k1, kk2, kk3, k5, hC, hT⟩ := excInit_of X T.cls
  have hvs : vs.length ≤ sizeLine := by
    rw [hlen]
    match ps, hb with
    | [], _ => exact Nat.zero_le _
    | [_], _ => exact (by decide : 1 ≤ sizeLine)
    | [_, _], _ => exact (by decide : 2 ≤ sizeLine)
    | _ :: _ :: _ :: _, hb => exact hb.elim
  have hxC : hp.objs.size + 1 ≠ C := fun q => by
    rw [← q] at hC
    exact absurd (Nat.lt_of_succ_lt (Heap.lt_size hC)) (Nat.lt_irrefl _)
  refine HandSPX.call_own F.excBase_Exception hT hC (looks_findIn X T.iC) (fun self => bind_fn X self T.tI) hvs ?_
  obtain ⟨mb, hB1, hB2⟩ := hB
  refine init_end (s := ⟨(hp.push (kdv_tup vs)).push (HandSPX.excO C hp.objs.size), g, dr, tk, os⟩) (mg := mg) T S hb hdb hno htop hlen (X.keeps k) (hlim.keeps k) (ns_keep hG fun o q => k _ _ q) hm ⟨mb, ns_keep hB1 fun o q => k _ _ q, hB2⟩ hget hnx hxC ?_ hcall (fun L cc cda => he _ L cc cda) fun h' tk' d ⟨k', ⟨t1, hx'⟩, hd⟩ hdn => ?_
  · show A.depth + 1 < recursionLimit
    exact hroom
  · have old : ∀ b o, hp.get? b = some o → h'.get? b = some o := fun b o q => k' b o (Nat.ne_of_lt (Nat.lt_succ_of_lt (Heap.lt_size q))) (k b o q)
    have hs2 : ((hp.push (kdv_tup vs)).push (HandSPX.excO C hp.objs.size)).objs.size = hp.objs.size + 1 + 1 := by rw [Heap.size_push, Heap.size_push]
    refine ⟨rfl, hq h' tk' (hp.objs.size + 1) d ⟨old, Nat.le_succ _, ⟨_, _, hx', rfl, rfl, rfl, rfl⟩, fun a z => ?_⟩ hdn⟩
    obtain ⟨z1, z2, z3⟩ := hd a z
    refine ⟨?_, z2, z3⟩
    have z1' : hp.objs.size + 1 + 1 ≤ a := by
      rw [← hs2]
      exact z1
    show hp.objs.size ≤ a
    omega
end
end NwX

namespace L2
open PySem PySem.Spec PyProof.Rows
/-! ### raise E(a, ..), E such a class -/
/-- the own dict of a made error -/
def errFs (ps : List Str) (vs : List V) : List (Str × V) := (ps.zip vs).reverse
theorem relO_fld : ∀ (ps : List Str) (vs : List V) (us : List Value), Vals vs us → vs.length = ps.length → ps.length ≤ 2 → ps.Nodup → ∀ f, RelO ((errFs ps vs).lookup f) (NwX.fldM ps us f)
  | [], [], us, h, _, _, _, f => by
    cases h
    trivial
  | [p], [v], us, h, _, _, _, f => by
    cases h with
    | cons r rn =>
      rename_i u us'
      cases rn
      show RelO (List.lookup f [(p, v)]) (if f = p then some u else none)
      by_cases hw : f = p
      · subst hw
        rw [if_pos rfl]
        have q : List.lookup f [(f, v)] = some v := by simp [List.lookup]
        rw [q]
        exact r
      · rw [if_neg hw]
        have qw : (f == p) = false := by simpa using hw
        have q2 : List.lookup f [(p, v)] = none := by simp [List.lookup, qw]
        rw [q2]
        trivial
  | [p, p'], [v, v'], us, h, _, _, nd, f => by
    cases h with
    | cons r rn =>
      rename_i u us'
      cases rn with
      | cons r' rn' =>
        rename_i u' us''
        cases rn'
        show RelO (List.lookup f [(p', v'), (p, v)]) (if f = p' then some u' else if f = p then some u else none)
        by_cases hw' : f = p'
        · subst hw'
          rw [if_pos rfl]
          have q : List.lookup f [(f, v'), (p, v)] = some v' := by simp [List.lookup]
          rw [q]
          exact r'
        · rw [if_neg hw']
          have qw' : (f == p') = false := by simpa using hw'
          rw [List.lookup_cons, qw']
          show RelO (List.lookup f [(p, v)]) (if f = p then some u else none)
          by_cases hw : f = p
          · subst hw
            rw [if_pos rfl]
            have q : List.lookup f [(f, v)] = some v := by simp [List.lookup]
            rw [q]
            exact r
          · rw [if_neg hw]
            have qw : (f == p) = false := by simpa using hw
            have q2 : List.lookup f [(p, v)] = none := by simp [List.lookup, qw]
            rw [q2]
            trivial
  | _ :: _ :: _ :: _, _, _, _, _, h3, _, _ => absurd h3 (by simp)
  | [], _ :: _, _, _, h, _, _, _ => nomatch h
  | [_], [], _, _, h, _, _, _ => nomatch h
  | [_], _ :: _ :: _, _, _, h, _, _, _ => absurd h (by simp)
  | [_, _], [], _, _, h, _, _, _ => nomatch h
  | [_, _], [_], _, _, h, _, _, _ => absurd h (by simp)
  | [_, _], _ :: _ :: _ :: _, _, _, h, _, _, _ => absurd h (by simp)
/-- what the top has of an error's class: x at C, with the fields ps; okv: which arguments may be passed -/
structure ErrOk (P : Program) (K : PySem.W.Frag) (mg : Str → Option Value) (x : Str) (C : Addr) (ps : List Str) (okv : List V → Prop) : Prop where
  gC : mg x = some (.ref C)
  gS : mg "super" = none
  htop : (P.main.scope.names.lookup ("super" : Str)).isSome = false
  ga : PySem.W.findIn K (.ref C) "__getattribute__" = some (some (.builtin "BaseException.__getattribute__"))
  gg : PySem.W.findIn K (.ref C) "__getattr__" = some none
  kC : PySem.W.keepIn K (.ref C) = true
  exC : PySem.W.subIn K (.ref C) (.type "BaseException") = some true
  tyC : PySem.W.typeIn K (.ref C) = some (.type "type")
  hdC : PySem.W.hasDictIn K C = true
  hno : ∀ p ∈ ps, PySem.W.findIn K (.ref C) p = some none
  hdb : ∀ p ∈ ps, (p == ("__debug__" : Str)) = false
  nd : ps.Nodup
  le2 : ps.length ≤ 2
  len : ∀ vs, okv vs → vs.length = ps.length
  made : ∃ (fI : Addr) (qual : Str) (params : Arguments) (body : List Stmt) (scope : Scope) (e : Expr) (p0 p1 p2 p3 p4 : Pos), NwX.ErrK P K C fI qual params body scope ∧ NwX.ErrS qual params body scope ps ∧ NwX.BodyIs e p0 p1 p2 p3 p4 body ps ∧
    (∀ L cda cc : Addr, NwX.CallOk (PySem.W.envX qual scope L fI (.ref cda) [("__class__", cc)]) e p0 p1 p2 p3 p4) ∧
    ∀ (vs : List V) (us : List Value), okv vs → Vals vs us → ∀ x L cc cda : Addr, NwX.MsgOk e (PySem.W.envX qual scope L fI (.ref cda) [("__class__", cc)]) (fun y => ((("self" : Str) :: ps).zip (.ref x :: us)).reverse.lookup y)
section
variable {X : Cx} {C : Addr} {x : Str} {ps : List Str} {okv : List V → Prop}
/-- E(a, ..) -/
def tMkE (C : Addr) (ps : List Str) (okv : List V → Prop) (ta : TA) : St → Hp → XK → Prop := fun σ H Q => ta σ H fun vs H1 => okv vs ∧ ∀ d, H1 d = none → Q (.ref C) (some d) (upd H1 d (.xd (errFs ps vs)))
theorem pmk_err {a : Expr} {as : List Expr} {ta : TA} {p pos : Pos} {k : Nat} (T : ErrOk X.prog X.K X.mg x C ps okv) (hps : ps ≠ []) (hr : Room k X.A) (ha : PA X (a :: as) ta) (hg : Gl X x := by rfl) (hxd : (x == ("__debug__" : Str)) = false := by decide)
    (he : starEach (a :: as) X.env = (false, eval a X.env) :: starEach as X.env := by rfl) (hpl : (backTo pos (starEach as X.env)).any (·.1) = false := by rfl) :
    PMk X (.Call (.Name x p) (a :: as) [] pos) (tMkE C ps okv ta) := by
  intro pins s σ H Q I h
  refine wpAny_Call_Name_kw (ld_glob I hg T.gC ?_ hxd)
  refine PySem.W.callWith_K (h₀ := X.base) I.ok.mod.kin T.kC (thn (ha.run pos pins s σ H _ I h) fun us s1 hh => ?_) he hpl
  obtain ⟨vs, H1, I1, r1, okv1, q1⟩ := hh
  refine ⟨I1.kIn, ?_⟩
  show wpAny _ _ (call (.ref C) us) _ _ _
  have hlim := I1.nolimit
  have hG : s1.heap.Ns mainGlobals X.mg := I1.mod.glob.keeps I1.bk
  have hB : ∃ mb, s1.heap.Ns builtinsNs mb ∧ mb "super" = some (.type "super") := by
    obtain ⟨mb, h1, h2⟩ := I1.mod.blt
    exact ⟨mb, h1.keeps I1.bk, (h2 "super" (by decide +kernel)).trans (by first | rfl | decide +kernel | kernel_rfl)⟩
  obtain ⟨hp, g, dr, tk, os⟩ := s1
  obtain ⟨fI, qual, params, body, scope, e, p0, p1, p2, p3, p4, tK, tS, tB, tC, tM⟩ := T.made
  have hlv : vs.length = ps.length := T.len vs okv1
  have hlu : us.length = ps.length := by rw [← r1.length]; exact hlv
  refine wpAny_call (NwX.err_made (mg := X.mg) tK tS tB T.hdb T.hno T.htop hlu I1.kIn hlim hG T.gS hB (by have := hr.dp; omega) tC (fun x L cc cda => tM vs us okv1 r1 x L cc cda) fun h' tk' e d M hdn => ?_)
  show MkP X pins σ Q (.ref e) ⟨h', g, dr, tk', os⟩
  cases d with
  | none => exact absurd (hdn.mp rfl) hps
  | some d =>
    obtain ⟨oe, fv, hoe, hc, hd, hdat, h1⟩ := M.obj
    obtain ⟨Mdbig, Mdne, hns⟩ := M.dic d rfl
    obtain ⟨G', g1, g2⟩ := restrict h' fun b => decide (b ≠ e)
    have gk : ∀ b, b ≠ e → G'.get? b = h'.get? b := fun b hb => g1 b (decide_eq_true hb)
    have ge : G'.get? e = none := g2 e (by simp)
    have old : ∀ b o, hp.get? b = some o → G'.get? b = some o := fun b o q => (gk b (Nat.ne_of_lt (Nat.lt_of_lt_of_le (Heap.lt_size q) M.new))).trans (M.keep b o q)
    have ob : ObjOk X.prog X.w (upd H1 d (.xd (errFs ps vs))) G' d (.xd (errFs ps vs)) :=
      ⟨_, hns.at (fun o q => (gk d Mdne).trans q), fun f => relO_fld ps vs us r1 hlv T.le2 T.nd f⟩
    have J : Inv X pins σ (upd H1 d (.xd (errFs ps vs))) ⟨G', g, dr, tk', os⟩ := I1.laid (t' := tk') old Mdbig ob
    refine ⟨e, oe, fv, ⟨G', g, dr, tk', os⟩, _, .ref C, some d, rfl, J, fun b o q => ?_, ge, hoe, ⟨hc, hd⟩, hdat, h1, ?_, rfl, I1.bare, raises_own T.exC T.tyC, q1 d (I1.hok.fresh Mdbig)⟩
    · by_cases hb : b = e
      · have q' : G'.get? b = some o := q
        rw [hb, ge] at q'; cases q'
      · exact (gk b hb).symm.trans q
    · rw [upd_ne (Ne.symm Mdne)]
      exact I1.hok.fresh M.new
/-- raise E(a, ..) -/
def tRaiseE (C : Addr) (ps : List Str) (okv : List V → Prop) (W : WX) (ta : TA) : TS := fun _ σ H => tMkE C ps okv ta σ H fun cls d H' => W cls d σ H'
theorem ps_raiseE {a : Expr} {as : List Expr} {ta : TA} {W : WX} {p pos pos2 : Pos} {k : Nat} (hc : X.calm = true) (T : ErrOk X.prog X.K X.mg x C ps okv) (hps : ps ≠ []) (hr : Room k X.A) (tk : Takes X W) (ha : PA X (a :: as) ta) (hg : Gl X x := by rfl) (hxd : (x == ("__debug__" : Str)) = false := by decide)
    (he : starEach (a :: as) X.env = (false, eval a X.env) :: starEach as X.env := by rfl) (hpl : (backTo pos (starEach as X.env)).any (·.1) = false := by rfl) :
    PS X (.Raise (some (.Call (.Name x p) (a :: as) [] pos)) none pos2) (tRaiseE C ps okv W ta) := ps_raise hc tk (pmk_err T hps hr ha hg hxd he hpl)
/-- err.f, err the exception that the suite holds (at a; its class cls, its dict d) -/
def tByE (C : Addr) (f : Str) (a : Addr) (cls : Value) (d : Option Addr) (te : TE) : TE := fun σ H Q => te σ H fun x H1 => x = .ref a ∧ cls = .ref C ∧ ∃ (dd : Addr) (fs : List (Str × V)) (v : V), d = some dd ∧ H1 dd = some (.xd fs) ∧ fs.lookup f = some v ∧ Q v H1
theorem pe_byE {a : Addr} {oe : Obj} {cls : Value} {d : Option Addr} {pn : List (Addr × Obj)} {e : Expr} {te : TE} {f : Str} {pos : Pos} (T : ErrOk X.prog X.K X.mg x C ps okv) (hno : PySem.W.findIn X.K (.ref C) f = some none) (hz : Zc cls d oe) (hf : ∃ vs, oe.data = .fields vs) (he : PE (X.suite a ((a, oe) :: pn)) e te)
    (hb : attributeBase e f X.env (eval e X.env) = eval e X.env := by rfl) :
    PE (X.suite a ((a, oe) :: pn)) (.Attribute e f pos) (tByE C f a cls d te) := by
  refine ⟨fun pins s σ H Q I h => ?_⟩
  refine attr_of hb (thn (he.run pins s σ H _ I h) fun u s1 hh => ?_)
  obtain ⟨x, H1, I1, rx, ex, ec, dd, fs, v, ed, ea, el, q⟩ := hh
  subst ex
  obtain rfl : u = Value.ref a := rx
  subst ec
  subst ed
  obtain ⟨ha, _⟩ := I1.pin (a, oe) (List.mem_append_left _ List.mem_cons_self)
  obtain ⟨vs, hd⟩ := hf
  have hx : ObjOk X.prog X.w H1 s1.heap dd (.xd fs) := I1.hok dd _ ea
  obtain ⟨mA, hns, hr⟩ := hx
  obtain ⟨od, ho, hl⟩ := lookIn_ns hns
  obtain ⟨u, hu, ru⟩ := RelO.some_of (v := v) (o := mA f) (by rw [← el]; exact hr f)
  have J : PySem.W.InstAt s1.heap a oe C (some od) := ⟨ha, hz.1, by unfold PySem.W.notCls; rw [hd] <;> rfl, by rw [hz.2]; exact ho⟩
  exact HandSPX.exc_get I1.kIn J T.ga T.gg T.exC (PySem.W.findObj_own T.hdC hno rfl (by rw [hl, hu])) (handed_of ru) ⟨v, H1, I1.tok _, ru, q⟩
end
end L2
end
section
set_option Elab.async false
set_option linter.all false
set_option maxRecDepth 100000
set_option maxHeartbeats 2000000
/-! a head's facts: any truth of the written part, the defs, the errors' __init__s -/
namespace NwH
open PySem PySem.Spec PyProof.Rows L2 He
abbrev Frag := PySem.W.Frag
/-- what stands within n steps of the module's names -/
def reach (g : Addr → Option Obj) : Nat → List Addr
  | 0 => [mainGlobals, cStatics]
  | n + 1 => growD g (reach g n)
/-- an error's class: its name, the qualified name and text of its __init__, its fields -/
structure ErrD where
  cls : Str
  qual : Str
  params : Arguments
  body : List Stmt
  scope : Scope
  ps : List Str
abbrev FnE : Type := Option (Str × Str × Arguments × FuncBody × Scope × Addr × Addr)
def initAt (K : Frag) (x : Str) : Addr := ma K (ga K x) "__init__"
def fnE (K : Frag) (d : ErrD) : FnE := match K.lookup (initAt K d.cls) with
  | some ⟨_, _, .func fd, _⟩ => some (fd.name, fd.qualname, fd.params, fd.body, fd.scope, fd.globals, fd.builtins)
  | _ => none
def ErrD.val (d : ErrD) : FnE := some ("__init__", d.qual, d.params, .stmts d.body, d.scope, mainGlobals, builtinsNs)
def cellB (K : Frag) (C : Addr) (cl : List (Str × Addr)) : Bool := match cl with
  | [(n, cc)] => decide (n = "__class__") && (match K.lookup cc with
    | some ⟨_, _, .cell (some v), _⟩ => decide (v = .ref C)
    | _ => false)
  | _ => false
def codeB (K : Frag) (qual : Str) (file : Str) (cd : Value) : Bool := match cd with
  | .ref a => PySem.W.codeIn K (.ref a) qual && (match K.lookup a with
    | some ⟨_, _, .fields vs, _⟩ => (match (vs[2]? : Option Value) with
      | some (.str f _) => file == f
      | _ => false)
    | _ => false)
  | _ => false
def nonB : Value → Bool
  | .none => true
  | _ => false
def ErrD.ok (file : Str) (K : Frag) (d : ErrD) : Bool :=
  let C := ga K d.cls
  PySem.W.excInitIn K C NwX.exT "Exception.__new__" && (PySem.W.excOver K C NwX.exT && (eqO (PySem.W.findIn K (.ref C) "__setattr__") (some (some (.builtin "object.__setattr__"))) &&
  (eqO (PySem.W.findIn K (.ref C) "__getattribute__") (some (some (.builtin "BaseException.__getattribute__"))) && (eqO (PySem.W.findIn K (.ref C) "__getattr__") (some none) &&
  (eqO (PySem.W.findIn K (.ref C) "__init__") (some (some (.ref (initAt K d.cls)))) && (decide (PySem.W.typeIn K (.ref (initAt K d.cls)) = some (.type "function")) && (PySem.W.keepIn K (.ref C) &&
  (decide (PySem.W.subIn K (.ref C) (.type "BaseException") = some true) && (decide (PySem.W.subIn K (.ref C) (.type "Exception") = some true) && (decide (PySem.W.mroIn K C (.ref C) = some true) &&
  (decide (PySem.W.typeIn K (.ref C) = some (.type "type")) && (PySem.W.hasDictIn K C && (eqO (PySem.W.ks_superIn K C C "__init__") (some (some (.builtin "Exception.__init__"))) &&
  (eqO (PySem.W.nsIn K cStatics "thirdparty.any") (some none) && (d.ps.all (fun p => eqO (PySem.W.findIn K (.ref C) p) (some none)) &&
  (match K.lookup (initAt K d.cls) with
    | some ⟨_, _, .func fd, _⟩ => nonB fd.defaults && (cellB K C fd.closure && codeB K d.qual file fd.code)
    | _ => false))))))))))))))))
theorem cellB_ok {K : Frag} {C : Addr} {cl : List (Str × Addr)} (h : cellB K C cl = true) : ∃ cc o d s, cl = [(("__class__" : Str), cc)] ∧ K.lookup cc = some ⟨o, d, .cell (some (.ref C)), s⟩ := by
  match cl, h with
  | [(n, cc)], h =>
    obtain ⟨h1, h2⟩ := ba h
    have e1 : n = "__class__" := of_decide_eq_true h1
    subst e1
    cases q : K.lookup cc with
    | none => rw [q] at h2; cases h2
    | some ob =>
      obtain ⟨o, d, dt, s⟩ := ob
      rw [q] at h2
      cases dt with
      | cell v =>
        cases v with
        | none => cases h2
        | some v =>
          have e2 : v = .ref C := of_decide_eq_true h2
          subst e2
          exact ⟨cc, o, d, s, rfl, q⟩
      | _ => cases h2
  | [], h => cases h
  | _ :: _ :: _, h => cases h
theorem codeB_ok {K : Frag} {qual file : Str} {cd : Value} (h : codeB K qual file cd = true) : ∃ cda o d s vs f t, cd = .ref cda ∧ PySem.W.codeIn K (.ref cda) qual = true ∧ K.lookup cda = some ⟨o, d, .fields vs, s⟩ ∧ vs[2]? = some (.str f t) ∧ (file == f) = true := by
  cases cd with
  | ref a =>
    obtain ⟨h1, h2⟩ := ba (show (PySem.W.codeIn K (.ref a) qual && _) = true from h)
    cases q : K.lookup a with
    | none => rw [q] at h2; cases h2
    | some ob =>
      obtain ⟨o, d, dt, s⟩ := ob
      rw [q] at h2
      cases dt with
      | fields vs =>
        replace h2 : (match (vs[2]? : Option Value) with
          | some (.str f _) => file == f
          | _ => false) = true := h2
        cases q2 : vs[2]? with
        | none => rw [q2] at h2; cases h2
        | some v =>
          rw [q2] at h2
          cases v with
          | str f t => exact ⟨a, o, d, s, vs, f, t, rfl, h1, q, q2, h2⟩
          | _ => cases h2
      | _ => cases h2
  | _ => cases h
/-- the facts of a row: truths of the written part; defs; errors -/
structure Row where
  fb : List (Frag → Bool)
  fn : List DefD
  er : List ErrD
  file : Str
abbrev Al : Type := Bool × List FnW × List FnE
def Row.obs (r : Row) (K : Frag) : Al := ((r.fb.all fun f => f K) && ((r.fn.all fun d => d.ok K) && (r.er.all fun d => d.ok r.file K)), r.fn.map (fun d => fnW K d.at_), r.er.map fun d => fnE K d)
def Row.val (r : Row) : Al := (true, r.fn.map DefD.val, r.er.map ErrD.val)
def Row.Says (r : Row) (K : Frag) : Prop := r.obs K = r.val
def Row.obsG (r : Row) (n : Nat) (g : Addr → Option Obj) : Al := r.obs (frG g (reach g n))
def Row.hook (r : Row) (n : Nat) : PySem.W.Hook where
  α := Al
  obs := fun s => r.obsG n s.heap.get?
  val := fun _ => r.val
  says := fun _ h => ∃ K : Frag, K.In h ∧ r.Says K
  of := fun _ _ e => ⟨_, frG_in, e⟩
  keeps := fun _ _ _ ⟨K, hK, c⟩ k => ⟨K, PySem.W.Frag.In.keeps hK k, c⟩
theorem Row.obs_eq (r : Row) {n : Nat} {g : Addr → Option Obj} {s : Shared} (h : ∀ a, g a = s.heap.get? a) : r.obsG n g = (r.hook n).obs s := by
  have e : g = s.heap.get? := funext h
  rw [e] <;> rfl
section
variable {r : Row} {K : Frag}
theorem Row.Says.one (c : r.Says K) : (r.fb.all fun f => f K) = true ∧ (r.fn.all fun d => d.ok K) = true ∧ (r.er.all fun d => d.ok r.file K) = true := by
  have z : ((r.fb.all fun f => f K) && ((r.fn.all fun d => d.ok K) && (r.er.all fun d => d.ok r.file K))) = true := congrArg (fun z : Al => z.1) c
  obtain ⟨a, b⟩ := ba z
  obtain ⟨b, c⟩ := ba b
  exact ⟨a, b, c⟩
theorem Row.Says.fact (c : r.Says K) (i : Nat) {f : Frag → Bool} (h : r.fb[i]? = some f := by rfl) : f K = true := List.all_eq_true.mp c.one.1 f (List.mem_of_getElem? h)
theorem Row.Says.def_ (c : r.Says K) (i : Nat) {d : DefD} (h : r.fn[i]? = some d := by rfl) : ∃ fd, FunD K d.name d.qual d.params d.body d.scope (d.dvs K) (d.kws K) (fAd K d.at_) fd := by
  have e : r.fn.map (fun d => fnW K d.at_) = r.fn.map DefD.val := congrArg (fun z : Al => z.2.1) c
  have e2 : (r.fn.map fun d => fnW K d.at_)[i]? = (r.fn.map DefD.val)[i]? := by rw [e]
  rw [List.getElem?_map, List.getElem?_map, h] at e2
  exact DefD.funD (Option.some.inj e2) (List.all_eq_true.mp c.one.2.1 d (List.mem_of_getElem? h))
theorem Row.Says.err (c : r.Says K) {P : Program} (hf : P.main.file = r.file) (i : Nat) {d : ErrD} (h : r.er[i]? = some d := by rfl) : NwX.ErrK P K (ga K d.cls) (initAt K d.cls) d.qual d.params d.body d.scope ∧ ∀ p ∈ d.ps, PySem.W.findIn K (.ref (ga K d.cls)) p = some none := by
  have e : r.er.map (fun d => fnE K d) = r.er.map ErrD.val := congrArg (fun z : Al => z.2.2) c
  have e2 : (r.er.map fun d => fnE K d)[i]? = (r.er.map ErrD.val)[i]? := by rw [e]
  rw [List.getElem?_map, List.getElem?_map, h] at e2
  have e3 : fnE K d = d.val := Option.some.inj e2
  have o := List.all_eq_true.mp c.one.2.2 d (List.mem_of_getElem? h)
  unfold ErrD.ok at o
  obtain ⟨o1, o⟩ := ba o
  obtain ⟨o2, o⟩ := ba o
  obtain ⟨o3, o⟩ := ba o
  obtain ⟨o4, o⟩ := ba o
  obtain ⟨o5, o⟩ := ba o
  obtain ⟨o6, o⟩ := ba o
  obtain ⟨o7, o⟩ := ba o
  obtain ⟨o8, o⟩ := ba o
  obtain ⟨o9, o⟩ := ba o
  obtain ⟨o10, o⟩ := ba o
  obtain ⟨o11, o⟩ := ba o
  obtain ⟨o12, o⟩ := ba o
  obtain ⟨o13, o⟩ := ba o
  obtain ⟨o14, o⟩ := ba o
  obtain ⟨o15, o⟩ := ba o
  obtain ⟨o16, o⟩ := ba o
  refine ⟨⟨o1, o2, eqO_ok o3, eqO_ok o4, eqO_ok o5, eqO_ok o6, of_decide_eq_true o7, o8, of_decide_eq_true o9, of_decide_eq_true o10, of_decide_eq_true o11, of_decide_eq_true o12, o13, eqO_ok o14, eqO_ok o15, ?_⟩, fun p hp => eqO_ok (List.all_eq_true.mp o16 p hp)⟩
  unfold fnE at e3
  cases q : K.lookup (initAt K d.cls) with
  | none => rw [q] at e3; cases e3
  | some ob =>
    obtain ⟨oc, od, dt, osl⟩ := ob
    rw [q] at e3 o
    cases dt with
    | func fd =>
      obtain ⟨n1, n2, n3, n4, n5, n6, n7, n8, n9, n10, n11, n12, n13, n14, n15⟩ := fd
      have e4 : (some (n1, n2, n3, n4, n5, n6, n15) : FnE) = (some ((("__init__" : Str), d.qual, d.params, FuncBody.stmts d.body, d.scope, mainGlobals, builtinsNs)) : FnE) := e3
      simp only [Option.some.injEq, Prod.mk.injEq] at e4
      obtain ⟨h1, h2, h3, h4, h5, h6, h7⟩ := e4
      subst h1 h2 h3 h4 h5 h6 h7
      obtain ⟨b0, b12⟩ := ba (show (nonB n8 && (cellB K (ga K d.cls) n7 && codeB K d.qual r.file n13)) = true from o)
      obtain ⟨b1, b2⟩ := ba b12
      have e8 : n8 = .none := by
        cases n8 with
        | none => rfl
        | _ => cases b0
      subst e8
      obtain ⟨cc, o2, d2, s2, rfl, lc⟩ := cellB_ok b1
      obtain ⟨cda, oo1, d1, s1, vs, f, t, rfl, hc, lk, hv, hfile⟩ := codeB_ok b2
      exact ⟨oc, od, osl, cc, cda, n9, n10, n11, n14, n12, vs, f, t, oo1, o2, d1, d2, s1, s2, rfl, hc, lk, hv, by rw [hf]; exact hfile, lc⟩
    | _ => cases e3
end
end NwH
end
section
set_option Elab.async false
set_option linter.all false
set_option maxRecDepth 100000
set_option maxHeartbeats 2000000
/-! short readings: one lemma a construct, each reducible to see -/
namespace Nw
open PySem PySem.Spec PyProof.Rows L2
/-! ### a def by its name -/
structure Dok (P : Program) (w : World) (K : PySem.W.Frag) (mg : Str → Option Value) (base : Heap) (k : Nat) (x : Str) (ps : List Str) (sp : Sp) : Prop where
  ex : ∃ (f : Addr) (fd : FuncData), FnOk P w K mg base (L2.CX P w) k f fd ps sp ∧ mg x = some (.ref f) ∧ PySem.W.keepIn K (.ref f) = true ∧ Binds K fd ps []
def tCa (sp : Sp) (E : XK) (t : TA) : TE := fun σ H Q => t σ H fun vs H1 => sp vs H1 Q E
def tCw (sp : Sp) (W : WX) (t : TA) : TE := fun σ H Q => t σ H fun vs H1 => sp vs H1 Q fun c d H2 => W c d σ H2
section
variable {X : Cx} {k : Nat} {x : Str} {ps : List Str} {sp : Sp} {p pos : Pos} {e : Expr} {es : List Expr} {t : TA} {E : XK}
theorem tCa_eq : tCall sp [] E t = tCa sp E t := by
  funext σ H Q
  show t σ H (fun vs H1 => sp (vs ++ []) H1 Q E) = t σ H (fun vs H1 => sp vs H1 Q E)
  have : (fun (vs : List V) (H1 : Hp) => sp (vs ++ []) H1 Q E) = fun vs H1 => sp vs H1 Q E := by
    funext vs H1
    rw [List.append_nil]
  rw [this]
theorem pe_def (D : Dok X.prog X.w X.K X.mg X.base k x ps sp) (hr : Room k X.A) (hg : Gl X x) (hx : Passes (L2.CX X.prog X.w) X E)
    (ha : PA X (e :: es) t) (hdb : (x == ("__debug__" : Str)) = false := by decide) (he : starEach (e :: es) X.env = (false, eval e X.env) :: starEach es X.env := by rfl) (hpl : (backTo pos (starEach es X.env)).any (·.1) = false := by rfl) :
    PE X (.Call (.Name x p) (e :: es) [] pos) (tCa sp E t) := by
  obtain ⟨f, fd, F, hm, hk, hb⟩ := D.ex
  rw [← tCa_eq]
  exact pe_call F hr hg hm hk hb .nil hx ha hdb he hpl
theorem pe_def0 (D : Dok X.prog X.w X.K X.mg X.base k x ps sp) (hr : Room k X.A) (hg : Gl X x) (hx : Passes (L2.CX X.prog X.w) X E) (hdb : (x == ("__debug__" : Str)) = false := by decide) : PE X (.Call (.Name x p) [] [] pos) (tCa sp E tNil) := by
  obtain ⟨f, fd, F, hm, hk, hb⟩ := D.ex
  rw [← tCa_eq]
  exact pe_call0 F hr hg hm hk hb .nil hx hdb
/-- within a try's body -/
theorem pe_defW {W : WX} (D : Dok X.prog X.w X.K X.mg X.base k x ps sp) (hr : Room k X.A) (hg : Gl X x) (tk : Takes X W)
    (ha : PA X (e :: es) t) (hdb : (x == ("__debug__" : Str)) = false := by decide) (he : starEach (e :: es) X.env = (false, eval e X.env) :: starEach es X.env := by rfl) (hpl : (backTo pos (starEach es X.env)).any (·.1) = false := by rfl) :
    PE X (.Call (.Name x p) (e :: es) [] pos) (tCw sp W t) := by
  obtain ⟨f, fd, F, hm, hk, hb⟩ := D.ex
  exact pe_callS (E := WE W) F hr hg hm hk hb (fun σ => passAt tk σ) ha hdb he hpl
end
/-! ### what an operation asks, by names that stand -/
def nAdd : R2 := rI0 fun i j => .int (i + j)
def nSub : R2 := rI0 fun i j => .int (i - j)
def nMul : R2 := rI CMul fun i j => .int (i * j)
def nDiv : R2 := rI CDiv fun i j => .int (i / j)
def nMod : R2 := rI (fun _ j => 0 < j) fun i j => .int (i % j)
def nPow : R2 := rI CPow fun i j => .int (i ^ j.toNat)
def nLt : R2 := rI0 fun i j => .bl (decide (i < j))
def nLe : R2 := rI0 fun i j => .bl (decide (i ≤ j))
def nGt : R2 := rI0 fun i j => .bl (decide (j < i))
def nGe : R2 := rI0 fun i j => .bl (decide (j ≤ i))
def nIsN : R2 := fun x y H Q => y = .non ∧ Q (.bl (decide (x = .non))) H
def nNotN : R2 := fun x y H Q => y = .non ∧ Q (.bl (!decide (x = .non))) H
def nNeg : V → Hp → VK → Prop := rU fun i => .int (-i)
def rcLen (K : PySem.W.Frag) : List V → Hp → VK → Prop := fun xs H Q => ∃ p ys, xs = [.ref p] ∧ (SqL K H p ys ∨ SqT K H p ys) ∧ Q (.int ys.length) H
def rcMin : List V → Hp → VK → Prop := fun xs H Q => ∃ i j, xs = [.int i, .int j] ∧ Q (.int (if j < i then j else i)) H
def rcMax : List V → Hp → VK → Prop := fun xs H Q => ∃ i j, xs = [.int i, .int j] ∧ Q (.int (if j > i then j else i)) H
def rcInt : List V → Hp → VK → Prop := fun xs H Q => (∃ i, xs = [.int i] ∧ Q (.int i) H) ∨ ∃ k, xs = [.bl k] ∧ Q (.int (if k then 1 else 0)) H
def rcList (K : PySem.W.Frag) : List V → Hp → VK → Prop := fun xs H Q => ∃ p ys, xs = [.ref p] ∧ (SqL K H p ys ∨ SqT K H p ys) ∧ ∀ l, H l = none → Q (.ref l) (upd H l (.lst ys))
def rcTuple (K : PySem.W.Frag) : List V → Hp → VK → Prop := fun xs H Q => ∃ p ys, xs = [.ref p] ∧ ((SqL K H p ys ∧ ∀ l, H l = none → Q (.ref l) (upd H l (.tup ys))) ∨ (SqT K H p ys ∧ Q (.ref p) H))
section
variable {X : Cx}
theorem o_add : OpR X (binaryOp .Add) nAdd := op_add
theorem o_sub : OpR X (binaryOp .Sub) nSub := op_sub
theorem o_mul : OpR X (binaryOp .Mult) nMul := op_mul
theorem o_div : OpR X (binaryOp .FloorDiv) nDiv := op_fdiv
theorem o_mod : OpR X (binaryOp .Mod) nMod := op_mod
theorem o_pow : OpR X (binaryOp .Pow) nPow := op_pow
theorem o_lt : OpR X (compareOp .Lt) nLt := op_lt
theorem o_le : OpR X (compareOp .LtE) nLe := op_le
theorem o_gt : OpR X (compareOp .Gt) nGt := op_gt
theorem o_ge : OpR X (compareOp .GtE) nGe := op_ge
theorem o_isN : OpR X (compareOp .Is) nIsN := op_isN
theorem o_notN : OpR X (compareOp .IsNot) nNotN := op_notN
theorem u_neg : UnR X (unaryOp .USub) nNeg := un_neg
theorem c_len : CallR X (.builtin "len") (rcLen X.K) := call_len_seq
theorem c_min (hc : X.calm = true) : CallR X (.builtin "min") rcMin := call_min2 hc
theorem c_max (hc : X.calm = true) : CallR X (.builtin "max") rcMax := call_max2 hc
theorem c_int : CallR X (.type "int") rcInt := call_int1
theorem c_list : CallR X (.type "list") (rcList X.K) := call_list_of
theorem c_tuple : CallR X (.type "tuple") (rcTuple X.K) := call_tuple_of
end
/-! ### tests and branches -/
def isB (x : V) (H : Hp) (Q : Bool → Hp → Prop) : Prop := ∃ k, x = .bl k ∧ Q k H
def tT (te : TE) : TT := fun σ H Q => te σ H fun x H1 => isB x H1 Q
def br (b : Bool) (A B : Prop) : Prop := if b = true then A else B
section
variable {X : Cx} {a b e : Expr} {ta tb te : TE} {pos : Pos} {op : CmpOp} {r : R2}
theorem pt_c (ho : OpR X (compareOp op) r) (ha : PE X a ta) (hb : PE X b tb) (hm : behindInMarks op b = false) : PT X (.Compare a [op] [b] pos) (tT (tOp r ta tb)) := pt_cmpR ho ha hb hm
theorem pt_e (h : PE X e te) (he : ∀ whole, isTrue e X.env whole = (do let v ← whole; standAt e.pos; holding [v] (truthy v)) := by intro _; rfl) : PT X e (tT te) := pt_val h he
end
section
variable {A B : Prop} {b : Bool} {p : Prop} [Decidable p]
theorem br_t (h : A) : br true A B := iteT h
theorem br_f (h : B) : br false A B := iteF h
theorem br_b (h1 : b = true → A) (h2 : b = false → B) : br b A B := by
  cases b with
  | true => exact br_t (h1 rfl)
  | false => exact br_f (h2 rfl)
theorem br_d (h1 : p → A) (h2 : ¬ p → B) : br (decide p) A B := by
  by_cases h : p
  · rw [decide_eq_true h]; exact br_t (h1 h)
  · rw [decide_eq_false h]; exact br_f (h2 h)
theorem br_nd (h1 : ¬ p → A) (h2 : p → B) : br (!decide p) A B := by
  by_cases h : p
  · rw [decide_eq_true h]; exact br_f (h2 h)
  · rw [decide_eq_false h]; exact br_t (h1 h)
theorem br_nt (h : B) : br (!true) A B := br_f h
theorem br_nf (h : A) : br (!false) A B := br_t h
theorem br_nb (h1 : b = false → A) (h2 : b = true → B) : br (!b) A B := by
  cases b with
  | true => exact br_f (h2 rfl)
  | false => exact br_t (h1 rfl)
theorem br_yes (hb : b = true) (h : A) : br b A B := by rw [hb]; exact br_t h
theorem br_no (hb : b = false) (h : B) : br b A B := by rw [hb]; exact br_f h
end
/-! ### readings -/
def nL (xs : List V) (H : Hp) (Q : VK) : Prop := xs.length ≤ sizeLine ∧ ∀ p, H p = none → Q (.ref p) (upd H p (.lst xs))
def nT (xs : List V) (H : Hp) (Q : VK) : Prop := xs.length ≤ sizeLine ∧ ∀ p, H p = none → Q (.ref p) (upd H p (.tup xs))
def Sq (K : PySem.W.Frag) (H : Hp) (a : Addr) (xs : List V) : Prop := SqL K H a xs ∨ SqT K H a xs
def iSeq (K : PySem.W.Frag) (tl : TE) : TI := iList K tl
def lp (J : It) (g : TG) (tb : TS) (D : Ends) (σ : L2.St) (H : Hp) : Prop := ∃ W : Nat → Nat → L2.St → Hp → Prop, (∃ m, W 0 m σ H) ∧ ∀ i m σ H, W i m σ H →
  (J.stop i H ∧ D.nx σ H) ∨ (J.go i H ∧ ∃ N : L2.St → Hp → Prop, (∀ σ' H', N σ' H' → ∃ m', m' < m ∧ W (i + 1) m' σ' H') ∧ ∀ x H', J.yld i H x H' → g x σ H' fun σ2 H2 => tb { D with nx := N, ct := N, bk := D.nx } σ2 H2)
def rg1 (vs : List V) (H : Hp) (R : It → Hp → Prop) : Prop := ∃ j : Int, vs = [.int j] ∧ -(2 ^ 62) ≤ j ∧ j < 2 ^ 62 ∧ R (Itr 0 j.toNat) H
def rg2 (vs : List V) (H : Hp) (R : It → Hp → Prop) : Prop := ∃ i j : Int, vs = [.int i, .int j] ∧ (-(2 ^ 62) ≤ i ∧ i < 2 ^ 62 ∧ -(2 ^ 62) ≤ j ∧ j < 2 ^ 62) ∧ R (Itr i (j - i).toNat) H
def wl (K : PySem.W.Frag) (x : V) (H : Hp) (R : It → Hp → Prop) : Prop := ∃ a, x = .ref a ∧ (∃ xs, SqL K H a xs) ∧ R (Itl K a) H
def wt (K : PySem.W.Frag) (x : V) (H : Hp) (R : It → Hp → Prop) : Prop := ∃ a, x = .ref a ∧ (∃ xs, SqT K H a xs) ∧ R (Itt K a) H
def bm0 (K : PySem.W.Frag) (T : String) (r : V → List V → Hp → VK → Prop) (x : V) (H : Hp) (Q : VK) : Prop := tyV K T x H ∧ r x [] H Q
def bm1 (K : PySem.W.Frag) (T : String) (r : V → List V → Hp → VK → Prop) (t : TA) (σ : L2.St) (x : V) (H : Hp) (Q : VK) : Prop := tyV K T x H ∧ t σ H fun xs H2 => r x xs H2 Q
section
variable {K : PySem.W.Frag} {σ : L2.St} {H : Hp} {Q : VK} {QB : Bool → Hp → Prop} {QA : List V → Hp → Prop} {D : Ends} {t u : TS} {c d : TT} {ta tb te : TE} {tr : TA} {v x y : V} {i j : Int} {n : Nat} {r : R2} {k : Bool} {p : Addr} {xs : List V} {g : TG} {sp : Sp} {E : XK} {W : WX} {wi : TI} {R : It → Hp → Prop}
theorem r_seq (h : t { D with nx := u D } σ H) : tSeq t u D σ H := h
theorem r_next (h : D.nx σ H) : tNext D σ H := h
theorem r_brk (h : D.bk σ H) : tBreak D σ H := h
theorem r_cont (h : D.ct σ H) : tCont D σ H := h
theorem r_asg (h : te σ H fun x H1 => D.nx (σ.set n (some x)) H1) : tAsg te (gName n) D σ H := h
theorem r_asgS {s : TSet} (h : te σ H fun z H1 => ta σ H1 fun o H2 => tb σ H2 fun i H3 => s o i z H3 fun H4 => D.nx σ H4) : tAsg te (gSub ta tb s) D σ H := h
theorem r_drop (h : te σ H fun _ H1 => D.nx σ H1) : tDrop te D σ H := h
theorem r_ret (h : te σ H D.rt) : tRet te D σ H := h
theorem r_retN (h : D.rt .non H) : tRetN D σ H := h
theorem r_ifS (h : c σ H fun b H1 => br b (t D σ H1) (u D σ H1)) : tIfS c t u D σ H := h
theorem r_if (h : c σ H fun b H1 => br b (ta σ H1 Q) (tb σ H1 Q)) : tIf c ta tb σ H Q := h
theorem r_var (e : σ[n]? = some (some v)) (h : Q v H) : tVar n σ H Q := ⟨v, e, h⟩
theorem r_c (h : Q v H) : tC v σ H Q := h
theorem r_op (h : ta σ H fun x H1 => tb σ H1 fun y H2 => r x y H2 Q) : tOp r ta tb σ H Q := h
theorem r_un {r : V → Hp → VK → Prop} (h : ta σ H fun x H1 => r x H1 Q) : tUn r ta σ H Q := h
theorem r_T (h : te σ H fun x H1 => isB x H1 QB) : tT te σ H QB := h
theorem r_isB (h : QB k H) : isB (.bl k) H QB := ⟨k, rfl, h⟩
theorem r_and (h : c σ H fun b H1 => br b (d σ H1 QB) (QB false H1)) : tAnd c d σ H QB := h
theorem r_or (h : c σ H fun b H1 => br b (QB true H1) (d σ H1 QB)) : tOr c d σ H QB := h
theorem r_not (h : c σ H fun b H1 => QB (!b) H1) : tNot c σ H QB := h
theorem r_andV (h : ta σ H fun x H1 => isB x H1 fun b H2 => br b (tb σ H2 Q) (Q (.bl false) H2)) : tAndV ta tb σ H Q := h
theorem r_orV (h : ta σ H fun x H1 => isB x H1 fun b H2 => br b (Q (.bl true) H2) (tb σ H2 Q)) : tOrV ta tb σ H Q := h
theorem r_notV (h : ta σ H fun x H1 => isB x H1 fun b H2 => Q (.bl (!b)) H2) : tNotV ta σ H Q := h
theorem r_nil (h : QA [] H) : tNil σ H QA := h
theorem r_cons (h : te σ H fun x H1 => tr σ H1 fun xs H2 => QA (x :: xs) H2) : tCons te tr σ H QA := h
theorem r_lst (h : tr σ H fun xs H1 => nL xs H1 Q) : tLst tr σ H Q := h
theorem r_tup (h : tr σ H fun xs H1 => nT xs H1 Q) : tTup tr σ H Q := h
theorem r_nL (hl : xs.length ≤ sizeLine) (h : ∀ p, H p = none → Q (.ref p) (upd H p (.lst xs))) : nL xs H Q := ⟨hl, h⟩
theorem r_nT (hl : xs.length ≤ sizeLine) (h : ∀ p, H p = none → Q (.ref p) (upd H p (.tup xs))) : nT xs H Q := ⟨hl, h⟩
theorem r_ca (h : tr σ H fun vs H1 => sp vs H1 Q E) : tCa sp E tr σ H Q := h
theorem r_cw (h : tr σ H fun vs H1 => sp vs H1 Q fun c d H2 => W c d σ H2) : tCw sp W tr σ H Q := h
theorem r_cb {r : List V → Hp → VK → Prop} (h : tr σ H fun vs H1 => r vs H1 Q) : tCB r tr σ H Q := h
theorem r_add (h : Q (.int (i + j)) H) : nAdd (.int i) (.int j) H Q := ⟨i, j, rfl, rfl, h⟩
theorem r_sub (h : Q (.int (i - j)) H) : nSub (.int i) (.int j) H Q := ⟨i, j, rfl, rfl, h⟩
theorem r_mul (c : CMul i j) (h : Q (.int (i * j)) H) : nMul (.int i) (.int j) H Q := ⟨i, j, rfl, rfl, c, h⟩
theorem r_div (c : 0 < j ∧ j < 1073741824) (h : Q (.int (i / j)) H) : nDiv (.int i) (.int j) H Q := ⟨i, j, rfl, rfl, c, h⟩
theorem r_mod (c : 0 < j) (h : Q (.int (i % j)) H) : nMod (.int i) (.int j) H Q := ⟨i, j, rfl, rfl, c, h⟩
theorem r_pow (c : CPow i j) (h : Q (.int (i ^ j.toNat)) H) : nPow (.int i) (.int j) H Q := ⟨i, j, rfl, rfl, c, h⟩
theorem r_lt (h : Q (.bl (decide (i < j))) H) : nLt (.int i) (.int j) H Q := ⟨i, j, rfl, rfl, h⟩
theorem r_le (h : Q (.bl (decide (i ≤ j))) H) : nLe (.int i) (.int j) H Q := ⟨i, j, rfl, rfl, h⟩
theorem r_gt (h : Q (.bl (decide (j < i))) H) : nGt (.int i) (.int j) H Q := ⟨i, j, rfl, rfl, h⟩
theorem r_ge (h : Q (.bl (decide (j ≤ i))) H) : nGe (.int i) (.int j) H Q := ⟨i, j, rfl, rfl, h⟩
theorem r_neg (h : Q (.int (-i)) H) : nNeg (.int i) H Q := ⟨i, rfl, h⟩
theorem r_isN (h : Q (.bl (decide (x = .non))) H) : nIsN x .non H Q := ⟨rfl, h⟩
theorem r_notN (h : Q (.bl (!decide (x = .non))) H) : nNotN x .non H Q := ⟨rfl, h⟩
theorem r_eqI (h : Q (.bl (decide (i = j))) H) : rEq (.int i) (.int j) H Q := ⟨rfl, by
  have e : decide (V.int i = V.int j) = decide (i = j) := by simp
  rw [e]; exact h⟩
theorem r_neI (h : Q (.bl (!decide (i = j))) H) : rNe (.int i) (.int j) H Q := ⟨rfl, by
  have e : decide (V.int i = V.int j) = decide (i = j) := by simp
  rw [e]; exact h⟩
theorem r_eqB {a b : Bool} (h : Q (.bl (decide (a = b))) H) : rEq (.bl a) (.bl b) H Q := ⟨rfl, by
  have e : decide (V.bl a = V.bl b) = decide (a = b) := by simp
  rw [e]; exact h⟩
theorem r_neB {a b : Bool} (h : Q (.bl (!decide (a = b))) H) : rNe (.bl a) (.bl b) H Q := ⟨rfl, by
  have e : decide (V.bl a = V.bl b) = decide (a = b) := by simp
  rw [e]; exact h⟩
theorem r_ixL (h : SqL K H p xs) (e : atI xs i = some v) (q : Q v H) : rIx K (.ref p) (.int i) H Q := .inl ⟨p, xs, i, v, rfl, rfl, h, e, q⟩
theorem r_ixT (h : SqT K H p xs) (e : atI xs i = some v) (q : Q v H) : rIx K (.ref p) (.int i) H Q := .inr (.inl ⟨p, xs, i, v, rfl, rfl, h, e, q⟩)
theorem r_ix (h : Sq K H p xs) (e : atI xs i = some v) (q : Q v H) : rIx K (.ref p) (.int i) H Q := by
  rcases h with h | h
  · exact r_ixL h e q
  · exact r_ixT h e q
theorem r_len (h : Sq K H p xs) (q : Q (.int xs.length) H) : rcLen K [.ref p] H Q := ⟨p, xs, rfl, h, q⟩
theorem r_min (q : Q (.int (if j < i then j else i)) H) : rcMin [.int i, .int j] H Q := ⟨i, j, rfl, q⟩
theorem r_max (q : Q (.int (if j > i then j else i)) H) : rcMax [.int i, .int j] H Q := ⟨i, j, rfl, q⟩
theorem r_int (q : Q (.int i) H) : rcInt [.int i] H Q := .inl ⟨i, rfl, q⟩
theorem r_list (h : Sq K H p xs) (q : ∀ l, H l = none → Q (.ref l) (upd H l (.lst xs))) : rcList K [.ref p] H Q := ⟨p, xs, rfl, h, q⟩
theorem r_gcd (q : Q (.int ((Nat.gcd i.natAbs j.natAbs : Nat) : Int)) H) : rGcd [.int i, .int j] H Q := ⟨i, j, rfl, q⟩
theorem r_for (h : wi σ H fun J H1 => lp J g t D σ H1) : tFor wi g t D σ H := h
theorem r_rg1 (h : tr σ H fun vs H1 => rg1 vs H1 R) : iRng1 tr σ H R := h
theorem r_rg2 (h : tr σ H fun vs H1 => rg2 vs H1 R) : iRng2 tr σ H R := h
theorem r_rgN (h : n < 2 ^ 62) (q : R (Itr 0 n) H) : rg1 [.int n] H R := ⟨n, rfl, by omega, by omega, by rw [Int.toNat_natCast]; exact q⟩
theorem r_wlI (h : te σ H fun x H1 => wl K x H1 R) : iList K te σ H R := h
theorem r_wtI (h : te σ H fun x H1 => wt K x H1 R) : iTup K te σ H R := h
theorem r_wl (h : SqL K H p xs) (q : R (Itl K p) H) : wl K (.ref p) H R := ⟨p, rfl, ⟨xs, h⟩, q⟩
theorem r_wt (h : SqT K H p xs) (q : R (Itt K p) H) : wt K (.ref p) H R := ⟨p, rfl, ⟨xs, h⟩, q⟩
theorem r_bm0 {r : V → List V → Hp → VK → Prop} {T : String} (h : te σ H fun x H1 => bm0 K T r x H1 Q) : tBM0 K T r te σ H Q := h
theorem r_bm {r : V → List V → Hp → VK → Prop} {T : String} (h : te σ H fun x H1 => bm1 K T r tr σ x H1 Q) : tBM K T r te tr σ H Q := h
theorem r_pop (h : H p = some (.lst xs)) (e : xs[xs.length - 1]? = some v) (q : Q v (upd H p (.lst xs.dropLast))) : bm0 K "list" rPop (.ref p) H Q := ⟨.inl ⟨rfl, _, SqL.of h⟩, p, xs, v, rfl, rfl, h, e, q⟩
theorem r_rev (h : H p = some (.lst xs)) (q : Q .non (upd H p (.lst xs.reverse))) : bm0 K "list" rReverse (.ref p) H Q := ⟨.inl ⟨rfl, _, SqL.of h⟩, p, xs, rfl, rfl, h, q⟩
theorem r_bmL {r : V → List V → Hp → VK → Prop} (h : H p = some (.lst xs)) (q : tr σ H fun vs H2 => r (.ref p) vs H2 Q) : bm1 K "list" r tr σ (.ref p) H Q := ⟨.inl ⟨rfl, _, SqL.of h⟩, q⟩
theorem r_app (h : H p = some (.lst xs)) (z : xs.length < sizeLine) (q : Q .non (upd H p (.lst (xs ++ [v])))) : rAppend (.ref p) [v] H Q := ⟨p, xs, v, rfl, rfl, h, z, q⟩
theorem r_setL {m : Nat} {Qh : Hp → Prop} (h : H p = some (.lst xs)) (e : ixN xs.length i = some m) (q : Qh (upd H p (.lst (xs.set m v)))) : rSetL (.ref p) (.int i) v H Qh := ⟨p, xs, i, m, rfl, rfl, h, e, q⟩
theorem lp_list (Pv : Nat → L2.St → Hp → Prop) (h0 : Pv 0 σ H) (hl : ∀ i σ H, i ≤ xs.length → Pv i σ H → SqL K H p xs)
    (hs : ∀ i x σ H, xs[i]? = some x → Pv i σ H → g x σ H fun σ2 H2 => t { D with nx := Pv (i + 1), ct := Pv (i + 1), bk := D.nx } σ2 H2) (hd : ∀ σ H, Pv xs.length σ H → D.nx σ H) : lp (Itl K p) g t D σ H := for_list Pv h0 hl hs hd
theorem lp_tup (Pv : Nat → L2.St → Hp → Prop) (h0 : Pv 0 σ H) (hl : ∀ i σ H, i ≤ xs.length → Pv i σ H → SqT K H p xs)
    (hs : ∀ i x σ H, xs[i]? = some x → Pv i σ H → g x σ H fun σ2 H2 => t { D with nx := Pv (i + 1), ct := Pv (i + 1), bk := D.nx } σ2 H2) (hd : ∀ σ H, Pv xs.length σ H → D.nx σ H) : lp (Itt K p) g t D σ H := for_tup Pv h0 hl hs hd
theorem lp_rng {lo : Int} (Pv : Nat → L2.St → Hp → Prop) (h0 : Pv 0 σ H) (hs : ∀ (i : Nat) σ H, i < n → Pv i σ H → g (.int (lo + i)) σ H fun σ2 H2 => t { D with nx := Pv (i + 1), ct := Pv (i + 1), bk := D.nx } σ2 H2)
    (hd : ∀ σ H, Pv n σ H → D.nx σ H) : lp (Itr lo n) g t D σ H := for_range Pv h0 hs hd
theorem r_gN {q : Nat} {Qs : L2.St → Hp → Prop} (h : Qs (σ.set q (some v)) H) : gName q v σ H Qs := h
end
/-! ### heaps -/
theorem same_new {H : Hp} {p : Addr} {o : HO} (h : H p = none) : Same H (upd H p o) := fun b u e => by
  rw [upd_ne (ne_of_none e h)]
  exact e
theorem _root_.L2.Same.new {H H1 : Hp} {p : Addr} {o : HO} (s : Same H H1) (h : H1 p = none) : Same H (upd H1 p o) := s.trans (same_new h)
theorem _root_.L2.Same.seqT {K : PySem.W.Frag} {H H' : Hp} {a : Addr} {xs : List V} (e : Same H H') (h : SqT K H a xs) : SqT K H' a xs := by
  rcases h with (h | ⟨o, h⟩) | h
  · exact .inl (.inl (e _ _ h))
  · exact .inl (.inr ⟨o, e _ _ h⟩)
  · exact .inr h
theorem _root_.L2.Same.sq {K : PySem.W.Frag} {H H' : Hp} {a : Addr} {xs : List V} (e : Same H H') (h : Sq K H a xs) : Sq K H' a xs := by
  rcases h with h | h
  · exact .inl (e.seq h)
  · exact .inr (Same.seqT e h)
/-- all but what stands at l is as it was -/
def Bt (l : Addr) (H H' : Hp) : Prop := ∀ b o, b ≠ l → H b = some o → H' b = some o
theorem Bt.refl (l : Addr) (H : Hp) : Bt l H H := fun _ _ _ h => h
theorem Bt.trans {l : Addr} {H H1 H2 : Hp} (a : Bt l H H1) (b : Bt l H1 H2) : Bt l H H2 := fun c o n h => b c o n (a c o n h)
theorem Bt.of {l : Addr} {H H' : Hp} (s : Same H H') : Bt l H H' := fun b o _ h => s b o h
theorem Bt.put {l : Addr} {H : Hp} {o : HO} : Bt l H (upd H l o) := fun b u n e => by
  rw [upd_ne n]
  exact e
end Nw
end
section
set_option Elab.async false
set_option linter.all false
set_option maxRecDepth 100000
set_option maxHeartbeats 2000000
/-! what many laws share: is_int, is_row, check_number, the draws -/
namespace Nw
open PySem PySem.Spec PyProof.Rows L2
local macro_rules | `(tactic| walk_at "rd1") => `(tactic| repeat' (first | with_reducible refine r_asg ?_ | with_reducible refine r_c ?_ | with_reducible refine r_op ?_ | ((with_reducible refine' r_var ?ev ?_); (case ev => rfl)) | with_reducible refine r_sub ?_))
local macro_rules | `(tactic| walk_at "rd") => `(tactic| repeat' (first
  | with_reducible refine r_seq ?_ | with_reducible refine r_asg ?_ | with_reducible refine r_ret ?_ | with_reducible refine r_retN ?_ | with_reducible refine r_drop ?_ | with_reducible refine r_next ?_ | with_reducible refine r_brk ?_ | with_reducible refine r_cont ?_
  | ((with_reducible refine' r_var ?ev ?_); (case ev => rfl)) | with_reducible refine r_c ?_ | with_reducible refine r_op ?_ | with_reducible refine r_un ?_ | with_reducible refine r_ifS ?_ | with_reducible refine r_if ?_
  | with_reducible refine r_T ?_ | with_reducible refine r_isB ?_ | with_reducible refine r_and ?_ | with_reducible refine r_or ?_ | with_reducible refine r_not ?_ | with_reducible refine r_andV ?_ | with_reducible refine r_orV ?_ | with_reducible refine r_notV ?_
  | with_reducible refine r_nil ?_ | with_reducible refine r_cons ?_ | with_reducible refine r_lst ?_ | with_reducible refine r_tup ?_ | with_reducible refine r_ca ?_ | with_reducible refine r_cw ?_ | with_reducible refine r_cb ?_
  | with_reducible refine r_add ?_ | with_reducible refine r_sub ?_ | with_reducible refine r_neg ?_ | with_reducible refine r_lt ?_ | with_reducible refine r_le ?_ | with_reducible refine r_gt ?_ | with_reducible refine r_ge ?_ | with_reducible refine r_eqI ?_ | with_reducible refine r_neI ?_ | with_reducible refine r_eqB ?_ | with_reducible refine r_neB ?_
  | with_reducible refine r_isN ?_ | with_reducible refine r_notN ?_ | with_reducible refine r_min ?_ | with_reducible refine r_max ?_ | with_reducible refine r_int ?_ | with_reducible refine r_gcd ?_ | with_reducible refine r_for ?_ | with_reducible refine r_rg1 ?_ | with_reducible refine r_rg2 ?_ | with_reducible refine r_wlI ?_ | with_reducible refine r_wtI ?_ | with_reducible refine r_gN ?_ | with_reducible refine r_asgS ?_ | with_reducible refine r_bm0 ?_ | with_reducible refine r_bm ?_
  | with_reducible refine br_t ?_ | with_reducible refine br_f ?_ | with_reducible refine br_nt ?_ | with_reducible refine br_nf ?_))
/-! ### kinds -/
/-- is it an int, told of what is no object -/
def intB : V → Option Bool
  | .int _ => some true
  | .bl _ => some false
  | .non => some false
  | .str _ => some false
  | _ => none
section
variable {K : PySem.W.Frag} {H H' : Hp} {Q : VK} {x v : V} {a : Addr} {xs : List V} {t n : String} {b : Bool}
theorem r_isi (ty : TyX K H x (.type t)) (e : kitB t n = some b) (q : Q (.bl b) H) : rIsi K [x, .ty n] H Q := ⟨x, .ty n, .type t, .type n, b, rfl, .ty n, ty, kit_ty e, q⟩
theorem ty_l (h : SqL K H a xs) : TyX K H (.ref a) (.type "list") := by
  rcases h with (h | ⟨o, h⟩) | ⟨o, its, n, h1, h2, _⟩
  · exact .base (.lst h)
  · exact .base (.frz h)
  · exact .kList h1 h2
theorem ty_t (h : SqT K H a xs) : TyX K H (.ref a) (.type "tuple") := by
  rcases h with (h | ⟨o, h⟩) | ⟨o, its, n, h1, h2, _⟩
  · exact .base (.tup h)
  · exact .fTuple h
  · exact .kTuple h1 h2
def kindOf : V → String
  | .int _ => "int"
  | .bl _ => "bool"
  | .non => "NoneType"
  | .str _ => "str"
  | _ => ""
theorem ty_flat (h : intB x = some b) : TyX K H x (.type (kindOf x)) := by
  cases x with
  | int i => exact .base (.int i)
  | bl i => exact .base (.bl i)
  | non => exact .base .non
  | str i => exact .base (.str i)
  | _ => cases h
theorem lt_no {t : String} (h1 : kitB t "list" = some false) (h2 : kitB t "tuple" = some false) : PySem.W.kitAny K (.type t) [.type "list", .type "tuple"] = some false :=
  kitAny_cons (kit_ty h1) (fun _ => kitAny_cons (kit_ty h2) (fun _ => kitAny_nil) (fun h => nomatch h)) (fun h => nomatch h)
theorem lt_l : PySem.W.kitAny K (.type "list") [.type "list", .type "tuple"] = some true := kitAny_cons (kit_ty (b := "list") (r := true) (by decide +kernel)) (fun h => nomatch h) (fun _ => rfl)
theorem lt_t : PySem.W.kitAny K (.type "tuple") [.type "list", .type "tuple"] = some true := kitAny_cons (kit_ty (b := "list") (r := false) (by decide +kernel)) (fun _ => kitAny_cons (kit_ty (b := "tuple") (r := true) (by decide +kernel)) (fun h => nomatch h) (fun _ => rfl)) (fun h => nomatch h)
theorem lt_flat (h : intB x = some b) : PySem.W.kitAny K (.type (kindOf x)) [.type "list", .type "tuple"] = some false := by
  cases x with
  | int i => exact lt_no (t := "int") (by decide +kernel) (by decide +kernel)
  | bl i => exact lt_no (t := "bool") (by decide +kernel) (by decide +kernel)
  | non => exact lt_no (t := "NoneType") (by decide +kernel) (by decide +kernel)
  | str i => exact lt_no (t := "str") (by decide +kernel) (by decide +kernel)
  | _ => cases h
theorem r_isiT {tp : Addr} (h : H tp = some (.tup [.ty "list", .ty "tuple"])) (ty : TyX K H x (.type t)) (e : PySem.W.kitAny K (.type t) [.type "list", .type "tuple"] = some b) (q : Q (.bl b) H) : rIsiT K [x, .ref tp] H Q :=
  ⟨x, tp, _, .type t, _, b, rfl, h, .cons (.ty "list") (.cons (.ty "tuple") .nil), ty, e, q⟩
end
theorem ty_mono {K : PySem.W.Frag} {H H' : Hp} {x : V} {t : String} (s : Same H H') (h : TyX K H x (.type t)) : TyX K H' x (.type t) := by
  cases h with
  | base h =>
    cases h with
    | non => exact .base .non
    | bl x => exact .base (.bl x)
    | int x => exact .base (.int x)
    | str x => exact .base (.str x)
    | flt x => exact .base (.flt x)
    | lst e => exact .base (.lst (s _ _ e))
    | frz e => exact .base (.frz (s _ _ e))
    | tup e => exact .base (.tup (s _ _ e))
    | dK e => exact .base (.dK (s _ _ e))
    | dT e => exact .base (.dT (s _ _ e))
  | byt b => exact .byt b
  | set e => exact .set (s _ _ e)
  | kList e c => exact .kList e c
  | kTuple e c => exact .kTuple e c
  | kDict e c => exact .kDict e c
  | fTuple e => exact .fTuple (s _ _ e)
  | fDict e => exact .fDict (s _ _ e)
/-! ### is_int, is_row, check_number -/
def sp_is_int (K : PySem.W.Frag) : Sp := fun vs H Q _ => ∃ v t, vs = [v] ∧ TyX K H v (.type t) ∧ t ∈ ["int", "bool", "NoneType", "str", "list", "tuple"] ∧ Q (.bl (t == "int")) H
def sp_is_row (K : PySem.W.Frag) : Sp := fun vs H Q _ => ∃ v t, vs = [v] ∧ TyX K H v (.type t) ∧ t ∈ ["int", "bool", "NoneType", "str", "list", "tuple"] ∧ ∀ H', Same H H' → Q (.bl (t == "list" || t == "tuple")) H'
def t_is_int (K : PySem.W.Frag) : TS := (tRet (tAndV (tCB (rIsi K) (tCons (tVar 0) (tCons (tC (.ty "int")) tNil))) (tNotV (tCB (rIsi K) (tCons (tVar 0) (tCons (tC (.ty "bool")) tNil))))))
def t_is_row (K : PySem.W.Frag) : TS := (tRet (tCB (rIsiT K) (tCons (tVar 0) (tCons (tTup (tCons (tC (.ty "list")) (tCons (tC (.ty "tuple")) tNil))) tNil))))
theorem rd_is_int {K : PySem.W.Frag} (vs : List V) (H : Hp) (Q : VK) (E : XK) (h : sp_is_int K vs H Q E) : t_is_int K { nx := fun _ H' => Q .non H', rt := Q } (start ["thing"] vs) H := by
  obtain ⟨v, t, rfl, ty, ht, q⟩ := h
  unfold t_is_int
  walk_at "rd"
  simp only [List.mem_cons, List.not_mem_nil, or_false] at ht
  rcases ht with rfl | rfl | rfl | rfl | rfl | rfl
  · refine r_isi (b := true) ty (by decide +kernel) ?_
    walk_at "rd"
    refine r_isi (b := false) ty (by decide +kernel) ?_
    walk_at "rd"
    exact q
  · refine r_isi (b := true) ty (by decide +kernel) ?_
    walk_at "rd"
    refine r_isi (b := true) ty (by decide +kernel) ?_
    walk_at "rd"
    exact q
  all_goals
    refine r_isi (b := false) ty (by decide +kernel) ?_
    walk_at "rd"
    exact q
theorem rd_is_row {K : PySem.W.Frag} (vs : List V) (H : Hp) (Q : VK) (E : XK) (h : sp_is_row K vs H Q E) : t_is_row K { nx := fun _ H' => Q .non H', rt := Q } (start ["thing"] vs) H := by
  obtain ⟨v, t, rfl, ty, ht, q⟩ := h
  unfold t_is_row
  walk_at "rd"
  refine r_nT (by show 2 ≤ sizeLine; decide) fun p hp => ?_
  walk_at "rd"
  have ty' := ty_mono (same_new (o := .tup [.ty "list", .ty "tuple"]) hp) ty
  simp only [List.mem_cons, List.not_mem_nil, or_false] at ht
  rcases ht with rfl | rfl | rfl | rfl | rfl | rfl
  · exact r_isiT upd_same ty' (lt_no (by decide +kernel) (by decide +kernel)) (q _ (same_new hp))
  · exact r_isiT upd_same ty' (lt_no (by decide +kernel) (by decide +kernel)) (q _ (same_new hp))
  · exact r_isiT upd_same ty' (lt_no (by decide +kernel) (by decide +kernel)) (q _ (same_new hp))
  · exact r_isiT upd_same ty' (lt_no (by decide +kernel) (by decide +kernel)) (q _ (same_new hp))
  · exact r_isiT upd_same ty' lt_l (q _ (same_new hp))
  · exact r_isiT upd_same ty' lt_t (q _ (same_new hp))
/-! ### errors -/
def ps_BadNumber : List Str := ["word"]
def ok_BadNumber (vs : List V) : Prop := ∃ w : Str, vs = [.str w] ∧ w.length ≤ 1000
theorem len_ok_BadNumber {vs : List V} (h : ok_BadNumber vs) : vs.length = ps_BadNumber.length := by
  obtain ⟨w, rfl, _⟩ := h
  rfl
theorem msgAdd_one {f xm : Str} {j} {q1 q2 q3 : Pos} {env : Env} {v : V} {u self : Value} {w : Str} (hv : v = .str w) (hw : w.length ≤ 1000) (r : RelV v u) (hx : xm.length ≤ 100) (hk : env.scope.kind = .function) (hl : env.kindOf f = some .local) (hd : (f == ("__debug__" : Str)) = false) :
    NwX.MsgOk (.BinOp (.Constant (.str xm) j q1) .Add (.Name f q2) q3) env (fun y => ([(("self" : Str), self), (f, u)]).reverse.lookup y) := by
  subst hv
  obtain ⟨t, rfl⟩ := r
  refine NwX.msg_add (z := w) (t := t) hk hl hd ?_ (Nat.le_trans (Nat.add_le_add hx hw) (by decide))
  show List.lookup f [(f, Value.str w t), (("self" : Str), self)] = some (.str w t)
  simp
theorem msgAdd_BadNumber {vs : List V} {us : List Value} {xm : Str} {j} {q1 q2 q3 : Pos} {env : Env} {self : Value} (h : ok_BadNumber vs) (r : Vals vs us) (hx : xm.length ≤ 100) (hk : env.scope.kind = .function) (hl : env.kindOf "word" = some .local) :
    NwX.MsgOk (.BinOp (.Constant (.str xm) j q1) .Add (.Name "word" q2) q3) env (fun y => ((("self" : Str) :: ps_BadNumber).zip (self :: us)).reverse.lookup y) := by
  obtain ⟨w, rfl, hw⟩ := h
  cases r with
  | cons r rn =>
    cases rn
    exact msgAdd_one rfl hw r hx hk hl (by decide +kernel)
def ps_BadRow : List Str := ["place"]
def ok_BadRow (vs : List V) : Prop := ∃ i : Int, vs = [.int i]
theorem len_ok_BadRow {vs : List V} (h : ok_BadRow vs) : vs.length = ps_BadRow.length := by
  obtain ⟨w, rfl⟩ := h
  rfl
/-- what a raise asks -/
def er (C : Addr) (ps : List Str) (okv : List V → Prop) (vs : List V) (H : Hp) (E : XK) : Prop := okv vs ∧ ∀ d, H d = none → E (.ref C) (some d) (upd H d (.xd (errFs ps vs)))
theorem r_raise {C : Addr} {ps : List Str} {okv : List V → Prop} {W : WX} {ta : TA} {D : Ends} {σ : L2.St} {H : Hp} (h : ta σ H fun vs H1 => er C ps okv vs H1 fun c d H2 => W c d σ H2) : tRaiseE C ps okv W ta D σ H := h
def t_check_number (K : PySem.W.Frag) (E : XK) : TS := (tIfS (tOr (tNot (tT (tCa (sp_is_int K) E0 (tCons (tVar 0) tNil)))) (tT (tOp nLt (tVar 0) (tVar 1))))
    (tRaiseE (He.ga K "BadNumber") ps_BadNumber ok_BadNumber (fun cls d _ H => E cls d H) (tCons (tVar 2) tNil))
    tNext)
/-- either a whole number from m on, and all is well; or not, and BadNumber(w) -/
def sp_check_number (K : PySem.W.Frag) : Sp := fun vs H Q E => ∃ (v : V) (m : Int) (w : Str), vs = [v, .int m, .str w] ∧
  ((∃ n : Int, v = .int n ∧ m ≤ n ∧ Q .non H) ∨ (((∃ n : Int, v = .int n ∧ n < m) ∨ intB v = some false) ∧ w.length ≤ 1000 ∧ ∀ d, H d = none → E (.ref (He.ga K "BadNumber")) (some d) (upd H d (.xd [(("word" : Str), .str w)]))))
theorem int_of {K : PySem.W.Frag} {v : V} {H : Hp} {Q : VK} {E : XK} {b : Bool} (h : intB v = some b) (q : Q (.bl b) H) : sp_is_int K [v] H Q E := by
  refine ⟨v, kindOf v, rfl, ty_flat h, ?_, ?_⟩
  · cases v with
    | int i => simp [kindOf]
    | bl i => simp [kindOf]
    | non => simp [kindOf]
    | str i => simp [kindOf]
    | _ => cases h
  · cases v with
    | int i => cases h; exact q
    | bl i => cases h; exact q
    | non => cases h; exact q
    | str i => cases h; exact q
    | _ => cases h
theorem rd_check_number {K : PySem.W.Frag} (vs : List V) (H : Hp) (Q : VK) (E : XK) (h : sp_check_number K vs H Q E) : t_check_number K E { nx := fun _ H' => Q .non H', rt := Q } (start ["number", "least", "word"] vs) H := by
  obtain ⟨v, m, w, rfl, h⟩ := h
  unfold t_check_number
  walk_at "rd"
  rcases h with ⟨n, rfl, hn, q⟩ | ⟨hb, hw, hE⟩
  · refine int_of (b := true) rfl ?_
    walk_at "rd"
    exact br_d (fun c => absurd c (by omega)) fun _ => q
  · have fin : tRaiseE (He.ga K "BadNumber") ps_BadNumber ok_BadNumber (fun cls d _ H => E cls d H) (tCons (tVar 2) tNil) { nx := fun _ H' => Q .non H', rt := Q } (start ["number", "least", "word"] [v, .int m, .str w]) H := by
      refine r_raise ?_
      walk_at "rd"
      exact ⟨⟨w, rfl, hw⟩, fun d hd => hE d hd⟩
    rcases hb with ⟨n, rfl, hn⟩ | hb
    · refine int_of (b := true) rfl ?_
      walk_at "rd"
      exact br_d (fun _ => fin) fun c => absurd hn c
    · refine int_of (b := false) hb ?_
      walk_at "rd"
      exact fin
/-! ### the draws -/
abbrev iv (ns : List Int) : List V := ns.map V.int
/-- the list at l holds whole numbers -/
def Held (l : Addr) (H : Hp) : Prop := ∃ ns : List Int, H l = some (.lst (iv ns))
def sp__law_take (K : PySem.W.Frag) : Sp := fun vs H Q _ => ∃ (l : Addr) (m : Int), vs = [.ref l, .int m] ∧ Held l H ∧ 0 < m ∧ ∀ r H', 0 ≤ r → r < m → Bt l H H' → Held l H' → Q (.int r) H'
def t__law_take (K : PySem.W.Frag) : TS := (tSeq (tIfS (tT (tOp rEq (tCB (rcLen K) (tCons (tVar 0) tNil)) (tC (.int 0))))
    (tRet (tC (.int 0)))
    tNext)
    (tRet (tOp nMod (tCB rcInt (tCons (tBM0 K "list" rPop (tVar 0)) tNil)) (tVar 1))))
theorem rd__law_take {K : PySem.W.Frag} (vs : List V) (H : Hp) (Q : VK) (E : XK) (h : sp__law_take K vs H Q E) : t__law_take K { nx := fun _ H' => Q .non H', rt := Q } (start ["_law_found", "_law_many"] vs) H := by
  obtain ⟨l, m, rfl, ⟨ns, hl⟩, hm, q⟩ := h
  unfold t__law_take
  walk_at "rd"
  refine r_len (xs := iv ns) (.inl (SqL.of hl)) ?_
  walk_at "rd"
  refine br_d (fun c => ?_) (fun c => ?_)
  · walk_at "rd"
    exact q 0 H (Int.le_refl _) hm (Bt.refl _ _) ⟨ns, hl⟩
  · walk_at "rd"
    have hn : ns ≠ [] := fun e => c (by rw [e]; rfl)
    refine r_pop (v := .int (ns.getLast hn)) hl ?_ ?_
    · rw [List.getElem?_map, List.length_map, List.getElem?_eq_getElem (by have := List.length_pos_iff.mpr hn; omega)]
      show some (V.int _) = _
      rw [List.getLast_eq_getElem]
    walk_at "rd"
    refine r_mod hm ?_
    refine q _ _ (Int.emod_nonneg _ (by omega)) (Int.emod_lt_of_pos _ hm) Bt.put ⟨ns.dropLast, ?_⟩
    rw [upd_same, ← List.map_dropLast]
/-! the first draw -/
def t__law_drawn (K : PySem.W.Frag) : TS := (tSeq (tAsg (tLst tNil) (gName 1))
    (tSeq (tFor (iRng1 (tCons (tCB rcMin (tCons (tCB (rcLen K) (tCons (tVar 0) tNil)) (tCons (tC (.int 63)) tNil))) tNil)) (gName 2)
    (tSeq (tAsg (tCB rcInt (tCons (tOp (rIx K) (tVar 0) (tVar 2)) tNil)) (gName 3))
    (tSeq (tIfS (tT (tOp nLt (tVar 3) (tC (.int 0))))
    (tSeq (tDrop (tBM K "list" rAppend (tVar 1) (tCons (tC (.int 1)) tNil)))
    (tAsg (tOp nSub (tC (.int 0)) (tVar 3)) (gName 3)))
    tNext)
    (tIfS (tT (tOp nGe (tVar 3) (tOp nPow (tC (.int 10)) (tC (.int 18)))))
    (tFor (iRng1 (tCons (tC (.int 50)) tNil)) (gName 4)
    (tIfS (tT (tOp nGt (tVar 3) (tC (.int 0))))
    (tSeq (tDrop (tBM K "list" rAppend (tVar 1) (tCons (tOp nMod (tCB rcInt (tCons (tVar 3) tNil)) (tC (.int 30))) tNil)))
    (tAsg (tOp nDiv (tVar 3) (tC (.int 30))) (gName 3)))
    tNext))
    (tSeq (tAsg (tOp nMod (tCB rcInt (tCons (tOp nAdd (tOp nAdd (tOp nMul (tVar 3) (tC (.int 69069))) (tOp nMul (tVar 2) (tC (.int 362437)))) (tC (.int 5))) tNil)) (tC (.int 2147483629))) (gName 5))
    (tFor (iRng1 (tCons (tC (.int 5)) tNil)) (gName 4)
    (tSeq (tAsg (tOp nMod (tCB rcInt (tCons (tOp nAdd (tOp nAdd (tOp nAdd (tOp nMul (tVar 5) (tVar 5)) (tOp nMul (tVar 4) (tC (.int 52021)))) (tOp nMul (tVar 2) (tC (.int 31)))) (tC (.int 11))) tNil)) (tC (.int 2147483587))) (gName 5))
    (tDrop (tBM K "list" rAppend (tVar 1) (tCons (tOp nDiv (tVar 5) (tC (.int 7))) tNil))))))))))
    (tSeq (tDrop (tBM0 K "list" rReverse (tVar 1)))
    (tRet (tVar 1)))))
def sp__law_drawn (K : PySem.W.Frag) : Sp := fun vs H Q _ => ∃ (a : Addr) (ns : List Int), vs = [.ref a] ∧ SqL K H a (iv ns) ∧ ns.length ≤ 63 ∧ ∀ l H', H l = none → Same H H' → Held l H' → Q (.ref l) H'
/-- the list made so far: new, not longer than c -/
def Grown (H : Hp) (l : Addr) (c : Nat) (H' : Hp) : Prop := H l = none ∧ Same H H' ∧ ∃ ns : List Int, H' l = some (.lst (iv ns)) ∧ ns.length ≤ c
theorem Grown.app {H H' : Hp} {l : Addr} {c : Nat} (g : Grown H l c H') (i : Int) : ∃ ns : List Int, H' l = some (.lst (iv ns)) ∧ ns.length ≤ c ∧ Grown H l (c + 1) (upd H' l (.lst (iv ns ++ [.int i]))) := by
  obtain ⟨h0, s, ns, h1, h2⟩ := g
  refine ⟨ns, h1, h2, h0, fun b o e => ?_, ns ++ [i], ?_, ?_⟩
  · rw [upd_ne (ne_of_none e h0)]
    exact s b o e
  · rw [upd_same]
    simp [iv]
  · rw [List.length_append, List.length_singleton]
    omega
theorem Grown.mono {H H' : Hp} {l : Addr} {c d : Nat} (g : Grown H l c H') (h : c ≤ d) : Grown H l d H' := by
  obtain ⟨h0, s, ns, h1, h2⟩ := g
  exact ⟨h0, s, ns, h1, by omega⟩
/-- from the cell's size on -/
def t_dr_tail (K : PySem.W.Frag) : TS := (tIfS (tT (tOp nGe (tVar 3) (tOp nPow (tC (.int 10)) (tC (.int 18)))))
    (tFor (iRng1 (tCons (tC (.int 50)) tNil)) (gName 4)
    (tIfS (tT (tOp nGt (tVar 3) (tC (.int 0))))
    (tSeq (tDrop (tBM K "list" rAppend (tVar 1) (tCons (tOp nMod (tCB rcInt (tCons (tVar 3) tNil)) (tC (.int 30))) tNil)))
    (tAsg (tOp nDiv (tVar 3) (tC (.int 30))) (gName 3)))
    tNext))
    (tSeq (tAsg (tOp nMod (tCB rcInt (tCons (tOp nAdd (tOp nAdd (tOp nMul (tVar 3) (tC (.int 69069))) (tOp nMul (tVar 2) (tC (.int 362437)))) (tC (.int 5))) tNil)) (tC (.int 2147483629))) (gName 5))
    (tFor (iRng1 (tCons (tC (.int 5)) tNil)) (gName 4)
    (tSeq (tAsg (tOp nMod (tCB rcInt (tCons (tOp nAdd (tOp nAdd (tOp nAdd (tOp nMul (tVar 5) (tVar 5)) (tOp nMul (tVar 4) (tC (.int 52021)))) (tOp nMul (tVar 2) (tC (.int 31)))) (tC (.int 11))) tNil)) (tC (.int 2147483587))) (gName 5))
    (tDrop (tBM K "list" rAppend (tVar 1) (tCons (tOp nDiv (tVar 5) (tC (.int 7))) tNil)))))))
theorem small_line {n : Nat} (h : n ≤ 10000) : n < sizeLine := Nat.lt_of_le_of_lt h (by decide)
theorem rd_dr_tail {K : PySem.W.Frag} {H H2 : Hp} {l : Addr} {a : Option V} {c : Int} {i : Int} {v4 v5 : Option V} {n : Nat} {D : Ends} (g : Grown H l n H2) (hn : n ≤ 5000) (hi : 0 ≤ i ∧ i < 63)
    (k : ∀ v3 v4 v5 H', Grown H l (n + 50) H' → D.nx [a, some (.ref l), some (.int i), v3, v4, v5] H') : t_dr_tail K D [a, some (.ref l), some (.int i), some (.int c), v4, v5] H2 := by
  unfold t_dr_tail
  walk_at "rd"
  refine r_pow (by unfold CPow; decide) ?_
  walk_at "rd"
  refine br_d (fun _ => ?_) (fun _ => ?_)
  · walk_at "rd"
    refine r_rgN (n := 50) (by decide) ?_
    refine lp_rng (fun j σ H' => ∃ c v4, σ = [a, some (.ref l), some (.int i), some (.int c), v4, v5] ∧ Grown H l (n + j) H') ⟨c, _, rfl, g⟩ ?_ ?_
    · rintro j σ H' hj ⟨c, v4, rfl, g⟩
      walk_at "rd"
      refine br_d (fun h => ?_) (fun h => ?_)
      · walk_at "rd"
        obtain ⟨ms, h1, h2, g'⟩ := g.app (c % 30)
        refine r_bmL h1 ?_
        walk_at "rd"
        refine r_mod (by decide) ?_
        walk_at "rd"
        refine r_app h1 (small_line (by rw [List.length_map]; omega)) ?_
        walk_at "rd"
        refine r_div ⟨by decide, by decide⟩ ?_
        exact ⟨_, _, rfl, g'⟩
      · exact ⟨_, _, rfl, g.mono (by omega)⟩
    · rintro σ H' ⟨c, v4, rfl, g⟩
      exact k _ _ _ _ g
  · walk_at "rd"
    refine r_mul (.inr (by decide)) ?_
    walk_at "rd"
    refine r_mul (.inr (by decide)) ?_
    walk_at "rd"
    refine r_mod (by decide) ?_
    walk_at "rd"
    refine r_rgN (n := 5) (by decide) ?_
    refine lp_rng (fun j σ H' => ∃ x v4, (0 ≤ x ∧ x < 2147483629) ∧ σ = [a, some (.ref l), some (.int i), some (.int c), v4, some (.int x)] ∧ Grown H l (n + j) H') ⟨_, _, ⟨Int.emod_nonneg _ (by decide), Int.emod_lt_of_pos _ (by decide)⟩, rfl, g⟩ ?_ ?_
    · rintro j σ H' hj ⟨x, v4, hx, rfl, g⟩
      walk_at "rd"
      refine r_mul (.inl ⟨by omega, by omega⟩) ?_
      walk_at "rd"
      refine r_mul (.inr (by decide)) ?_
      walk_at "rd"
      refine r_mul (.inr (by decide)) ?_
      walk_at "rd"
      refine r_mod (by decide) ?_
      walk_at "rd"
      obtain ⟨ms, h1, h2, g'⟩ := g.app ((x * x + (0 + (j : Int)) * 52021 + i * 31 + 11) % 2147483587 / 7)
      refine r_bmL h1 ?_
      walk_at "rd"
      refine r_div ⟨by decide, by decide⟩ ?_
      walk_at "rd"
      refine r_app h1 (small_line (by rw [List.length_map]; omega)) ?_
      refine ⟨_, _, ⟨Int.emod_nonneg _ (by decide), ?_⟩, rfl, g'⟩
      exact Int.lt_trans (Int.emod_lt_of_pos _ (by decide)) (by decide)
    · rintro σ H' ⟨x, v4, hx, rfl, g⟩
      exact k _ _ _ _ (g.mono (by omega))
theorem rd__law_drawn {K : PySem.W.Frag} (vs : List V) (H : Hp) (Q : VK) (E : XK) (h : sp__law_drawn K vs H Q E) : t__law_drawn K { nx := fun _ H' => Q .non H', rt := Q } (start ["_law_script", "_law_found", "_law_place", "_law_cell", "_law_turn", "_law_grain"] vs) H := by
  obtain ⟨a, ns, rfl, hS, hlen, q⟩ := h
  unfold t__law_drawn
  walk_at "rd"
  refine r_nL (Nat.zero_le _) fun l hl => ?_
  walk_at "rd"
  have g0 : Grown H l 0 (upd H l (.lst [])) := ⟨hl, same_new hl, [], upd_same, Nat.le_refl _⟩
  refine r_len (xs := iv ns) (.inl (g0.2.1.seq hS)) ?_
  walk_at "rd"
  have e63 : (if (63 : Int) < ((iv ns).length : Int) then (63 : Int) else ((iv ns).length : Int)) = (ns.length : Int) := by
    rw [List.length_map, if_neg (by omega)]
  rw [e63]
  refine r_rgN (by have : (63 : Nat) < 2 ^ 62 := by decide
                   omega) ?_
  refine lp_rng (fun i σ H' => ∃ v2 v3 v4 v5, σ = [some (.ref a), some (.ref l), v2, v3, v4, v5] ∧ Grown H l (i * 60) H') ⟨_, _, _, _, rfl, by rw [Nat.zero_mul]; exact g0⟩ ?_ ?_
  · rintro i σ H1 hi ⟨v2, v3, v4, v5, rfl, g⟩
    walk_at "rd"
    have hx : ns[i]? = some ns[i] := List.getElem?_eq_getElem hi
    refine r_ixL (xs := iv ns) (v := .int ns[i]) (g.2.1.seq hS) ?_ ?_
    · rw [Int.zero_add, atI_nat (by rw [List.getElem?_map, hx]; rfl)]
    walk_at "rd"
    have i63 : 0 ≤ 0 + (i : Int) ∧ 0 + (i : Int) < 63 := by omega
    have fin : ∀ v3 v4 v5 H', Grown H l (i * 60 + 1 + 50) H' → ∃ w2 w3 w4 w5, ([some (.ref a), some (.ref l), some (.int (0 + (i : Int))), v3, v4, v5] : List (Option V)) = [some (.ref a), some (.ref l), w2, w3, w4, w5] ∧ Grown H l ((i + 1) * 60) H' :=
      fun v3 v4 v5 H' g' => ⟨_, _, _, _, rfl, g'.mono (by omega)⟩
    refine br_d (fun _ => ?_) (fun _ => ?_)
    · walk_at "rd"
      obtain ⟨ms, h1, h2, g'⟩ := g.app 1
      refine r_bmL h1 ?_
      walk_at "rd"
      refine r_app h1 (small_line (by rw [List.length_map]; omega)) ?_
      walk_at "rd1"
      exact rd_dr_tail g' (by omega) i63 fin
    · refine r_next ?_
      exact rd_dr_tail (g.mono (Nat.le_succ _)) (by omega) i63 fin
  · rintro σ H1 ⟨v2, v3, v4, v5, rfl, g⟩
    obtain ⟨h0, s, ms, h1, h2⟩ := g
    walk_at "rd"
    refine r_rev h1 ?_
    walk_at "rd"
    refine q l _ h0 (fun b o e => ?_) ⟨ms.reverse, ?_⟩
    · rw [upd_ne (ne_of_none e h0)]
      exact s b o e
    · rw [upd_same, ← List.map_reverse]
section
variable {K : PySem.W.Frag} {vs : List V} {H : Hp} {Q : VK} {E : XK}
theorem len_is_int (h : sp_is_int K vs H Q E) : vs.length = 1 := by
  obtain ⟨_, _, rfl, _⟩ := h
  rfl
theorem len_is_row (h : sp_is_row K vs H Q E) : vs.length = 1 := by
  obtain ⟨_, _, rfl, _⟩ := h
  rfl
theorem len_check_number (h : sp_check_number K vs H Q E) : vs.length = 3 := by
  obtain ⟨_, _, _, rfl, _⟩ := h
  rfl
theorem len__law_take (h : sp__law_take K vs H Q E) : vs.length = 2 := by
  obtain ⟨_, _, rfl, _⟩ := h
  rfl
theorem len__law_drawn (h : sp__law_drawn K vs H Q E) : vs.length = 1 := by
  obtain ⟨_, _, rfl, _⟩ := h
  rfl
end
/-! ### a heap but for one object -/
def del (l : Addr) (H : Hp) : Hp := fun b => if b = l then none else H b
theorem del_ne {l b : Addr} {H : Hp} (h : b ≠ l) : del l H b = H b := if_neg h
theorem del_at {l : Addr} {H : Hp} : del l H l = none := if_pos rfl
theorem del_same (l : Addr) (H : Hp) : Same (del l H) H := fun b o e => by
  by_cases h : b = l
  · rw [h, del_at] at e; cases e
  · rw [del_ne h] at e; exact e
theorem _root_.Nw.Bt.del {l : Addr} {H H' : Hp} (h : Bt l H H') : Same (Nw.del l H) (Nw.del l H') := fun b o e => by
  by_cases c : b = l
  · rw [c, del_at] at e; cases e
  · rw [del_ne c] at e ⊢; exact h b o c e
theorem _root_.L2.Same.dl {l : Addr} {H H' : Hp} (h : Same H H') : Same (Nw.del l H) (Nw.del l H') := (Bt.of h).del
theorem Bt.fresh {l p : Addr} {H H' : Hp} (h : Bt l H H') (n : p ≠ l) (hp : H' p = none) : H p = none := by
  cases q : H p with
  | none => rfl
  | some o =>
    rw [h p o n q] at hp
    cases hp
theorem del_put {l : Addr} {H : Hp} {o : HO} : del l (upd H l o) = del l H := by
  funext b
  by_cases c : b = l
  · rw [c, del_at, del_at]
  · rw [del_ne c, del_ne c, upd_ne c]
theorem r_rg2N {lo hi : Int} {n : Nat} {H : Hp} {R : It → Hp → Prop} (e : (hi - lo).toNat = n) (b : -(2 ^ 62) ≤ lo ∧ lo < 2 ^ 62 ∧ -(2 ^ 62) ≤ hi ∧ hi < 2 ^ 62) (q : R (Itr lo n) H) : rg2 [.int lo, .int hi] H R := ⟨lo, hi, rfl, b, by rw [e]; exact q⟩
theorem Held.same {l : Addr} {H H' : Hp} (h : Held l H) (s : Same H H') : Held l H' := by
  obtain ⟨ns, e⟩ := h
  exact ⟨ns, s _ _ e⟩
theorem Held.ne {l p : Addr} {H : Hp} (h : Held l H) (hp : H p = none) : p ≠ l := fun e => by
  obtain ⟨ns, q⟩ := h
  rw [e, q] at hp
  cases hp
theorem del_upd {l p : Addr} {H : Hp} {o : HO} (h : p ≠ l) : del l (upd H p o) = upd (del l H) p o := by
  funext b
  by_cases c : b = l
  · rw [c, del_at, upd_ne (Ne.symm h), del_at]
  · rw [del_ne c]
    by_cases d : b = p
    · rw [d, upd_same, upd_same]
    · rw [upd_ne d, upd_ne d, del_ne c]
/-! ### comprehensions -/
def lcG (J : It) (g : TG) (tt : TT) (te : TE) (vs : List Nat) (Q : VK) (σ : L2.St) (H1 : Hp) : Prop := ∀ D, H1 D = none → ∃ W : Nat → Nat → Hp → Prop, (∃ m, W 0 m (upd H1 D (.lst []))) ∧ ∀ i m H, W i m H →
  (J.stop i H ∧ Q (.ref D) H) ∨ (J.go i H ∧ ∃ Nx : Hp → Prop, (∀ H', Nx H' → ∃ m', m' < m ∧ W (i + 1) m' H') ∧ ∀ x H', J.yld i H x H' → g x (wipe σ vs) H' fun σ2 H2 => wipe σ2 vs = wipe σ vs ∧ tt σ2 H2 fun b H3 =>
    if b = true then te σ2 H3 fun y H4 => ∃ acc, H4 D = some (.lst acc) ∧ acc.length < sizeLine ∧ Nx (upd H4 D (.lst (acc ++ [y]))) else Nx H3)
theorem r_lc {wi : TI} {g : TG} {tt : TT} {te : TE} {vs : List Nat} {Q : VK} {σ : L2.St} {H : Hp} (h : wi σ H fun J H1 => lcG J g tt te vs Q σ H1) : tLc wi g tt te vs σ H Q := h
theorem range_map_succ {α : Type} (f : Nat → α) (i : Nat) : (List.range (i + 1)).map f = (List.range i).map f ++ [f i] := by
  rw [List.range_succ, List.map_append]
  rfl
theorem same_upd {H H' : Hp} {D : Addr} {o : HO} (h0 : H D = none) (s : Same H H') : Same H (upd H' D o) := fun b u e => by
  rw [upd_ne (ne_of_none e h0)]
  exact s b u e
/-- [e for x in range(lo, lo + n)], the elements told -/
theorem lc_rng {lo : Int} {n j : Nat} {te : TE} {vs : List Nat} {Q : VK} {σ : L2.St} {H : Hp} (f : Nat → V) (hn : n ≤ 10000) (hw : ∀ x, wipe ((wipe σ vs).set j (some x)) vs = wipe σ vs)
    (hs : ∀ (i : Nat) (H' : Hp) (Q' : VK), i < n → Same H H' → (∀ H4, Same H' H4 → Q' (f i) H4) → te ((wipe σ vs).set j (some (.int (lo + i)))) H' Q')
    (k : ∀ D H', H D = none → Same H H' → H' D = some (.lst ((List.range n).map f)) → Q (.ref D) H') : lcG (Itr lo n) (gName j) tYes te vs Q σ H := fun D hD => by
  refine L2.lc_range (fun i H' => Same H H' ∧ H' D = some (.lst ((List.range i).map f))) ⟨same_new hD, upd_same⟩ ?_ (fun H' p => k D H' hD p.1 p.2)
  rintro i H' hi ⟨s, e⟩
  refine ⟨hw _, hs i H' _ hi s fun H4 s4 => ?_⟩
  refine ⟨_, s4 _ _ e, ?_, same_upd hD (s.trans s4), ?_⟩
  · rw [List.length_map, List.length_range]
    exact small_line (by omega)
  · rw [upd_same, range_map_succ]
/-- [e for x in xs], xs a list -/
theorem lc_lst {K : PySem.W.Frag} {a : Addr} {xs : List V} {j : Nat} {te : TE} {vs : List Nat} {Q : VK} {σ : L2.St} {H : Hp} (f : V → V) (hx : SqL K H a xs) (hn : xs.length ≤ 10000) (hw : ∀ x, wipe ((wipe σ vs).set j (some x)) vs = wipe σ vs)
    (hs : ∀ (i : Nat) (x : V) (H' : Hp) (Q' : VK), xs[i]? = some x → Same H H' → (∀ H4, Same H' H4 → Q' (f x) H4) → te ((wipe σ vs).set j (some x)) H' Q')
    (k : ∀ D H', H D = none → Same H H' → H' D = some (.lst (xs.map f)) → Q (.ref D) H') : lcG (Itl K a) (gName j) tYes te vs Q σ H := fun D hD => by
  refine L2.lc_list (xs := xs) (fun i H' => Same H H' ∧ H' D = some (.lst ((xs.take i).map f))) ⟨same_new hD, upd_same⟩ (fun i H' _ p => p.1.seq hx) ?_ (fun H' p => k D H' hD p.1 (by rw [p.2, List.take_length]))
  rintro i x H' hi ⟨s, e⟩
  have hlt : i < xs.length := (List.getElem?_eq_some_iff.mp hi).1
  refine ⟨hw x, hs i x H' _ hi s fun H4 s4 => ?_⟩
  refine ⟨_, s4 _ _ e, ?_, same_upd hD (s.trans s4), ?_⟩
  · rw [List.length_map, List.length_take]
    exact small_line (by omega)
  · rw [upd_same, List.take_add_one, hi, Option.toList_some, List.map_append]
    rfl
/-- .. the elements told by their places -/
theorem lc_lsti {K : PySem.W.Frag} {a : Addr} {xs : List V} {j : Nat} {te : TE} {vs : List Nat} {Q : VK} {σ : L2.St} {H : Hp} (f : Nat → V) (hx : SqL K H a xs) (hn : xs.length ≤ 10000) (hw : ∀ x, wipe ((wipe σ vs).set j (some x)) vs = wipe σ vs)
    (hs : ∀ (i : Nat) (x : V) (H' : Hp) (Q' : VK), xs[i]? = some x → Same H H' → (∀ H4, Same H' H4 → Q' (f i) H4) → te ((wipe σ vs).set j (some x)) H' Q')
    (k : ∀ D H', H D = none → Same H H' → H' D = some (.lst ((List.range xs.length).map f)) → Q (.ref D) H') : lcG (Itl K a) (gName j) tYes te vs Q σ H := fun D hD => by
  refine L2.lc_list (xs := xs) (fun i H' => Same H H' ∧ H' D = some (.lst ((List.range i).map f))) ⟨same_new hD, upd_same⟩ (fun i H' _ p => p.1.seq hx) ?_ (fun H' p => k D H' hD p.1 p.2)
  rintro i x H' hi ⟨s, e⟩
  have hlt : i < xs.length := (List.getElem?_eq_some_iff.mp hi).1
  refine ⟨hw x, hs i x H' _ hi s fun H4 s4 => ?_⟩
  refine ⟨_, s4 _ _ e, ?_, same_upd hD (s.trans s4), ?_⟩
  · rw [List.length_map, List.length_range]
    exact small_line (by omega)
  · rw [upd_same, range_map_succ]
theorem r_all {K : PySem.W.Frag} {a : Addr} {bs : List Bool} {H : Hp} {Q : VK} (h : SqL K H a (bs.map V.bl)) (q : Q (.bl (bs.all id)) H) : rAll K [.ref a] H Q := ⟨a, bs, rfl, h, q⟩
theorem take {K : PySem.W.Frag} {l : Addr} {m : Int} {H : Hp} {Q : VK} {E : XK} (hl : Held l H) (hm : 0 < m) (k : ∀ r H', 0 ≤ r → r < m → Bt l H H' → Held l H' → Q (.int r) H') : sp__law_take K [.ref l, .int m] H Q E := ⟨l, m, rfl, hl, hm, k⟩
/-! ### what comes back whatever new stands -/
def Back (v : V) (H : Hp) (Q : VK) : Prop := ∀ H', Same H H' → Q v H'
theorem Back.self {v : V} {H : Hp} {Q : VK} (h : Back v H Q) : Q v H := h H (Same.refl H)
theorem Back.same {v : V} {H H' : Hp} {Q : VK} (h : Back v H Q) (s : Same H H') : Back v H' Q := fun H2 s2 => h H2 (s.trans s2)
theorem ty_sq {K : PySem.W.Frag} {H : Hp} {a : Addr} {xs : List V} (h : Sq K H a xs) : ∃ t, TyX K H (.ref a) (.type t) ∧ t ∈ ["int", "bool", "NoneType", "str", "list", "tuple"] ∧ (t == "list" || t == "tuple") = true := by
  rcases h with h | h
  · exact ⟨"list", ty_l h, by simp, rfl⟩
  · exact ⟨"tuple", ty_t h, by simp, rfl⟩
theorem row_sq {K : PySem.W.Frag} {H : Hp} {Q : VK} {E : XK} {a : Addr} {xs : List V} (h : Sq K H a xs) (q : Back (.bl true) H Q) : sp_is_row K [.ref a] H Q E := by
  obtain ⟨t, h1, h2, h3⟩ := ty_sq h
  refine ⟨_, t, rfl, h1, h2, fun H' s => ?_⟩
  rw [h3]
  exact q H' s
theorem row_flat {K : PySem.W.Frag} {H : Hp} {Q : VK} {E : XK} {v : V} {b : Bool} (h : intB v = some b) (q : Back (.bl false) H Q) : sp_is_row K [v] H Q E := by
  refine ⟨v, Nw.kindOf v, rfl, ty_flat h, ?_, fun H' s => ?_⟩
  · cases v with
    | int i => simp [Nw.kindOf]
    | bl i => simp [Nw.kindOf]
    | non => simp [Nw.kindOf]
    | str i => simp [Nw.kindOf]
    | _ => cases h
  · have e : (Nw.kindOf v == "list" || Nw.kindOf v == "tuple") = false := by
      cases v with
      | int i => rfl
      | bl i => rfl
      | non => rfl
      | str i => rfl
      | _ => cases h
    rw [e]
    exact q H' s
end Nw
end
section
set_option linter.all false
/-! the powers of 2, 3, 5: which kind gives which -/
namespace K63
def P (a b c : Nat) : Nat := 2 ^ a * 3 ^ b * 5 ^ c
theorem P_pos (a b c : Nat) : 0 < P a b c := Nat.mul_pos (Nat.mul_pos (Nat.pow_pos (by decide)) (Nat.pow_pos (by decide))) (Nat.pow_pos (by decide))
theorem P_mul (a b c x y z : Nat) : P a b c * P x y z = P (a + x) (b + y) (c + z) := by
  unfold P
  rw [Nat.pow_add, Nat.pow_add, Nat.pow_add]
  ac_rfl
theorem cop {p q : Nat} (h : Nat.Coprime p q) (m n : Nat) : Nat.Coprime (p ^ m) (q ^ n) := Nat.Coprime.pow m n h
theorem c23 (m n : Nat) : Nat.Coprime (2 ^ m) (3 ^ n) := cop (by decide) m n
theorem c25 (m n : Nat) : Nat.Coprime (2 ^ m) (5 ^ n) := cop (by decide) m n
theorem c35 (m n : Nat) : Nat.Coprime (3 ^ m) (5 ^ n) := cop (by decide) m n
theorem P_dvd {a b c x y z : Nat} : P a b c ∣ P x y z ↔ a ≤ x ∧ b ≤ y ∧ c ≤ z := by
  constructor
  · intro h
    have h2 : 2 ^ a ∣ 2 ^ x * 3 ^ y * 5 ^ z := Nat.dvd_trans ⟨3 ^ b * 5 ^ c, by unfold P; ac_rfl⟩ h
    have h3 : 3 ^ b ∣ 2 ^ x * 3 ^ y * 5 ^ z := Nat.dvd_trans ⟨2 ^ a * 5 ^ c, by unfold P; ac_rfl⟩ h
    have h5 : 5 ^ c ∣ 2 ^ x * 3 ^ y * 5 ^ z := Nat.dvd_trans ⟨2 ^ a * 3 ^ b, by unfold P; ac_rfl⟩ h
    refine ⟨?_, ?_, ?_⟩
    · have q := (c23 a y).dvd_of_dvd_mul_right ((c25 a z).dvd_of_dvd_mul_right h2)
      exact (Nat.pow_dvd_pow_iff_le_right (by decide)).mp q
    · have q := (c23 x b).symm.dvd_of_dvd_mul_left ((c35 b z).dvd_of_dvd_mul_right h3)
      exact (Nat.pow_dvd_pow_iff_le_right (by decide)).mp q
    · have q := Nat.Coprime.dvd_of_dvd_mul_left (Nat.Coprime.mul_right (c25 x c).symm (c35 y c).symm) h5
      exact (Nat.pow_dvd_pow_iff_le_right (by decide)).mp q
  · rintro ⟨h1, h2, h3⟩
    exact Nat.mul_dvd_mul (Nat.mul_dvd_mul (Nat.pow_dvd_pow _ h1) (Nat.pow_dvd_pow _ h2)) (Nat.pow_dvd_pow _ h3)
theorem P_gcd (a b c x y z : Nat) : Nat.gcd (P a b c) (P x y z) = P (min a x) (min b y) (min c z) := by
  have e1 : P a b c = P (min a x) (min b y) (min c z) * P (a - x) (b - y) (c - z) := by
    rw [P_mul]
    congr 1 <;> omega
  have e2 : P x y z = P (min a x) (min b y) (min c z) * P (x - a) (y - b) (z - c) := by
    rw [P_mul]
    congr 1 <;> omega
  rw [e1, e2, Nat.gcd_mul_left]
  have one : ∀ {p m n : Nat}, m = 0 ∨ n = 0 → Nat.Coprime (p ^ m) (p ^ n) := by
    intro p m n h
    rcases h with rfl | rfl
    · rw [Nat.pow_zero]; exact Nat.coprime_one_left _
    · rw [Nat.pow_zero]; exact Nat.coprime_one_right _
  have q : Nat.Coprime (P (a - x) (b - y) (c - z)) (P (x - a) (y - b) (z - c)) := by
    unfold P
    refine Nat.Coprime.mul_left (Nat.Coprime.mul_left ?_ ?_) ?_
    · exact Nat.Coprime.mul_right (Nat.Coprime.mul_right (one (by omega)) (c23 _ _)) (c25 _ _)
    · exact Nat.Coprime.mul_right (Nat.Coprime.mul_right (c23 _ _).symm (one (by omega))) (c35 _ _)
    · exact Nat.Coprime.mul_right (Nat.Coprime.mul_right (c25 _ _).symm (c35 _ _).symm) (one (by omega))
  have q' : Nat.gcd (P (a - x) (b - y) (c - z)) (P (x - a) (y - b) (z - c)) = 1 := q
  rw [q', Nat.mul_one]
/-! ### which kind gives which -/
def fac (k1 k2 : Nat) : Nat := if k1 = 0 ∧ k2 = 0 then 1 else k2 / Nat.gcd k2 k1
def gv (k1 s1 k2 s2 : Nat) : Prop := Nat.gcd (s1 * fac k1 k2) k2 ∣ s2
instance (k1 s1 k2 s2 : Nat) : Decidable (gv k1 s1 k2 s2) := inferInstanceAs (Decidable (_ ∣ _))
abbrev Pw := Option (Nat × Nat × Nat)
def Wt : Pw → Nat
  | none => 0
  | some (a, b, c) => P a b c
def pe : Pw → Nat → Nat
  | none, _ => 99
  | some (a, _, _), 0 => a
  | some (_, b, _), 1 => b
  | some (_, _, c), _ => c
/-- below 99 -/
def Lo : Pw → Prop
  | none => True
  | some (a, b, c) => a < 99 ∧ b < 99 ∧ c < 99
def le3 (f g : Nat → Nat) : Prop := f 0 ≤ g 0 ∧ f 1 ≤ g 1 ∧ f 2 ≤ g 2
instance (f g : Nat → Nat) : Decidable (le3 f g) := inferInstanceAs (Decidable (_ ∧ _))
def goes (p r : Pw × Pw) : Bool := match r.1 with
  | none => if p.1 ≠ none then decide (r.2 = none) else (decide (le3 (pe p.2) (pe r.2)) && (decide (p.2 ≠ none) || decide (r.2 = none)))
  | some y => decide (le3 (fun k => min (pe p.2 k + (pe (some y) k - pe p.1 k)) (pe (some y) k)) (pe r.2))
theorem goes_iff {p r : Pw × Pw} (h1 : Lo p.1) (h2 : Lo p.2) (h3 : Lo r.1) (h4 : Lo r.2) : goes p r = true ↔ gv (Wt p.1) (Wt p.2) (Wt r.1) (Wt r.2) := by
  obtain ⟨p0, p1⟩ := p
  obtain ⟨r0, r1⟩ := r
  unfold goes gv fac
  cases r0 with
  | none =>
    cases p0 with
    | some x =>
      obtain ⟨a, b, c⟩ := x
      have hx := P_pos a b c
      cases r1 with
      | none => simp [Wt]
      | some u =>
        obtain ⟨d, e, f⟩ := u
        have hu := P_pos d e f
        simp only [Wt, ne_eq, reduceCtorEq, not_false_eq_true, if_true, and_true, if_neg (Nat.ne_of_gt hx), Nat.zero_div, Nat.mul_zero, Nat.gcd_zero_left, Nat.zero_dvd]
        simp only [decide_eq_true_eq]
        constructor
        · intro q; cases q
        · intro q; omega
    | none =>
      simp only [Wt, ne_eq, not_true_eq_false, if_false, and_self, if_true, Nat.mul_one, Nat.gcd_zero_right]
      cases p1 with
      | none =>
        cases r1 with
        | none => simp [Wt, le3, pe]
        | some u =>
          obtain ⟨d, e, f⟩ := u
          have hu := P_pos d e f
          obtain ⟨l1, l2, l3⟩ := h4
          simp only [Wt, le3, pe, ne_eq, not_true_eq_false, decide_false, reduceCtorEq, Bool.or_self, Bool.and_false, Bool.false_eq_true, Nat.zero_dvd, false_iff]
          omega
      | some x =>
        obtain ⟨a, b, c⟩ := x
        obtain ⟨l1, l2, l3⟩ := h2
        cases r1 with
        | none =>
          simp only [Wt, le3, pe, ne_eq, reduceCtorEq, not_false_eq_true, decide_true, Bool.or_true, Bool.and_true, decide_eq_true_eq, Nat.dvd_zero, iff_true]
          omega
        | some u =>
          obtain ⟨d, e, f⟩ := u
          simp only [Wt, le3, pe, ne_eq, reduceCtorEq, not_false_eq_true, decide_true, Bool.or_false, decide_false, Bool.true_or, Bool.and_true, decide_eq_true_eq, P_dvd]
  | some y =>
    obtain ⟨ya, yb, yc⟩ := y
    have hy := P_pos ya yb yc
    have hf : (if Wt p0 = 0 ∧ Wt (some (ya, yb, yc)) = 0 then 1 else Wt (some (ya, yb, yc)) / Nat.gcd (Wt (some (ya, yb, yc))) (Wt p0)) = P (ya - pe p0 0) (yb - pe p0 1) (yc - pe p0 2) := by
      rw [if_neg (by intro q; exact absurd q.2 (Nat.ne_of_gt hy))]
      cases p0 with
      | none =>
        obtain ⟨l1, l2, l3⟩ := h3
        show P ya yb yc / Nat.gcd (P ya yb yc) 0 = P (ya - 99) (yb - 99) (yc - 99)
        rw [Nat.gcd_zero_right, Nat.div_self hy, show ya - 99 = 0 by omega, show yb - 99 = 0 by omega, show yc - 99 = 0 by omega]
        rfl
      | some x =>
        obtain ⟨a, b, c⟩ := x
        show P ya yb yc / Nat.gcd (P ya yb yc) (P a b c) = P (ya - a) (yb - b) (yc - c)
        rw [P_gcd]
        refine Nat.div_eq_of_eq_mul_left (P_pos _ _ _) ?_
        rw [P_mul]
        congr 1 <;> omega
    rw [hf]
    have hg : Nat.gcd (Wt p1 * P (ya - pe p0 0) (yb - pe p0 1) (yc - pe p0 2)) (Wt (some (ya, yb, yc))) = P (min (pe p1 0 + (ya - pe p0 0)) ya) (min (pe p1 1 + (yb - pe p0 1)) yb) (min (pe p1 2 + (yc - pe p0 2)) yc) := by
      cases p1 with
      | none =>
        obtain ⟨l1, l2, l3⟩ := h3
        show Nat.gcd (0 * _) (P ya yb yc) = P (min (99 + (ya - pe p0 0)) ya) (min (99 + (yb - pe p0 1)) yb) (min (99 + (yc - pe p0 2)) yc)
        rw [Nat.zero_mul, Nat.gcd_zero_left, Nat.min_eq_right (by omega), Nat.min_eq_right (by omega), Nat.min_eq_right (by omega)]
      | some x =>
        obtain ⟨a, b, c⟩ := x
        show Nat.gcd (P a b c * _) (P ya yb yc) = P (min (a + (ya - pe p0 0)) ya) (min (b + (yb - pe p0 1)) yb) (min (c + (yc - pe p0 2)) yc)
        rw [P_mul, P_gcd]
    rw [hg, decide_eq_true_eq]
    cases r1 with
    | none =>
      obtain ⟨l1, l2, l3⟩ := h3
      show le3 _ (pe none) ↔ _ ∣ 0
      refine ⟨fun _ => Nat.dvd_zero _, fun _ => ⟨?_, ?_, ?_⟩⟩
      · show min _ ya ≤ 99; omega
      · show min _ yb ≤ 99; omega
      · show min _ yc ≤ 99; omega
    | some u =>
      obtain ⟨d, e, f⟩ := u
      show le3 _ _ ↔ P _ _ _ ∣ P d e f
      rw [P_dvd]
      exact Iff.rfl
/-! ### hours that go on -/
def good (p : Pw × Pw) (k w : Nat) : Bool := decide (min w (pe p.1 k) ≤ pe p.2 k)
def hgo3 (p r : Pw × Pw) : Prop := ∀ k, k < 3 → ∀ w, 1 ≤ w → w < 15 → good p k w = true → good r k w = true
def hgo (p r : Pw × Pw) : Prop := hgo3 p r ∧ (r.1 = none → r.2 ≠ none → p.1 = none)
/-- at most 13 -/
def Lq : Pw → Prop
  | none => True
  | some (a, b, c) => a < 14 ∧ b < 14 ∧ c < 14
theorem Lq.lo {p : Pw} (h : Lq p) : Lo p := by
  cases p with
  | none => trivial
  | some x =>
    obtain ⟨a, b, c⟩ := x
    obtain ⟨h1, h2, h3⟩ := h
    exact ⟨by omega, by omega, by omega⟩
theorem pe_lq {p : Pw} (h : Lq p) (k : Nat) (hk : k < 3) : pe p k < 14 ∨ (pe p k = 99 ∧ p = none) := by
  cases p with
  | none => exact .inr ⟨by cases k <;> rfl, rfl⟩
  | some x =>
    obtain ⟨a, b, c⟩ := x
    obtain ⟨h1, h2, h3⟩ := h
    match k, hk with
    | 0, _ => exact .inl h1
    | 1, _ => exact .inl h2
    | 2, _ => exact .inl h3
theorem pe_none (k : Nat) : pe none k = 99 := by cases k <;> rfl
theorem le3_iff {f g : Nat → Nat} : le3 f g ↔ ∀ k, k < 3 → f k ≤ g k := by
  constructor
  · rintro ⟨h0, h1, h2⟩ k hk
    match k, hk with
    | 0, _ => exact h0
    | 1, _ => exact h1
    | 2, _ => exact h2
  · intro h
    exact ⟨h 0 (by decide), h 1 (by decide), h 2 (by decide)⟩
theorem goes_some {p : Pw × Pw} {y : Nat × Nat × Nat} {r1 : Pw} : goes p (some y, r1) = true ↔ ∀ k, k < 3 → min (pe p.2 k + (pe (some y) k - pe p.1 k)) (pe (some y) k) ≤ pe r1 k := by
  unfold goes
  rw [decide_eq_true_eq, le3_iff]
theorem goes_none {p : Pw × Pw} {r1 : Pw} : goes p (none, r1) = true ↔ (p.1 ≠ none ∧ r1 = none) ∨ (p.1 = none ∧ (∀ k, k < 3 → pe p.2 k ≤ pe r1 k) ∧ (p.2 ≠ none ∨ r1 = none)) := by
  unfold goes
  by_cases h : p.1 = none
  · simp only [h, ne_eq, not_true_eq_false, if_false, false_and, false_or, true_and, Bool.and_eq_true, decide_eq_true_eq, Bool.or_eq_true, le3_iff]
  · simp only [h, ne_eq, not_false_eq_true, if_true, true_and, false_and, or_false, decide_eq_true_eq]
theorem goes_hgo {p r : Pw × Pw} (h1 : Lq p.1) (h2 : Lq p.2) (h3 : Lq r.1) (h4 : Lq r.2) (g : goes p r = true) : hgo p r := by
  obtain ⟨p0, p1⟩ := p
  obtain ⟨r0, r1⟩ := r
  cases r0 with
  | none =>
    rcases goes_none.mp g with ⟨q1, q2⟩ | ⟨q1, q2, q3⟩
    · refine ⟨fun k hk w hw1 hw2 _ => ?_, fun _ q => absurd q2 q⟩
      have q2' : r1 = none := q2
      subst q2'
      unfold good
      rw [decide_eq_true_eq]
      show min w (pe none k) ≤ pe none k
      omega
    · refine ⟨fun k hk w hw1 hw2 hg => ?_, fun _ _ => q1⟩
      have q1' : p0 = none := q1
      subst q1'
      unfold good at hg ⊢
      rw [decide_eq_true_eq] at hg ⊢
      have := q2 k hk
      have hg' : min w (pe none k) ≤ pe p1 k := hg
      show min w (pe none k) ≤ pe r1 k
      have t : pe p1 k ≤ pe r1 k := this
      omega
  | some y =>
    have q := goes_some.mp g
    refine ⟨fun k hk w hw1 hw2 hg => ?_, fun e => nomatch e⟩
    unfold good at hg ⊢
    rw [decide_eq_true_eq] at hg ⊢
    have t := q k hk
    have hg' : min w (pe p0 k) ≤ pe p1 k := hg
    have t' : min (pe p1 k + (pe (some y) k - pe p0 k)) (pe (some y) k) ≤ pe r1 k := t
    show min w (pe (some y) k) ≤ pe r1 k
    omega
theorem hgo_goes {p r : Pw × Pw} (h1 : Lq p.1) (h2 : Lq p.2) (h3 : Lq r.1) (h4 : Lq r.2) (hd : p.1 = none ∨ (r.1 ≠ none ∧ Wt r.1 ∣ Wt p.1)) (h : hgo p r) : goes p r = true := by
  obtain ⟨p0, p1⟩ := p
  obtain ⟨r0, r1⟩ := r
  have key : ∀ k, k < 3 → ∀ w, 1 ≤ w → w < 15 → min w (pe p0 k) ≤ pe p1 k → min w (pe r0 k) ≤ pe r1 k := by
    intro k hk w hw1 hw2 hg
    have := h.1 k hk w hw1 hw2 (by unfold good; rw [decide_eq_true_eq]; exact hg)
    unfold good at this
    rw [decide_eq_true_eq] at this
    exact this
  rcases hd with hd | ⟨hd1, hd2⟩
  · have hd' : p0 = none := hd
    subst hd'
    cases r0 with
    | none =>
      refine goes_none.mpr (.inr ⟨rfl, fun k hk => ?_, ?_⟩)
      · have a := pe_lq h2 k hk
        have b := pe_lq h4 k hk
        have pn : pe none k = 99 := pe_none k
        show pe p1 k ≤ pe r1 k
        have a' : pe p1 k < 14 ∨ pe p1 k = 99 := a.imp id (·.1)
        have b' : pe r1 k < 14 ∨ pe r1 k = 99 := b.imp id (·.1)
        by_cases z : pe p1 k = 0
        · omega
        · rcases a' with a' | a'
          · have := key k hk (pe p1 k) (by omega) (by omega) (by omega)
            omega
          · have := key k hk 14 (by omega) (by omega) (by omega)
            omega
      · show p1 ≠ none ∨ r1 = none
        cases p1 with
        | some x => exact .inl (by intro z; cases z)
        | none =>
          right
          have := key 0 (by decide) 14 (by omega) (by omega) (by rw [pe_none]; omega)
          rcases pe_lq h4 0 (by decide) with b | ⟨_, b⟩
          · have pn : pe none 0 = 99 := pe_none 0
            have b' : pe r1 0 < 14 := b
            omega
          · exact b
    | some y =>
      refine goes_some.mpr fun k hk => ?_
      show min (pe p1 k + (pe (some y) k - pe none k)) (pe (some y) k) ≤ pe r1 k
      have a : pe (some y) k < 14 := (pe_lq h3 k hk).elim id (fun z => nomatch z.2)
      have pn : pe none k = 99 := pe_none k
      by_cases z : min (pe p1 k) (pe (some y) k) = 0
      · omega
      · have := key k hk (min (pe p1 k) (pe (some y) k)) (by omega) (by omega) (by omega)
        omega
  · cases r0 with
    | none => exact absurd rfl hd1
    | some y =>
      cases p0 with
      | none =>
        refine goes_some.mpr fun k hk => ?_
        show min (pe p1 k + (pe (some y) k - pe none k)) (pe (some y) k) ≤ pe r1 k
        have a : pe (some y) k < 14 := (pe_lq h3 k hk).elim id (fun z => nomatch z.2)
        have pn : pe none k = 99 := pe_none k
        by_cases z : min (pe p1 k) (pe (some y) k) = 0
        · omega
        · have := key k hk (min (pe p1 k) (pe (some y) k)) (by omega) (by omega) (by omega)
          omega
      | some x =>
        obtain ⟨ya, yb, yc⟩ := y
        obtain ⟨xa, xb, xc⟩ := x
        obtain ⟨d1, d2, d3⟩ := P_dvd.mp (show P ya yb yc ∣ P xa xb xc from hd2)
        refine goes_some.mpr fun k hk => ?_
        show min (pe p1 k + (pe (some (ya, yb, yc)) k - pe (some (xa, xb, xc)) k)) (pe (some (ya, yb, yc)) k) ≤ pe r1 k
        have le : pe (some (ya, yb, yc)) k ≤ pe (some (xa, xb, xc)) k := by
          match k, hk with
          | 0, _ => exact d1
          | 1, _ => exact d2
          | 2, _ => exact d3
        have a : pe (some (ya, yb, yc)) k < 14 := (pe_lq h3 k hk).elim id (fun z => nomatch z.2)
        by_cases z : min (pe p1 k) (pe (some (ya, yb, yc)) k) = 0
        · omega
        · have := key k hk (min (pe p1 k) (pe (some (ya, yb, yc)) k)) (by omega) (by omega) (by omega)
          omega
/-! ### sums of hours -/
def cap (h r : Pw) : Pw := some (min (pe h 0) (pe r 0), min (pe h 1) (pe r 1), min (pe h 2) (pe r 2))
theorem Wt_cap {h : Nat × Nat × Nat} {r : Pw} (h1 : Lo (some h)) : Wt (cap (some h) r) = Nat.gcd (Wt r) (Wt (some h)) := by
  obtain ⟨a, b, c⟩ := h
  obtain ⟨l1, l2, l3⟩ := h1
  cases r with
  | none =>
    show P (min a 99) (min b 99) (min c 99) = Nat.gcd 0 (P a b c)
    rw [Nat.gcd_zero_left, Nat.min_eq_left (by omega), Nat.min_eq_left (by omega), Nat.min_eq_left (by omega)]
  | some y =>
    obtain ⟨x, y, z⟩ := y
    show P (min a x) (min b y) (min c z) = Nat.gcd (P x y z) (P a b c)
    rw [P_gcd]
    congr 1 <;> omega
theorem pe_cap {h r : Pw} {k : Nat} (hk : k < 3) : pe (cap h r) k = min (pe h k) (pe r k) := by
  match k, hk with
  | 0, _ => rfl
  | 1, _ => rfl
  | 2, _ => rfl
theorem goes_cap {p r : Pw × Pw} {h : Pw} (h1 : Lo p.1) (h2 : Lo p.2) (h4 : Lo r.2) (g : goes p r = true) : goes p (cap h r.1, r.2) = true := by
  obtain ⟨p0, p1⟩ := p
  obtain ⟨r0, r1⟩ := r
  refine goes_some.mpr fun k hk => ?_
  show min (pe p1 k + (pe (cap h r0) k - pe p0 k)) (pe (cap h r0) k) ≤ pe r1 k
  rw [pe_cap hk]
  cases r0 with
  | none =>
    rw [pe_none]
    rcases goes_none.mp g with ⟨q1, q2⟩ | ⟨q1, q2, q3⟩
    · have q2' : r1 = none := q2
      subst q2'
      rw [pe_none]
      omega
    · have q1' : p0 = none := q1
      subst q1'
      have t : pe p1 k ≤ pe r1 k := q2 k hk
      rw [pe_none]
      omega
  | some y =>
    have t : min (pe p1 k + (pe (some y) k - pe p0 k)) (pe (some y) k) ≤ pe r1 k := goes_some.mp g k hk
    omega
theorem goes_trans {p q r : Pw × Pw} (h1 : Lo p.1) (h2 : Lo p.2) (h3 : Lo q.1) (h4 : Lo q.2) (h5 : Lo r.1) (h6 : Lo r.2) (a : goes p q = true) (b : goes q r = true) : goes p r = true := by
  obtain ⟨p0, p1⟩ := p
  obtain ⟨q0, q1⟩ := q
  obtain ⟨r0, r1⟩ := r
  have low : ∀ {z : Pw}, Lo z → ∀ k, k < 3 → pe z k ≤ 99 := by
    intro z hz k hk
    cases z with
    | none => rw [pe_none]; omega
    | some x =>
      obtain ⟨x1, x2, x3⟩ := x
      obtain ⟨l1, l2, l3⟩ := hz
      match k, hk with
      | 0, _ => show x1 ≤ 99; omega
      | 1, _ => show x2 ≤ 99; omega
      | 2, _ => show x3 ≤ 99; omega
  cases r0 with
  | none =>
    rcases goes_none.mp b with ⟨b1, b2⟩ | ⟨b1, b2, b3⟩
    · have b2' : r1 = none := b2
      subst b2'
      refine goes_none.mpr ?_
      by_cases z : p0 = none
      · exact .inr ⟨z, fun k hk => by rw [pe_none]; exact low h2 k hk, .inr rfl⟩
      · exact .inl ⟨z, rfl⟩
    · have b1' : q0 = none := b1
      subst b1'
      rcases goes_none.mp a with ⟨a1, a2⟩ | ⟨a1, a2, a3⟩
      · have a2' : q1 = none := a2
        subst a2'
        have b3' : r1 = none := b3.elim (fun z => absurd rfl z) id
        subst b3'
        exact goes_none.mpr (.inl ⟨a1, rfl⟩)
      · refine goes_none.mpr (.inr ⟨a1, fun k hk => Nat.le_trans (a2 k hk) (b2 k hk), ?_⟩)
        rcases a3 with a3 | a3
        · exact .inl a3
        · have a3' : q1 = none := a3
          subst a3'
          exact .inr (b3.elim (fun z => absurd rfl z) id)
  | some y =>
    have bb := goes_some.mp b
    refine goes_some.mpr fun k hk => ?_
    show min (pe p1 k + (pe (some y) k - pe p0 k)) (pe (some y) k) ≤ pe r1 k
    have t : min (pe q1 k + (pe (some y) k - pe q0 k)) (pe (some y) k) ≤ pe r1 k := bb k hk
    have y9 := low h5 k hk
    cases q0 with
    | none =>
      have pn : pe none k = 99 := pe_none k
      have y9' : pe (some y) k ≤ 99 := y9
      rcases goes_none.mp a with ⟨a1, a2⟩ | ⟨a1, a2, a3⟩
      · have a2' : q1 = none := a2
        subst a2'
        rw [pe_none] at t
        omega
      · have a1' : p0 = none := a1
        subst a1'
        have t2 : pe p1 k ≤ pe q1 k := a2 k hk
        omega
    | some x =>
      have t2 : min (pe p1 k + (pe (some x) k - pe p0 k)) (pe (some x) k) ≤ pe q1 k := goes_some.mp a k hk
      omega
/-! ### any numbers -/
theorem gv_first (k s : Nat) : gv 1 0 k s ↔ k ∣ s := by
  unfold gv
  rw [Nat.zero_mul, Nat.gcd_zero_left]
theorem gv_last (k s : Nat) : gv 0 1 k s := by
  unfold gv fac
  by_cases h : k = 0
  · rw [if_pos ⟨rfl, h⟩, Nat.one_mul, Nat.gcd_one_left]
    exact Nat.one_dvd _
  · rw [if_neg (by intro z; exact h z.2), Nat.gcd_zero_right, Nat.div_self (by omega), Nat.one_mul, Nat.gcd_one_left]
    exact Nat.one_dvd _
theorem gv_self (k s : Nat) : gv k s k s := by
  unfold gv fac
  by_cases h : k = 0
  · rw [if_pos ⟨h, h⟩, Nat.mul_one]
    exact Nat.gcd_dvd_left _ _
  · rw [if_neg (by intro z; exact h z.2), Nat.gcd_self, Nat.div_self (by omega), Nat.mul_one]
    exact Nat.gcd_dvd_left _ _
theorem gv_zero {k s : Nat} (h : k ≠ 0) : gv 0 0 k s ↔ k ∣ s := by
  unfold gv
  rw [Nat.zero_mul, Nat.gcd_zero_left]
theorem gv_alone {k1 s1 k s : Nat} (h : k ∣ s) : gv k1 s1 k s := Nat.dvd_trans (Nat.gcd_dvd_right _ _) h
end K63
end
section
set_option Elab.async false
set_option linter.all false
set_option maxRecDepth 100000
/-! k63: what each def promises -/
namespace K63
open PySem PySem.Spec PyProof.Rows L2 Nw
abbrev Frag := PySem.W.Frag
/-- a pair (k, s), a list or a tuple -/
def Kd (K : Frag) (H : Hp) (v : V) (k : Nat) (s : Int) : Prop := ∃ a, v = .ref a ∧ Sq K H a [.int (k : Int), .int s]
/-- no kind -/
inductive BadKd (K : Frag) (H : Hp) : V → Prop where
  | flat {v : V} {b : Bool} (h : intB v = some b) : BadKd K H v
  | len {a : Addr} {xs : List V} (h : Sq K H a xs) (hl : xs.length ≠ 2) : BadKd K H (.ref a)
  | fst {a : Addr} {x y : V} (h : Sq K H a [x, y]) (hx : intB x = some false) : BadKd K H (.ref a)
  | snd {a : Addr} {i : Int} {y : V} (h : Sq K H a [.int i, y]) (hx : intB y = some false) : BadKd K H (.ref a)
  | neg {a : Addr} {i j : Int} (h : Sq K H a [.int i, .int j]) (hi : i < 0) : BadKd K H (.ref a)
theorem Kd.same {K : Frag} {H H' : Hp} {v : V} {k : Nat} {s : Int} (e : Same H H') (h : Kd K H v k s) : Kd K H' v k s := by
  obtain ⟨a, rfl, q⟩ := h
  exact ⟨a, rfl, Same.sq e q⟩
theorem BadKd.same {K : Frag} {H H' : Hp} {v : V} (e : Same H H') (h : BadKd K H v) : BadKd K H' v := by
  cases h with
  | flat h => exact .flat h
  | len h hl => exact .len (Same.sq e h) hl
  | fst h hx => exact .fst (Same.sq e h) hx
  | snd h hx => exact .snd (Same.sq e h) hx
  | neg h hx => exact .neg (Same.sq e h) hx
abbrev CRow (K : Frag) : Value := .ref (He.ga K "BadRow")
abbrev CNum (K : Frag) : Value := .ref (He.ga K "BadNumber")
/-- BadRow(i) is let out -/
def RaisesRow (K : Frag) (i : Int) (H : Hp) (E : XK) : Prop := ∀ H' d, Same H H' → H' d = none → E (CRow K) (some d) (upd H' d (.xd [(("place" : Str), .int i)]))
def RaisesHours (K : Frag) (H : Hp) (E : XK) : Prop := ∀ H' d, Same H H' → H' d = none → E (CNum K) (some d) (upd H' d (.xd [(("word" : Str), .str "hours")]))
def sp__check_kind (K : Frag) : Sp := fun vs H Q E => ∃ (v : V) (i : Int), vs = [v, .int i] ∧ ((∃ k s, Kd K H v k s ∧ Back .non H Q) ∨ (BadKd K H v ∧ RaisesRow K i H E))
def sp__goes_into (K : Frag) : Sp := fun vs H Q _ => ∃ (n : Nat) (s : Int), vs = [.int (n : Int), .int s] ∧ Q (.bl (decide (n ∣ s.natAbs))) H
/-- numbers of the size that is met -/
def Fit (k : Nat) (s : Int) : Prop := k < 2 ^ 30 ∧ s.natAbs < 2 ^ 64
def sp_loop_gives (K : Frag) : Sp := fun vs H Q E => ∃ v1 v2 : V, vs = [v1, v2] ∧
  ((∃ k1 s1 k2 s2, Kd K H v1 k1 s1 ∧ Kd K H v2 k2 s2 ∧ Fit k1 s1 ∧ Fit k2 s2 ∧ Back (.bl (decide (gv k1 s1.natAbs k2 s2.natAbs))) H Q) ∨ (BadKd K H v1 ∧ RaisesRow K 0 H E) ∨ (∃ k1 s1, Kd K H v1 k1 s1 ∧ BadKd K H v2 ∧ RaisesRow K 1 H E))
/-- no hours -/
def BadH (v : V) : Prop := (∃ n : Int, v = .int n ∧ n < 2) ∨ intB v = some false
def sp_loop_sums (K : Frag) : Sp := fun vs H Q E => ∃ v1 v2 v3 : V, vs = [v1, v2, v3] ∧
  ((∃ k1 s1 k2 s2 h, Kd K H v1 k1 s1 ∧ Kd K H v2 k2 s2 ∧ Fit k1 s1 ∧ Fit k2 s2 ∧ v3 = .int (h : Nat) ∧ 2 ≤ h ∧ h < 2 ^ 30 ∧ Back (.bl (decide (gv k1 s1.natAbs (Nat.gcd k2 h) s2.natAbs))) H Q) ∨
    (BadKd K H v1 ∧ RaisesRow K 0 H E) ∨ (∃ k1 s1, Kd K H v1 k1 s1 ∧ BadKd K H v2 ∧ RaisesRow K 1 H E) ∨ (∃ k1 s1 k2 s2, Kd K H v1 k1 s1 ∧ Kd K H v2 k2 s2 ∧ BadH v3 ∧ RaisesHours K H E))
def sp_alone (K : Frag) : Sp := fun vs H Q E => ∃ v1 : V, vs = [v1] ∧ ((∃ k1 s1, Kd K H v1 k1 s1 ∧ Back (.bl (decide (k1 ∣ s1.natAbs))) H Q) ∨ (BadKd K H v1 ∧ RaisesRow K 0 H E))
/-! ### the law's own -/
/-- powers: None, or a list of three -/
def RPw (K : Frag) (H : Hp) (v : V) : Pw → Prop
  | none => v = .non
  | some (a, b, c) => ∃ l, v = .ref l ∧ SqL K H l [.int (a : Int), .int (b : Int), .int (c : Int)]
theorem RPw.same {K : Frag} {H H' : Hp} {v : V} {p : Pw} (e : Same H H') (h : RPw K H v p) : RPw K H' v p := by
  cases p with
  | none => exact h
  | some x =>
    obtain ⟨a, b, c⟩ := x
    obtain ⟨l, rfl, q⟩ := h
    exact ⟨l, rfl, e.seq q⟩
def B2 : Pw → Prop
  | none => True
  | some (a, b, c) => a < 13 ∧ b < 9 ∧ c < 6
def B1 : Pw → Prop
  | none => True
  | some (a, b, c) => a ≤ 9 ∧ b ≤ 5 ∧ c ≤ 3
def sp__law_powers (K : Frag) : Sp := fun vs H Q _ => ∃ (l : Addr) (m : Int), vs = [.ref l, .int m] ∧ Held l H ∧ ∀ p v H', (m ≠ 0 → p ≠ none) → B2 p → Bt l H H' → Held l H' → (∀ a, v = .ref a → H a = none) → RPw K (del l H') v p → Q v H'
def sp__law_worth (K : Frag) : Sp := fun vs H Q _ => ∃ v p, vs = [v] ∧ RPw K H v p ∧ B2 p ∧ Q (.int (Wt p : Nat)) H
def sp__law_power (K : Frag) : Sp := fun vs H Q _ => ∃ v p k, vs = [v, .int (k : Nat)] ∧ RPw K H v p ∧ k < 3 ∧ Q (.int (pe p k : Nat)) H
/-- a row (powers, powers) -/
def RRow (K : Frag) (H : Hp) (v : V) (p : Pw × Pw) : Prop := ∃ t u w, v = .ref t ∧ SqT K H t [u, w] ∧ RPw K H u p.1 ∧ RPw K H w p.2
theorem RRow.same {K : Frag} {H H' : Hp} {v : V} {p : Pw × Pw} (e : Same H H') (h : RRow K H v p) : RRow K H' v p := by
  obtain ⟨t, u, w, rfl, q1, q2, q3⟩ := h
  exact ⟨t, u, w, rfl, Same.seqT e q1, q2.same e, q3.same e⟩
def sp__law_goes (K : Frag) : Sp := fun vs H Q _ => ∃ v w p r, vs = [v, w] ∧ RRow K H v p ∧ RRow K H w r ∧ Back (.bl (goes p r)) H Q
def sp__law_goes_mod (K : Frag) : Sp := fun vs H Q _ => ∃ v w x p r h, vs = [v, w, x] ∧ RRow K H v p ∧ RRow K H w r ∧ RPw K H x (some h) ∧ Back (.bl (goes p (cap (some h) r.1, r.2))) H Q
def sp__law_good (K : Frag) : Sp := fun vs H Q _ => ∃ v p k w, vs = [v, .int (k : Nat), .int (w : Nat)] ∧ RRow K H v p ∧ k < 3 ∧ Q (.bl (good p k w)) H
def sp__law_hours_go_on (K : Frag) : Sp := fun vs H Q _ => ∃ v w p r, vs = [v, w] ∧ RRow K H v p ∧ RRow K H w r ∧ ∀ b : Bool, (b = true ↔ hgo p r) → Q (.bl b) H
/-- one kind: [row, (k, s)] -/
structure Kind where
  p : Pw × Pw
  s : Int
def Kind.ok (x : Kind) : Prop := B1 x.p.1 ∧ B2 x.p.2 ∧ x.s.natAbs = Wt x.p.2
def RK (K : Frag) (H : Hp) (v : V) (x : Kind) : Prop := ∃ l u t, v = .ref l ∧ SqL K H l [u, .ref t] ∧ RRow K H u x.p ∧ SqT K H t [.int (Wt x.p.1 : Nat), .int x.s]
theorem RK.same {K : Frag} {H H' : Hp} {v : V} {x : Kind} (e : Same H H') (h : RK K H v x) : RK K H' v x := by
  obtain ⟨l, u, t, rfl, q1, q2, q3⟩ := h
  exact ⟨l, u, t, rfl, e.seq q1, q2.same e, Same.seqT e q3⟩
def sp__law_kinds (K : Frag) : Sp := fun vs H Q _ => ∃ l, vs = [.ref l] ∧ Held l H ∧ ∀ (r : Addr) (v0 v1 v2 : V) (x0 x1 x2 : Kind) (H' : Hp), Bt l H H' → Held l H' → SqL K (del l H') r [v0, v1, v2] →
  RK K (del l H') v0 x0 → RK K (del l H') v1 x1 → RK K (del l H') v2 x2 → x0.ok → x1.ok → x2.ok → Q (.ref r) H'
def sp__law_pair (K : Frag) : Sp := fun vs H Q _ => ∃ (l : Addr) (v w : V) (x y : Kind), vs = [.ref l, v, w] ∧ Held l H ∧ RK K (del l H) v x ∧ RK K (del l H) w y ∧ x.ok ∧ y.ok ∧ ∀ H', Bt l H H' → Held l H' → Q (.bl true) H'
def sp__law_ends (K : Frag) : Sp := fun vs H Q _ => ∃ v k s, vs = [v] ∧ Kd K H v k s ∧ Fit k s ∧ Back (.bl true) H Q
def sp__law_told_row (K : Frag) : Sp := fun vs H Q _ => ∃ (f : Int) (v w : V), vs = [.int f, v, w] ∧ (f = 0 ∨ f = 1 ∨ f = 2) ∧
  ((BadKd K H v ∧ Back (.int 0) H Q) ∨ ((∃ k s, Kd K H v k s) ∧ f ≠ 2 ∧ BadKd K H w ∧ Back (.int 1) H Q) ∨ ((∃ k s, Kd K H v k s) ∧ f = 2 ∧ Back (.str "none") H Q))
def sp__law_told_hours (K : Frag) : Sp := fun vs H Q _ => ∃ v w x k1 s1 k2 s2, vs = [v, w, x] ∧ Kd K H v k1 s1 ∧ Kd K H w k2 s2 ∧ BadH x ∧ Back (.str "hours") H Q
def sp__law_refused (K : Frag) : Sp := fun vs H Q _ => ∃ l v k s, vs = [.ref l, v] ∧ Held l H ∧ Kd K (del l H) v k s ∧ ∀ H', Q (.bl true) H'
def sp_law (K : Frag) : Sp := fun vs H Q _ => ∃ (a : Addr) (ns : List Int), vs = [.ref a] ∧ SqL K H a (iv ns) ∧ ns.length ≤ 63 ∧ ∀ H', Q (.bl true) H'
section
variable {K : PySem.W.Frag} {vs : List V} {H : Hp} {Q : VK} {E : XK}
theorem len__check_kind (h : sp__check_kind K vs H Q E) : vs.length = 2 := by obtain ⟨_, _, rfl, _⟩ := h; rfl
theorem len__goes_into (h : sp__goes_into K vs H Q E) : vs.length = 2 := by obtain ⟨_, _, rfl, _⟩ := h; rfl
theorem len_loop_gives (h : sp_loop_gives K vs H Q E) : vs.length = 2 := by obtain ⟨_, _, rfl, _⟩ := h; rfl
theorem len_loop_sums (h : sp_loop_sums K vs H Q E) : vs.length = 3 := by obtain ⟨_, _, _, rfl, _⟩ := h; rfl
theorem len_alone (h : sp_alone K vs H Q E) : vs.length = 1 := by obtain ⟨_, rfl, _⟩ := h; rfl
theorem len__law_powers (h : sp__law_powers K vs H Q E) : vs.length = 2 := by obtain ⟨_, _, rfl, _⟩ := h; rfl
theorem len__law_worth (h : sp__law_worth K vs H Q E) : vs.length = 1 := by obtain ⟨_, _, rfl, _⟩ := h; rfl
theorem len__law_power (h : sp__law_power K vs H Q E) : vs.length = 2 := by obtain ⟨_, _, _, rfl, _⟩ := h; rfl
theorem len__law_goes (h : sp__law_goes K vs H Q E) : vs.length = 2 := by obtain ⟨_, _, _, _, rfl, _⟩ := h; rfl
theorem len__law_goes_mod (h : sp__law_goes_mod K vs H Q E) : vs.length = 3 := by obtain ⟨_, _, _, _, _, _, rfl, _⟩ := h; rfl
theorem len__law_good (h : sp__law_good K vs H Q E) : vs.length = 3 := by obtain ⟨_, _, _, _, rfl, _⟩ := h; rfl
theorem len__law_hours_go_on (h : sp__law_hours_go_on K vs H Q E) : vs.length = 2 := by obtain ⟨_, _, _, _, rfl, _⟩ := h; rfl
theorem len__law_kinds (h : sp__law_kinds K vs H Q E) : vs.length = 1 := by obtain ⟨_, rfl, _⟩ := h; rfl
theorem len__law_pair (h : sp__law_pair K vs H Q E) : vs.length = 3 := by obtain ⟨_, _, _, _, _, rfl, _⟩ := h; rfl
theorem len__law_ends (h : sp__law_ends K vs H Q E) : vs.length = 1 := by obtain ⟨_, _, _, rfl, _⟩ := h; rfl
theorem len__law_told_row (h : sp__law_told_row K vs H Q E) : vs.length = 3 := by obtain ⟨_, _, _, rfl, _⟩ := h; rfl
theorem len__law_told_hours (h : sp__law_told_hours K vs H Q E) : vs.length = 3 := by obtain ⟨_, _, _, _, _, _, _, rfl, _⟩ := h; rfl
theorem len__law_refused (h : sp__law_refused K vs H Q E) : vs.length = 2 := by obtain ⟨_, _, _, _, rfl, _⟩ := h; rfl
theorem len_law (h : sp_law K vs H Q E) : vs.length = 1 := by obtain ⟨_, _, rfl, _⟩ := h; rfl
end
theorem law_end {K : Frag} (H : Hp) (a : Addr) (ns : List Int) (hl : ns.length ≤ 63) (hS : SqL K H a (ns.map V.int)) : sp_law K [.ref a] H (fun v _ => v = .bl true) fun _ _ _ => False := ⟨a, ns, rfl, hS, hl, fun _ => rfl⟩
end K63
end
section
set_option Elab.async false
set_option linter.all false
set_option maxRecDepth 100000
/-! readings, printed by gen.py -/
namespace K63
open PySem PySem.Spec PyProof.Rows L2 Nw
def t__check_kind (K : PySem.W.Frag) (E : XK) : TS := (tIfS (tOr (tNot (tT (tCa (sp_is_row K) E0 (tCons (tVar 0) tNil)))) (tOr (tT (tOp rNe (tCB (rcLen K) (tCons (tVar 0) tNil)) (tC (.int 2)))) (tOr (tNot (tT (tCa (sp_is_int K) E0 (tCons (tOp (rIx K) (tVar 0) (tC (.int 0))) tNil)))) (tOr (tNot (tT (tCa (sp_is_int K) E0 (tCons (tOp (rIx K) (tVar 0) (tC (.int 1))) tNil)))) (tT (tOp nLt (tOp (rIx K) (tVar 0) (tC (.int 0))) (tC (.int 0))))))))
    (tRaiseE (He.ga K "BadRow") ps_BadRow ok_BadRow (fun cls d _ H => E cls d H) (tCons (tVar 1) tNil))
    tNext)
def t__goes_into (K : PySem.W.Frag) : TS := (tSeq (tIfS (tT (tOp rEq (tVar 0) (tC (.int 0))))
    (tRet (tOp rEq (tVar 1) (tC (.int 0))))
    tNext)
    (tRet (tOp rEq (tOp nMod (tVar 1) (tVar 0)) (tC (.int 0)))))
def t_loop_gives (K : PySem.W.Frag) (E : XK) : TS := (tSeq (tDrop (tCa (sp__check_kind K) E (tCons (tVar 0) (tCons (tC (.int 0)) tNil))))
    (tSeq (tDrop (tCa (sp__check_kind K) E (tCons (tVar 1) (tCons (tC (.int 1)) tNil))))
    (tSeq (tAsg (tC (.int 1)) (gName 2))
    (tSeq (tIfS (tOr (tT (tOp rNe (tOp (rIx K) (tVar 0) (tC (.int 0))) (tC (.int 0)))) (tT (tOp rNe (tOp (rIx K) (tVar 1) (tC (.int 0))) (tC (.int 0)))))
    (tAsg (tOp nDiv (tOp (rIx K) (tVar 1) (tC (.int 0))) (tCB rGcd (tCons (tOp (rIx K) (tVar 1) (tC (.int 0))) (tCons (tOp (rIx K) (tVar 0) (tC (.int 0))) tNil)))) (gName 2))
    tNext)
    (tRet (tCa (sp__goes_into K) E0 (tCons (tCB rGcd (tCons (tOp nMul (tOp (rIx K) (tVar 0) (tC (.int 1))) (tVar 2)) (tCons (tOp (rIx K) (tVar 1) (tC (.int 0))) tNil))) (tCons (tOp (rIx K) (tVar 1) (tC (.int 1))) tNil))))))))
def t_loop_sums (K : PySem.W.Frag) (E : XK) : TS := (tSeq (tDrop (tCa (sp__check_kind K) E (tCons (tVar 0) (tCons (tC (.int 0)) tNil))))
    (tSeq (tDrop (tCa (sp__check_kind K) E (tCons (tVar 1) (tCons (tC (.int 1)) tNil))))
    (tSeq (tDrop (tCa (sp_check_number K) E (tCons (tVar 2) (tCons (tC (.int 2)) (tCons (tC (.str "hours")) tNil)))))
    (tSeq (tAsg (tCB rGcd (tCons (tOp (rIx K) (tVar 1) (tC (.int 0))) (tCons (tVar 2) tNil))) (gName 3))
    (tSeq (tAsg (tOp nDiv (tVar 3) (tCB rGcd (tCons (tVar 3) (tCons (tOp (rIx K) (tVar 0) (tC (.int 0))) tNil)))) (gName 4))
    (tRet (tCa (sp__goes_into K) E0 (tCons (tCB rGcd (tCons (tOp nMul (tOp (rIx K) (tVar 0) (tC (.int 1))) (tVar 4)) (tCons (tVar 3) tNil))) (tCons (tOp (rIx K) (tVar 1) (tC (.int 1))) tNil)))))))))
def t_alone (K : PySem.W.Frag) (E : XK) : TS := (tSeq (tDrop (tCa (sp__check_kind K) E (tCons (tVar 0) (tCons (tC (.int 0)) tNil))))
    (tRet (tCa (sp__goes_into K) E0 (tCons (tOp (rIx K) (tVar 0) (tC (.int 0))) (tCons (tOp (rIx K) (tVar 0) (tC (.int 1))) tNil)))))
def t__law_powers (K : PySem.W.Frag) : TS := (tSeq (tAsg (tCa (sp__law_take K) E0 (tCons (tVar 0) (tCons (tC (.int 7)) tNil))) (gName 2))
    (tSeq (tIfS (tAnd (tT (tOp rEq (tVar 2) (tC (.int 0)))) (tT (tOp rEq (tVar 1) (tC (.int 0)))))
    (tRet (tC .non))
    tNext)
    (tSeq (tIfS (tT (tOp rEq (tVar 2) (tC (.int 1))))
    (tRet (tLst (tCons (tCa (sp__law_take K) E0 (tCons (tVar 0) (tCons (tC (.int 13)) tNil))) (tCons (tCa (sp__law_take K) E0 (tCons (tVar 0) (tCons (tC (.int 9)) tNil))) (tCons (tCa (sp__law_take K) E0 (tCons (tVar 0) (tCons (tC (.int 6)) tNil))) tNil)))))
    tNext)
    (tSeq (tIfS (tT (tOp rEq (tVar 2) (tC (.int 2))))
    (tRet (tLst (tCons (tC (.int 0)) (tCons (tC (.int 0)) (tCons (tC (.int 0)) tNil)))))
    tNext)
    (tRet (tLst (tCons (tCa (sp__law_take K) E0 (tCons (tVar 0) (tCons (tC (.int 4)) tNil))) (tCons (tCa (sp__law_take K) E0 (tCons (tVar 0) (tCons (tC (.int 3)) tNil))) (tCons (tCa (sp__law_take K) E0 (tCons (tVar 0) (tCons (tC (.int 2)) tNil))) tNil)))))))))
def t__law_worth (K : PySem.W.Frag) : TS := (tSeq (tIfS (tT (tOp nIsN (tVar 0) (tC .non)))
    (tRet (tC (.int 0)))
    tNext)
    (tSeq (tAsg (tC (.int 1)) (gName 1))
    (tSeq (tFor (iRng1 (tCons (tOp (rIx K) (tVar 0) (tC (.int 0))) tNil)) (gName 2)
    (tAsg (tOp nMul (tVar 1) (tC (.int 2))) (gName 1)))
    (tSeq (tFor (iRng1 (tCons (tOp (rIx K) (tVar 0) (tC (.int 1))) tNil)) (gName 2)
    (tAsg (tOp nMul (tVar 1) (tC (.int 3))) (gName 1)))
    (tSeq (tFor (iRng1 (tCons (tOp (rIx K) (tVar 0) (tC (.int 2))) tNil)) (gName 2)
    (tAsg (tOp nMul (tVar 1) (tC (.int 5))) (gName 1)))
    (tRet (tVar 1)))))))
def t__law_power (K : PySem.W.Frag) : TS := (tSeq (tIfS (tT (tOp nIsN (tVar 0) (tC .non)))
    (tRet (tC (.int 99)))
    tNext)
    (tRet (tOp (rIx K) (tVar 0) (tVar 1))))
def t__law_goes (K : PySem.W.Frag) : TS := (tSeq (tIfS (tT (tOp nIsN (tOp (rIx K) (tVar 1) (tC (.int 0))) (tC .non)))
    (tSeq (tIfS (tT (tOp nNotN (tOp (rIx K) (tVar 0) (tC (.int 0))) (tC .non)))
    (tRet (tOp nIsN (tOp (rIx K) (tVar 1) (tC (.int 1))) (tC .non)))
    tNext)
    (tRet (tAndV (tCB (rAll K) (tCons (tLc (iRng1 (tCons (tC (.int 3)) tNil)) (gName 2) tYes (tOp nLe (tCa (sp__law_power K) E0 (tCons (tOp (rIx K) (tVar 0) (tC (.int 1))) (tCons (tVar 2) tNil))) (tCa (sp__law_power K) E0 (tCons (tOp (rIx K) (tVar 1) (tC (.int 1))) (tCons (tVar 2) tNil)))) [2]) tNil)) (tOrV (tOp nNotN (tOp (rIx K) (tVar 0) (tC (.int 1))) (tC .non)) (tOp nIsN (tOp (rIx K) (tVar 1) (tC (.int 1))) (tC .non))))))
    tNext)
    (tSeq (tFor (iRng1 (tCons (tC (.int 3)) tNil)) (gName 2)
    (tSeq (tAsg (tCa (sp__law_power K) E0 (tCons (tOp (rIx K) (tVar 1) (tC (.int 0))) (tCons (tVar 2) tNil))) (gName 3))
    (tSeq (tAsg (tOp nAdd (tCa (sp__law_power K) E0 (tCons (tOp (rIx K) (tVar 0) (tC (.int 1))) (tCons (tVar 2) tNil))) (tCB rcMax (tCons (tC (.int 0)) (tCons (tOp nSub (tVar 3) (tCa (sp__law_power K) E0 (tCons (tOp (rIx K) (tVar 0) (tC (.int 0))) (tCons (tVar 2) tNil)))) tNil)))) (gName 4))
    (tIfS (tT (tOp nGt (tCB rcMin (tCons (tVar 4) (tCons (tVar 3) tNil))) (tCa (sp__law_power K) E0 (tCons (tOp (rIx K) (tVar 1) (tC (.int 1))) (tCons (tVar 2) tNil)))))
    (tRet (tC (.bl false)))
    tNext))))
    (tRet (tC (.bl true)))))
def t__law_goes_mod (K : PySem.W.Frag) : TS := (tSeq (tAsg (tLc (iRng1 (tCons (tC (.int 3)) tNil)) (gName 4) tYes (tCB rcMin (tCons (tOp (rIx K) (tVar 2) (tVar 4)) (tCons (tCa (sp__law_power K) E0 (tCons (tOp (rIx K) (tVar 1) (tC (.int 0))) (tCons (tVar 4) tNil))) tNil))) [4]) (gName 3))
    (tRet (tCa (sp__law_goes K) E0 (tCons (tVar 0) (tCons (tTup (tCons (tVar 3) (tCons (tOp (rIx K) (tVar 1) (tC (.int 1))) tNil))) tNil)))))
def t__law_good (K : PySem.W.Frag) : TS := (tRet (tOp nLe (tCB rcMin (tCons (tVar 2) (tCons (tCa (sp__law_power K) E0 (tCons (tOp (rIx K) (tVar 0) (tC (.int 0))) (tCons (tVar 1) tNil))) tNil))) (tCa (sp__law_power K) E0 (tCons (tOp (rIx K) (tVar 0) (tC (.int 1))) (tCons (tVar 1) tNil)))))
def t__law_hours_go_on (K : PySem.W.Frag) : TS := (tSeq (tFor (iRng1 (tCons (tC (.int 3)) tNil)) (gName 2)
    (tFor (iRng2 (tCons (tC (.int 1)) (tCons (tC (.int 15)) tNil))) (gName 3)
    (tIfS (tAnd (tT (tCa (sp__law_good K) E0 (tCons (tVar 0) (tCons (tVar 2) (tCons (tVar 3) tNil))))) (tNot (tT (tCa (sp__law_good K) E0 (tCons (tVar 1) (tCons (tVar 2) (tCons (tVar 3) tNil)))))))
    (tRet (tC (.bl false)))
    tNext)))
    (tSeq (tIfS (tAnd (tT (tOp nIsN (tOp (rIx K) (tVar 1) (tC (.int 0))) (tC .non))) (tT (tOp nNotN (tOp (rIx K) (tVar 1) (tC (.int 1))) (tC .non))))
    (tRet (tOp nIsN (tOp (rIx K) (tVar 0) (tC (.int 0))) (tC .non)))
    tNext)
    (tRet (tC (.bl true)))))
def t__law_kinds (K : PySem.W.Frag) : TS := (tSeq (tAsg (tLst tNil) (gName 1))
    (tSeq (tFor (iRng1 (tCons (tC (.int 3)) tNil)) (gName 2)
    (tSeq (tAsg (tCa (sp__law_powers K) E0 (tCons (tVar 0) (tCons (tC (.int 0)) tNil))) (gName 3))
    (tSeq (tIfS (tT (tOp nNotN (tVar 3) (tC .non)))
    (tAsg (tLst (tCons (tCB rcMin (tCons (tOp (rIx K) (tVar 3) (tC (.int 0))) (tCons (tC (.int 9)) tNil))) (tCons (tCB rcMin (tCons (tOp (rIx K) (tVar 3) (tC (.int 1))) (tCons (tC (.int 5)) tNil))) (tCons (tCB rcMin (tCons (tOp (rIx K) (tVar 3) (tC (.int 2))) (tCons (tC (.int 3)) tNil))) tNil)))) (gName 3))
    tNext)
    (tSeq (tAsg (tTup (tCons (tVar 3) (tCons (tCa (sp__law_powers K) E0 (tCons (tVar 0) (tCons (tC (.int 0)) tNil))) tNil))) (gName 4))
    (tSeq (tAsg (tOp nSub (tC (.int 1)) (tOp nMul (tC (.int 2)) (tCa (sp__law_take K) E0 (tCons (tVar 0) (tCons (tC (.int 2)) tNil))))) (gName 5))
    (tDrop (tBM K "list" rAppend (tVar 1) (tCons (tLst (tCons (tVar 4) (tCons (tTup (tCons (tCa (sp__law_worth K) E0 (tCons (tOp (rIx K) (tVar 4) (tC (.int 0))) tNil)) (tCons (tOp nMul (tVar 5) (tCa (sp__law_worth K) E0 (tCons (tOp (rIx K) (tVar 4) (tC (.int 1))) tNil))) tNil))) tNil))) tNil))))))))
    (tSeq (tIfS (tT (tOp rEq (tCa (sp__law_take K) E0 (tCons (tVar 0) (tCons (tC (.int 3)) tNil))) (tC (.int 2))))
    (tAsg (tOp (rIx K) (tVar 1) (tC (.int 0))) (gSub (tVar 1) (tC (.int 1)) rSetL))
    tNext)
    (tRet (tVar 1)))))
def t__law_pair (K : PySem.W.Frag) : TS := (tSeq (tAsg (tCa (sp_loop_gives K) E0 (tCons (tCB (rcList K) (tCons (tOp (rIx K) (tVar 1) (tC (.int 1))) tNil)) (tCons (tOp (rIx K) (tVar 2) (tC (.int 1))) tNil))) (gName 3))
    (tSeq (tAsg (tCa (sp__law_goes K) E0 (tCons (tOp (rIx K) (tVar 1) (tC (.int 0))) (tCons (tOp (rIx K) (tVar 2) (tC (.int 0))) tNil))) (gName 4))
    (tSeq (tIfS (tOr (tT (tOp rNe (tVar 3) (tVar 4))) (tNot (tT (tCB (rIsi K) (tCons (tVar 3) (tCons (tC (.ty "bool")) tNil))))))
    (tRet (tC (.bl false)))
    tNext)
    (tSeq (tAsg (tCa (sp__law_powers K) E0 (tCons (tVar 0) (tCons (tC (.int 1)) tNil))) (gName 5))
    (tSeq (tAsg (tLst (tCons (tCB rcMin (tCons (tOp (rIx K) (tVar 5) (tC (.int 0))) (tCons (tC (.int 9)) tNil))) (tCons (tCB rcMin (tCons (tOp (rIx K) (tVar 5) (tC (.int 1))) (tCons (tC (.int 5)) tNil))) (tCons (tCB rcMin (tCons (tOp (rIx K) (tVar 5) (tC (.int 2))) (tCons (tC (.int 3)) tNil))) tNil)))) (gName 6))
    (tSeq (tIfS (tT (tOp (rEqD K) (tVar 6) (tLst (tCons (tC (.int 0)) (tCons (tC (.int 0)) (tCons (tC (.int 0)) tNil))))))
    (tAsg (tLst (tCons (tC (.int 1)) (tCons (tC (.int 0)) (tCons (tC (.int 1)) tNil)))) (gName 6))
    tNext)
    (tSeq (tAsg (tCa (sp_loop_sums K) E0 (tCons (tOp (rIx K) (tVar 1) (tC (.int 1))) (tCons (tCB (rcList K) (tCons (tOp (rIx K) (tVar 2) (tC (.int 1))) tNil)) (tCons (tCa (sp__law_worth K) E0 (tCons (tVar 6) tNil)) tNil)))) (gName 7))
    (tSeq (tIfS (tOr (tT (tOp rNe (tVar 7) (tCa (sp__law_goes_mod K) E0 (tCons (tOp (rIx K) (tVar 1) (tC (.int 0))) (tCons (tOp (rIx K) (tVar 2) (tC (.int 0))) (tCons (tVar 6) tNil)))))) (tOr (tNot (tT (tCB (rIsi K) (tCons (tVar 7) (tCons (tC (.ty "bool")) tNil))))) (tAnd (tT (tVar 3)) (tNot (tT (tVar 7))))))
    (tRet (tC (.bl false)))
    tNext)
    (tSeq (tIfS (tAnd (tT (tVar 3)) (tNot (tT (tCa (sp__law_hours_go_on K) E0 (tCons (tOp (rIx K) (tVar 1) (tC (.int 0))) (tCons (tOp (rIx K) (tVar 2) (tC (.int 0))) tNil))))))
    (tRet (tC (.bl false)))
    tNext)
    (tSeq (tAsg (tAndV (tOp nGt (tOp (rIx K) (tOp (rIx K) (tVar 2) (tC (.int 1))) (tC (.int 0))) (tC (.int 0))) (tOp rEq (tOp nMod (tCB rcInt (tCons (tOp (rIx K) (tOp (rIx K) (tVar 1) (tC (.int 1))) (tC (.int 0))) tNil)) (tOp (rIx K) (tOp (rIx K) (tVar 2) (tC (.int 1))) (tC (.int 0)))) (tC (.int 0)))) (gName 8))
    (tSeq (tIfS (tAnd (tOr (tT (tOp rEq (tOp (rIx K) (tOp (rIx K) (tVar 1) (tC (.int 1))) (tC (.int 0))) (tC (.int 0)))) (tT (tVar 8))) (tT (tCa (sp__law_hours_go_on K) E0 (tCons (tOp (rIx K) (tVar 1) (tC (.int 0))) (tCons (tOp (rIx K) (tVar 2) (tC (.int 0))) tNil)))))
    (tRet (tVar 3))
    tNext)
    (tRet (tC (.bl true))))))))))))))
def t__law_ends (K : PySem.W.Frag) : TS := (tSeq (tIfS (tOr (tT (tOp rNe (tCa (sp_alone K) E0 (tCons (tCB (rcList K) (tCons (tVar 0) tNil)) tNil)) (tCa (sp_loop_gives K) E0 (tCons (tTup (tCons (tC (.int 1)) (tCons (tC (.int 0)) tNil))) (tCons (tVar 0) tNil))))) (tOr (tNot (tT (tCa (sp_loop_gives K) E0 (tCons (tTup (tCons (tC (.int 0)) (tCons (tC (.int 1)) tNil))) (tCons (tVar 0) tNil))))) (tNot (tT (tCa (sp_loop_gives K) E0 (tCons (tVar 0) (tCons (tVar 0) tNil)))))))
    (tRet (tC (.bl false)))
    tNext)
    (tRet (tOrV (tOp rEq (tCa (sp_loop_gives K) E0 (tCons (tTup (tCons (tC (.int 0)) (tCons (tC (.int 0)) tNil))) (tCons (tVar 0) tNil))) (tCa (sp_alone K) E0 (tCons (tVar 0) tNil))) (tOp rEq (tOp (rIx K) (tVar 0) (tC (.int 0))) (tC (.int 0))))))
def t__law_told_row (K : PySem.W.Frag) : TS := (tSeq (tAsg (tC (.str "none")) (gName 3))
    (tSeq (fun D σ H => (fun W => (tIfS (tT (tOp rEq (tVar 0) (tC (.int 0))))
    (tDrop (tCw (sp_loop_gives K) W (tCons (tVar 1) (tCons (tVar 2) tNil))))
    (tIfS (tT (tOp rEq (tVar 0) (tC (.int 1))))
    (tDrop (tCw (sp_loop_sums K) W (tCons (tVar 1) (tCons (tVar 2) (tCons (tC (.int 0)) tNil)))))
    (tDrop (tCw (sp_alone K) W (tCons (tVar 1) tNil)))))) (wAs K (.ref (He.ga K "BadRow")) 4 (fun a cls d => (tAsg (tByE (He.ga K "BadRow") "place" a cls d (tVar 4)) (gName 3))) (fun _ _ _ _ => False) D) D σ H)
    (tRet (tVar 3))))
def t__law_told_hours (K : PySem.W.Frag) : TS := (tSeq (tAsg (tC (.str "none")) (gName 3))
    (tSeq (fun D σ H => (fun W => (tDrop (tCw (sp_loop_sums K) W (tCons (tVar 0) (tCons (tVar 1) (tCons (tVar 2) tNil)))))) (wAs K (.ref (He.ga K "BadNumber")) 4 (fun a cls d => (tAsg (tByE (He.ga K "BadNumber") "word" a cls d (tVar 4)) (gName 3))) (fun _ _ _ _ => False) D) D σ H)
    (tRet (tVar 3))))
def t__law_refused (K : PySem.W.Frag) : TS := (tSeq (tAsg (tLst (tCons (tLst (tCons (tUn nNeg (tC (.int 1))) (tCons (tC (.int 0)) tNil))) (tCons (tLst (tCons (tC (.int 0)) tNil)) (tCons (tTup (tCons (tC (.int 1)) (tCons (tC (.int 2)) (tCons (tC (.int 3)) tNil)))) (tCons (tC (.int 5)) (tCons (tC .non) (tCons (tLst (tCons (tC (.bl true)) (tCons (tC (.int 0)) tNil))) (tCons (tLst (tCons (tC (.int 0)) (tCons (tC .non) tNil))) (tCons (tLst tNil) (tCons (tTup (tCons (tC (.int 3)) (tCons (tC (.bl false)) tNil))) (tCons (tC (.str "ab")) (tCons (tLst (tCons (tUn nNeg (tC (.int 7))) (tCons (tC (.int 3)) tNil))) tNil)))))))))))) (gName 2))
    (tSeq (tAsg (tOp (rIx K) (tVar 2) (tCa (sp__law_take K) E0 (tCons (tVar 0) (tCons (tC (.int 11)) tNil)))) (gName 3))
    (tSeq (tAsg (tOp (rIx K) (tVar 2) (tCa (sp__law_take K) E0 (tCons (tVar 0) (tCons (tC (.int 11)) tNil)))) (gName 4))
    (tSeq (tFor (iRng1 (tCons (tC (.int 2)) tNil)) (gName 5)
    (tSeq (tIfS (tOr (tT (tOp rNe (tCa (sp__law_told_row K) E0 (tCons (tVar 5) (tCons (tVar 3) (tCons (tVar 1) tNil)))) (tC (.int 0)))) (tT (tOp rNe (tCa (sp__law_told_row K) E0 (tCons (tVar 5) (tCons (tVar 1) (tCons (tVar 3) tNil)))) (tC (.int 1)))))
    (tRet (tC (.bl false)))
    tNext)
    (tIfS (tT (tOp rNe (tCa (sp__law_told_row K) E0 (tCons (tVar 5) (tCons (tVar 3) (tCons (tVar 4) tNil)))) (tC (.int 0))))
    (tRet (tC (.bl false)))
    tNext)))
    (tSeq (tIfS (tOr (tT (tOp rNe (tCa (sp__law_told_row K) E0 (tCons (tC (.int 2)) (tCons (tVar 4) (tCons (tVar 1) tNil)))) (tC (.int 0)))) (tT (tOp rNe (tCa (sp__law_told_row K) E0 (tCons (tC (.int 2)) (tCons (tVar 1) (tCons (tVar 4) tNil)))) (tC (.str "none")))))
    (tRet (tC (.bl false)))
    tNext)
    (tSeq (tAsg (tOp (rIx K) (tLst (tCons (tC (.int 1)) (tCons (tC (.int 0)) (tCons (tUn nNeg (tC (.int 2))) (tCons (tC (.bl true)) (tCons (tC .non) tNil)))))) (tCa (sp__law_take K) E0 (tCons (tVar 0) (tCons (tC (.int 5)) tNil)))) (gName 6))
    (tRet (tOp rEq (tCa (sp__law_told_hours K) E0 (tCons (tVar 1) (tCons (tCB (rcList K) (tCons (tVar 1) tNil)) (tCons (tVar 6) tNil)))) (tC (.str "hours"))))))))))
def t_law (K : PySem.W.Frag) : TS := (tSeq (tAsg (tCa (sp__law_drawn K) E0 (tCons (tVar 0) tNil)) (gName 1))
    (tSeq (tAsg (tCa (sp__law_kinds K) E0 (tCons (tVar 1) tNil)) (gName 2))
    (tSeq (tFor (iList K (tVar 2)) (gName 3)
    (tSeq (tFor (iList K (tVar 2)) (gName 4)
    (tIfS (tNot (tT (tCa (sp__law_pair K) E0 (tCons (tVar 1) (tCons (tVar 3) (tCons (tVar 4) tNil))))))
    (tRet (tC (.bl false)))
    tNext))
    (tIfS (tNot (tT (tCa (sp__law_ends K) E0 (tCons (tOp (rIx K) (tVar 3) (tC (.int 1))) tNil))))
    (tRet (tC (.bl false)))
    tNext)))
    (tSeq (tAsg (tLc (iList K (tVar 2)) (gName 6) tYes (tOp (rIx K) (tVar 6) (tC (.int 1))) [6]) (gName 5))
    (tSeq (tIfS (tAnd (tT (tCa (sp_loop_gives K) E0 (tCons (tOp (rIx K) (tVar 5) (tC (.int 0))) (tCons (tOp (rIx K) (tVar 5) (tC (.int 1))) tNil)))) (tAnd (tT (tCa (sp_loop_gives K) E0 (tCons (tOp (rIx K) (tVar 5) (tC (.int 1))) (tCons (tOp (rIx K) (tVar 5) (tC (.int 2))) tNil)))) (tNot (tT (tCa (sp_loop_gives K) E0 (tCons (tOp (rIx K) (tVar 5) (tC (.int 0))) (tCons (tOp (rIx K) (tVar 5) (tC (.int 2))) tNil)))))))
    (tRet (tC (.bl false)))
    tNext)
    (tSeq (tIfS (tAnd (tT (tCa (sp_alone K) E0 (tCons (tOp (rIx K) (tVar 5) (tC (.int 2))) tNil))) (tNot (tAnd (tT (tCa (sp_loop_gives K) E0 (tCons (tOp (rIx K) (tVar 5) (tC (.int 0))) (tCons (tOp (rIx K) (tVar 5) (tC (.int 2))) tNil)))) (tT (tCa (sp_loop_gives K) E0 (tCons (tOp (rIx K) (tVar 5) (tC (.int 1))) (tCons (tOp (rIx K) (tVar 5) (tC (.int 2))) tNil)))))))
    (tRet (tC (.bl false)))
    tNext)
    (tSeq (tIfS (tOr (tT (tCa (sp_loop_gives K) E0 (tCons (tTup (tCons (tC (.int 2)) (tCons (tC (.int 1)) tNil))) (tCons (tTup (tCons (tC (.int 4)) (tCons (tC (.int 1)) tNil))) tNil)))) (tNot (tT (tCa (sp_loop_gives K) E0 (tCons (tTup (tCons (tC (.int 4)) (tCons (tC (.int 1)) tNil))) (tCons (tTup (tCons (tC (.int 2)) (tCons (tC (.int 1)) tNil))) tNil))))))
    (tRet (tC (.bl false)))
    tNext)
    (tRet (tCa (sp__law_refused K) E0 (tCons (tVar 1) (tCons (tOp (rIx K) (tVar 5) (tC (.int 0))) tNil)))))))))))
end K63
end
section
set_option Elab.async false
set_option linter.all false
set_option maxRecDepth 100000
set_option maxHeartbeats 2000000
/-! k63: the readings, the program's part -/
namespace K63
open PySem PySem.Spec PyProof.Rows L2 Nw
local macro_rules | `(tactic| walk_at "rd") => `(tactic| repeat' (first
  | with_reducible refine r_seq ?_ | with_reducible refine r_asg ?_ | with_reducible refine r_ret ?_ | with_reducible refine r_retN ?_ | with_reducible refine r_drop ?_ | with_reducible refine r_next ?_ | with_reducible refine r_brk ?_ | with_reducible refine r_cont ?_
  | ((with_reducible refine' r_var ?ev ?_); (case ev => rfl)) | with_reducible refine r_c ?_ | with_reducible refine r_op ?_ | with_reducible refine r_un ?_ | with_reducible refine r_ifS ?_ | with_reducible refine r_if ?_
  | with_reducible refine r_T ?_ | with_reducible refine r_isB ?_ | with_reducible refine r_and ?_ | with_reducible refine r_or ?_ | with_reducible refine r_not ?_ | with_reducible refine r_andV ?_ | with_reducible refine r_orV ?_ | with_reducible refine r_notV ?_
  | with_reducible refine r_nil ?_ | with_reducible refine r_cons ?_ | with_reducible refine r_lst ?_ | with_reducible refine r_tup ?_ | with_reducible refine r_ca ?_ | with_reducible refine r_cw ?_ | with_reducible refine r_cb ?_
  | with_reducible refine r_add ?_ | with_reducible refine r_sub ?_ | with_reducible refine r_neg ?_ | with_reducible refine r_lt ?_ | with_reducible refine r_le ?_ | with_reducible refine r_gt ?_ | with_reducible refine r_ge ?_ | with_reducible refine r_eqI ?_ | with_reducible refine r_neI ?_ | with_reducible refine r_eqB ?_ | with_reducible refine r_neB ?_
  | with_reducible refine r_isN ?_ | with_reducible refine r_notN ?_ | with_reducible refine r_min ?_ | with_reducible refine r_max ?_ | with_reducible refine r_int ?_ | with_reducible refine r_gcd ?_ | with_reducible refine r_for ?_ | with_reducible refine r_rg1 ?_ | with_reducible refine r_rg2 ?_ | with_reducible refine r_wlI ?_ | with_reducible refine r_wtI ?_ | with_reducible refine r_gN ?_ | with_reducible refine r_asgS ?_ | with_reducible refine r_bm0 ?_ | with_reducible refine r_bm ?_
  | with_reducible refine br_t ?_ | with_reducible refine br_f ?_ | with_reducible refine br_nt ?_ | with_reducible refine br_nf ?_))
local macro_rules | `(tactic| walk_at "rdt") => `(tactic| repeat' (first
  | with_reducible refine r_seq ?_ | with_reducible refine r_retN ?_ | with_reducible refine r_drop ?_ | with_reducible refine r_next ?_ | with_reducible refine r_brk ?_ | with_reducible refine r_cont ?_
  | ((with_reducible refine' r_var ?ev ?_); (case ev => rfl)) | with_reducible refine r_c ?_ | with_reducible refine r_op ?_ | with_reducible refine r_un ?_ | with_reducible refine r_ifS ?_ | with_reducible refine r_if ?_
  | with_reducible refine r_T ?_ | with_reducible refine r_isB ?_ | with_reducible refine r_and ?_ | with_reducible refine r_or ?_ | with_reducible refine r_not ?_ | with_reducible refine r_andV ?_ | with_reducible refine r_orV ?_ | with_reducible refine r_notV ?_
  | with_reducible refine r_nil ?_ | with_reducible refine r_cons ?_ | with_reducible refine r_lst ?_ | with_reducible refine r_tup ?_ | with_reducible refine r_ca ?_ | with_reducible refine r_cw ?_ | with_reducible refine r_cb ?_
  | with_reducible refine r_add ?_ | with_reducible refine r_sub ?_ | with_reducible refine r_neg ?_ | with_reducible refine r_lt ?_ | with_reducible refine r_le ?_ | with_reducible refine r_gt ?_ | with_reducible refine r_ge ?_ | with_reducible refine r_eqI ?_ | with_reducible refine r_neI ?_ | with_reducible refine r_eqB ?_ | with_reducible refine r_neB ?_
  | with_reducible refine r_isN ?_ | with_reducible refine r_notN ?_ | with_reducible refine r_min ?_ | with_reducible refine r_max ?_ | with_reducible refine r_int ?_ | with_reducible refine r_gcd ?_ | with_reducible refine r_for ?_ | with_reducible refine r_rg1 ?_ | with_reducible refine r_rg2 ?_ | with_reducible refine r_wlI ?_ | with_reducible refine r_wtI ?_ | with_reducible refine r_gN ?_ | with_reducible refine r_asgS ?_ | with_reducible refine r_bm0 ?_ | with_reducible refine r_bm ?_
  | with_reducible refine br_t ?_ | with_reducible refine br_f ?_ | with_reducible refine br_nt ?_ | with_reducible refine br_nf ?_))
theorem RaisesRow.same {K : Frag} {i : Int} {H H' : Hp} {E : XK} (h : RaisesRow K i H E) (s : Same H H') : RaisesRow K i H' E := fun H2 d s2 hd => h H2 d (s.trans s2) hd
theorem RaisesHours.same {K : Frag} {H H' : Hp} {E : XK} (h : RaisesHours K H E) (s : Same H H') : RaisesHours K H' E := fun H2 d s2 hd => h H2 d (s.trans s2) hd
theorem rd__check_kind {K : Frag} (vs : List V) (H : Hp) (Q : VK) (E : XK) (h : sp__check_kind K vs H Q E) : t__check_kind K E { nx := fun _ H' => Q .non H', rt := Q } (start ["pair", "place"] vs) H := by
  obtain ⟨v, i, rfl, h⟩ := h
  unfold t__check_kind
  walk_at "rd"
  rcases h with ⟨k, s, ⟨a, rfl, hs⟩, q⟩ | ⟨hb, hE⟩
  · refine row_sq hs fun H1 s1 => ?_
    walk_at "rd"
    have hs1 := Same.sq s1 hs
    refine r_len hs1 ?_
    walk_at "rd"
    refine br_nd (fun c => absurd rfl c) fun _ => ?_
    walk_at "rd"
    refine r_ix hs1 (v := .int (k : Int)) rfl ?_
    walk_at "rd"
    refine int_of (b := true) rfl ?_
    walk_at "rd"
    refine r_ix hs1 (v := .int s) rfl ?_
    walk_at "rd"
    refine int_of (b := true) rfl ?_
    walk_at "rd"
    refine r_ix hs1 (v := .int (k : Int)) rfl ?_
    walk_at "rd"
    refine br_d (fun c => absurd c (by omega)) fun _ => ?_
    exact q H1 s1
  · have fin : ∀ H1, Same H H1 → tRaiseE (He.ga K "BadRow") ps_BadRow ok_BadRow (fun cls d _ H => E cls d H) (tCons (tVar 1) tNil) { nx := fun _ H' => Q .non H', rt := Q } (start ["pair", "place"] [v, .int i]) H1 := by
      intro H1 s1
      refine r_raise ?_
      walk_at "rd"
      exact ⟨⟨i, rfl⟩, fun d hd => hE H1 d s1 hd⟩
    cases hb with
    | flat h =>
      refine row_flat h fun H1 s1 => ?_
      walk_at "rd"
      exact fin H1 s1
    | len hs hl =>
      refine row_sq hs fun H1 s1 => ?_
      walk_at "rd"
      refine r_len (Same.sq s1 hs) ?_
      walk_at "rd"
      refine br_nd (fun _ => fin H1 s1) fun c => absurd c (by omega)
    | fst hs hx =>
      refine row_sq hs fun H1 s1 => ?_
      walk_at "rd"
      have hs1 := Same.sq s1 hs
      refine r_len hs1 ?_
      walk_at "rd"
      refine br_nd (fun c => absurd rfl c) fun _ => ?_
      walk_at "rd"
      refine r_ix hs1 rfl ?_
      walk_at "rd"
      refine int_of hx ?_
      walk_at "rd"
      exact fin H1 s1
    | snd hs hx =>
      refine row_sq hs fun H1 s1 => ?_
      walk_at "rd"
      have hs1 := Same.sq s1 hs
      refine r_len hs1 ?_
      walk_at "rd"
      refine br_nd (fun c => absurd rfl c) fun _ => ?_
      walk_at "rd"
      refine r_ix hs1 rfl ?_
      walk_at "rd"
      refine int_of (b := true) rfl ?_
      walk_at "rd"
      refine r_ix hs1 rfl ?_
      walk_at "rd"
      refine int_of hx ?_
      walk_at "rd"
      exact fin H1 s1
    | neg hs hi =>
      refine row_sq hs fun H1 s1 => ?_
      walk_at "rd"
      have hs1 := Same.sq s1 hs
      refine r_len hs1 ?_
      walk_at "rd"
      refine br_nd (fun c => absurd rfl c) fun _ => ?_
      walk_at "rd"
      refine r_ix hs1 rfl ?_
      walk_at "rd"
      refine int_of (b := true) rfl ?_
      walk_at "rd"
      refine r_ix hs1 rfl ?_
      walk_at "rd"
      refine int_of (b := true) rfl ?_
      walk_at "rd"
      refine r_ix hs1 rfl ?_
      walk_at "rd"
      exact br_d (fun _ => fin H1 s1) fun c => absurd hi c
theorem rd__goes_into {K : Frag} (vs : List V) (H : Hp) (Q : VK) (E : XK) (h : sp__goes_into K vs H Q E) : t__goes_into K { nx := fun _ H' => Q .non H', rt := Q } (start ["number", "other"] vs) H := by
  obtain ⟨n, s, rfl, q⟩ := h
  unfold t__goes_into
  walk_at "rd"
  refine br_d (fun c => ?_) fun c => ?_
  · walk_at "rd"
    have e : decide (s = 0) = decide (n ∣ s.natAbs) := by
      have hn : n = 0 := by omega
      subst hn
      rw [decide_eq_decide, Nat.zero_dvd]
      omega
    rw [e]
    exact q
  · walk_at "rd"
    refine r_mod (by omega) ?_
    walk_at "rd"
    have e : decide (s % (n : Int) = 0) = decide (n ∣ s.natAbs) := by
      rw [decide_eq_decide, ← Int.ofNat_dvd_left, Int.dvd_iff_emod_eq_zero]
    rw [e]
    exact q
theorem fac_div {k1 k2 : Nat} (h : ¬ (k1 = 0 ∧ k2 = 0)) : ((k2 : Int) / ((Nat.gcd (k2 : Int).natAbs (k1 : Int).natAbs : Nat) : Int)) = ((fac k1 k2 : Nat) : Int) := by
  unfold fac
  rw [if_neg h, Int.natAbs_natCast, Int.natAbs_natCast]
  rfl
theorem rd_loop_gives {K : Frag} (vs : List V) (H : Hp) (Q : VK) (E : XK) (h : sp_loop_gives K vs H Q E) : t_loop_gives K E { nx := fun _ H' => Q .non H', rt := Q } (start ["one", "other", "factor"] vs) H := by
  obtain ⟨v1, v2, rfl, h⟩ := h
  unfold t_loop_gives
  walk_at "rd"
  rcases h with ⟨k1, s1, k2, s2, K1, K2, F1, F2, q⟩ | ⟨hb, hE⟩ | ⟨k1, s1, K1, hb, hE⟩
  · refine ⟨_, _, rfl, .inl ⟨k1, s1, K1, fun H1 e1 => ?_⟩⟩
    walk_at "rd"
    refine ⟨_, _, rfl, .inl ⟨k2, s2, K2.same e1, fun H2 e2 => ?_⟩⟩
    have e12 := e1.trans e2
    obtain ⟨a1, rfl, S1⟩ := K1.same e12
    obtain ⟨a2, rfl, S2⟩ := K2.same e12
    walk_at "rd"
    refine r_ix S1 rfl ?_
    walk_at "rd"
    -- the end, from the factor on
    have fin : ∀ f : Nat, f = fac k1 k2 → (tRet (tCa (sp__goes_into K) E0 (tCons (tCB rGcd (tCons (tOp nMul (tOp (rIx K) (tVar 0) (tC (.int 1))) (tVar 2)) (tCons (tOp (rIx K) (tVar 1) (tC (.int 0))) tNil))) (tCons (tOp (rIx K) (tVar 1) (tC (.int 1))) tNil))))
        { nx := fun _ H' => Q .non H', rt := Q } [some (.ref a1), some (.ref a2), some (.int (f : Int))] H2 := by
      intro f hf
      walk_at "rd"
      refine r_ix S1 rfl ?_
      walk_at "rd"
      refine r_mul (.inl ⟨by have := F1.2; omega, by have := F1.2; omega⟩) ?_
      walk_at "rd"
      refine r_ix S2 rfl ?_
      walk_at "rd"
      refine r_ix S2 rfl ?_
      walk_at "rd"
      refine ⟨_, _, rfl, ?_⟩
      have e : (s1 * (f : Int)).natAbs.gcd (k2 : Int).natAbs = Nat.gcd (s1.natAbs * fac k1 k2) k2 := by
        rw [Int.natAbs_mul, Int.natAbs_natCast, Int.natAbs_natCast, hf]
      rw [e]
      exact q H2 e12
    have mid : ¬ (k1 = 0 ∧ k2 = 0) → (tAsg (tOp nDiv (tOp (rIx K) (tVar 1) (tC (.int 0))) (tCB rGcd (tCons (tOp (rIx K) (tVar 1) (tC (.int 0))) (tCons (tOp (rIx K) (tVar 0) (tC (.int 0))) tNil)))) (gName 2))
        { nx := (tRet (tCa (sp__goes_into K) E0 (tCons (tCB rGcd (tCons (tOp nMul (tOp (rIx K) (tVar 0) (tC (.int 1))) (tVar 2)) (tCons (tOp (rIx K) (tVar 1) (tC (.int 0))) tNil))) (tCons (tOp (rIx K) (tVar 1) (tC (.int 1))) tNil)))) { nx := fun _ H' => Q .non H', rt := Q }, rt := Q } [some (.ref a1), some (.ref a2), some (.int 1)] H2 := by
      intro hne
      refine r_asg ?_
      walk_at "rd"
      refine r_ix S2 rfl ?_
      walk_at "rd"
      refine r_ix S2 rfl ?_
      walk_at "rd"
      refine r_ix S1 rfl ?_
      walk_at "rd"
      have hg : 0 < Nat.gcd k2 k1 := Nat.pos_of_ne_zero fun z => hne ⟨(Nat.gcd_eq_zero_iff.mp z).2, (Nat.gcd_eq_zero_iff.mp z).1⟩
      have hg2 : Nat.gcd k2 k1 < 2 ^ 30 := by
        by_cases z : k2 = 0
        · rw [z, Nat.gcd_zero_left]; exact F1.1
        · exact Nat.lt_of_le_of_lt (Nat.le_of_dvd (by omega) (Nat.gcd_dvd_left _ _)) F2.1
      refine r_div ⟨?_, ?_⟩ ?_
      · show (0 : Int) < ((Nat.gcd (k2 : Int).natAbs (k1 : Int).natAbs : Nat) : Int)
        rw [Int.natAbs_natCast, Int.natAbs_natCast]
        omega
      · show ((Nat.gcd (k2 : Int).natAbs (k1 : Int).natAbs : Nat) : Int) < 1073741824
        rw [Int.natAbs_natCast, Int.natAbs_natCast]
        omega
      rw [fac_div hne]
      exact fin _ rfl
    refine br_nd (fun c => ?_) fun c => ?_
    · walk_at "rdt"
      exact mid (by omega)
    · walk_at "rdt"
      refine r_ix S2 rfl ?_
      walk_at "rdt"
      refine br_nd (fun c2 => ?_) fun c2 => ?_
      · exact mid (by omega)
      · refine r_next ?_
        exact fin 1 (by unfold fac; rw [if_pos (by omega)])
  · refine ⟨_, _, rfl, .inr ⟨hb, hE⟩⟩
  · refine ⟨_, _, rfl, .inl ⟨k1, s1, K1, fun H1 e1 => ?_⟩⟩
    walk_at "rd"
    exact ⟨_, _, rfl, .inr ⟨hb.same e1, hE.same e1⟩⟩
end K63
end
section
set_option Elab.async false
set_option linter.all false
set_option maxRecDepth 100000
set_option maxHeartbeats 2000000
/-! k63: the readings, the law's part -/
namespace K63
open PySem PySem.Spec PyProof.Rows L2 Nw
local macro_rules | `(tactic| walk_at "rd") => `(tactic| repeat' (first
  | with_reducible refine r_seq ?_ | with_reducible refine r_asg ?_ | with_reducible refine r_ret ?_ | with_reducible refine r_retN ?_ | with_reducible refine r_drop ?_ | with_reducible refine r_next ?_ | with_reducible refine r_brk ?_ | with_reducible refine r_cont ?_
  | ((with_reducible refine' r_var ?ev ?_); (case ev => rfl)) | with_reducible refine r_c ?_ | with_reducible refine r_op ?_ | with_reducible refine r_un ?_ | with_reducible refine r_ifS ?_ | with_reducible refine r_if ?_
  | with_reducible refine r_T ?_ | with_reducible refine r_isB ?_ | with_reducible refine r_and ?_ | with_reducible refine r_or ?_ | with_reducible refine r_not ?_ | with_reducible refine r_andV ?_ | with_reducible refine r_orV ?_ | with_reducible refine r_notV ?_
  | with_reducible refine r_nil ?_ | with_reducible refine r_cons ?_ | with_reducible refine r_lst ?_ | with_reducible refine r_tup ?_ | with_reducible refine r_ca ?_ | with_reducible refine r_cw ?_ | with_reducible refine r_cb ?_
  | with_reducible refine r_add ?_ | with_reducible refine r_sub ?_ | with_reducible refine r_neg ?_ | with_reducible refine r_lt ?_ | with_reducible refine r_le ?_ | with_reducible refine r_gt ?_ | with_reducible refine r_ge ?_ | with_reducible refine r_eqI ?_ | with_reducible refine r_neI ?_ | with_reducible refine r_eqB ?_ | with_reducible refine r_neB ?_
  | with_reducible refine r_isN ?_ | with_reducible refine r_notN ?_ | with_reducible refine r_min ?_ | with_reducible refine r_max ?_ | with_reducible refine r_int ?_ | with_reducible refine r_gcd ?_ | with_reducible refine r_for ?_ | with_reducible refine r_rg1 ?_ | with_reducible refine r_rg2 ?_ | with_reducible refine r_wlI ?_ | with_reducible refine r_wtI ?_ | with_reducible refine r_gN ?_ | with_reducible refine r_asgS ?_ | with_reducible refine r_bm0 ?_ | with_reducible refine r_bm ?_ | with_reducible refine r_lc ?_
  | with_reducible refine br_t ?_ | with_reducible refine br_f ?_ | with_reducible refine br_nt ?_ | with_reducible refine br_nf ?_))
local macro_rules | `(tactic| walk_at "rdt") => `(tactic| repeat' (first
  | with_reducible refine r_seq ?_ | with_reducible refine r_retN ?_ | with_reducible refine r_drop ?_ | with_reducible refine r_next ?_ | with_reducible refine r_brk ?_ | with_reducible refine r_cont ?_
  | ((with_reducible refine' r_var ?ev ?_); (case ev => rfl)) | with_reducible refine r_c ?_ | with_reducible refine r_op ?_ | with_reducible refine r_un ?_ | with_reducible refine r_ifS ?_ | with_reducible refine r_if ?_
  | with_reducible refine r_T ?_ | with_reducible refine r_isB ?_ | with_reducible refine r_and ?_ | with_reducible refine r_or ?_ | with_reducible refine r_not ?_ | with_reducible refine r_andV ?_ | with_reducible refine r_orV ?_ | with_reducible refine r_notV ?_
  | with_reducible refine r_nil ?_ | with_reducible refine r_cons ?_ | with_reducible refine r_lst ?_ | with_reducible refine r_tup ?_ | with_reducible refine r_ca ?_ | with_reducible refine r_cw ?_ | with_reducible refine r_cb ?_
  | with_reducible refine r_add ?_ | with_reducible refine r_sub ?_ | with_reducible refine r_neg ?_ | with_reducible refine r_lt ?_ | with_reducible refine r_le ?_ | with_reducible refine r_gt ?_ | with_reducible refine r_ge ?_ | with_reducible refine r_eqI ?_ | with_reducible refine r_neI ?_ | with_reducible refine r_eqB ?_ | with_reducible refine r_neB ?_
  | with_reducible refine r_isN ?_ | with_reducible refine r_notN ?_ | with_reducible refine r_min ?_ | with_reducible refine r_max ?_ | with_reducible refine r_int ?_ | with_reducible refine r_gcd ?_ | with_reducible refine r_for ?_ | with_reducible refine r_rg1 ?_ | with_reducible refine r_rg2 ?_ | with_reducible refine r_wlI ?_ | with_reducible refine r_wtI ?_ | with_reducible refine r_gN ?_ | with_reducible refine r_asgS ?_ | with_reducible refine r_bm0 ?_ | with_reducible refine r_bm ?_ | with_reducible refine r_lc ?_
  | with_reducible refine br_t ?_ | with_reducible refine br_f ?_ | with_reducible refine br_nt ?_ | with_reducible refine br_nf ?_))
local macro_rules | `(tactic| walk_at "rdq") => `(tactic| repeat' (first | ((with_reducible refine' r_var ?ev ?_); (case ev => rfl)) | with_reducible refine r_c ?_ | with_reducible refine r_T ?_ | with_reducible refine r_isB ?_ | with_reducible refine r_op ?_ | with_reducible refine r_eqI ?_ | with_reducible refine r_not ?_ | with_reducible refine br_t ?_ | with_reducible refine br_f ?_ | with_reducible refine br_nt ?_ | with_reducible refine br_nf ?_ | with_reducible refine r_next ?_))
local macro_rules | `(tactic| walk_at "rdv") => `(tactic| repeat' (first | ((with_reducible refine' r_var ?ev ?_); (case ev => rfl)) | with_reducible refine r_T ?_ | with_reducible refine r_isB ?_))
theorem rd_loop_sums {K : Frag} (vs : List V) (H : Hp) (Q : VK) (E : XK) (h : sp_loop_sums K vs H Q E) : t_loop_sums K E { nx := fun _ H' => Q .non H', rt := Q } (start ["one", "other", "hours", "goal", "factor"] vs) H := by
  obtain ⟨v1, v2, v3, rfl, h⟩ := h
  unfold t_loop_sums
  walk_at "rd"
  rcases h with ⟨k1, s1, k2, s2, hh, K1, K2, F1, F2, rfl, h2, h30, q⟩ | ⟨hb, hE⟩ | ⟨k1, s1, K1, hb, hE⟩ | ⟨k1, s1, k2, s2, K1, K2, hb, hE⟩
  · refine ⟨_, _, rfl, .inl ⟨k1, s1, K1, fun H1 e1 => ?_⟩⟩
    walk_at "rd"
    refine ⟨_, _, rfl, .inl ⟨k2, s2, K2.same e1, fun H2 e2 => ?_⟩⟩
    have e12 := e1.trans e2
    obtain ⟨a1, rfl, S1⟩ := K1.same e12
    obtain ⟨a2, rfl, S2⟩ := K2.same e12
    walk_at "rd"
    refine ⟨_, _, _, rfl, .inl ⟨_, rfl, by omega, ?_⟩⟩
    walk_at "rd"
    refine r_ix S2 rfl ?_
    walk_at "rd"
    refine r_ix S1 rfl ?_
    walk_at "rd"
    have eg : ((k2 : Int).natAbs.gcd (hh : Int).natAbs) = Nat.gcd k2 hh := by rw [Int.natAbs_natCast, Int.natAbs_natCast]
    rw [eg]
    have g0 : 0 < Nat.gcd k2 hh := Nat.pos_of_ne_zero fun z => by have := (Nat.gcd_eq_zero_iff.mp z).2; omega
    have g30 : Nat.gcd k2 hh < 2 ^ 30 := Nat.lt_of_le_of_lt (Nat.le_of_dvd (by omega) (Nat.gcd_dvd_right _ _)) h30
    have hne : ¬ (k1 = 0 ∧ Nat.gcd k2 hh = 0) := fun z => by omega
    have f0 : 0 < Nat.gcd (Nat.gcd k2 hh) k1 := Nat.pos_of_ne_zero fun z => by have := (Nat.gcd_eq_zero_iff.mp z).1; omega
    have f30 : Nat.gcd (Nat.gcd k2 hh) k1 < 2 ^ 30 := Nat.lt_of_le_of_lt (Nat.le_of_dvd g0 (Nat.gcd_dvd_left _ _)) g30
    refine r_div ⟨?_, ?_⟩ ?_
    · show (0 : Int) < ((Nat.gcd ((Nat.gcd k2 hh : Nat) : Int).natAbs (k1 : Int).natAbs : Nat) : Int)
      rw [Int.natAbs_natCast, Int.natAbs_natCast]
      omega
    · show ((Nat.gcd ((Nat.gcd k2 hh : Nat) : Int).natAbs (k1 : Int).natAbs : Nat) : Int) < 1073741824
      rw [Int.natAbs_natCast, Int.natAbs_natCast]
      omega
    rw [fac_div hne]
    walk_at "rd"
    refine r_ix S1 rfl ?_
    walk_at "rd"
    refine r_mul (.inl ⟨by have := F1.2; omega, by have := F1.2; omega⟩) ?_
    walk_at "rd"
    refine r_ix S2 rfl ?_
    walk_at "rd"
    refine ⟨_, _, rfl, ?_⟩
    have e : (s1 * ((fac k1 (Nat.gcd k2 hh) : Nat) : Int)).natAbs.gcd ((Nat.gcd k2 hh : Nat) : Int).natAbs = Nat.gcd (s1.natAbs * fac k1 (Nat.gcd k2 hh)) (Nat.gcd k2 hh) := by
      rw [Int.natAbs_mul, Int.natAbs_natCast, Int.natAbs_natCast]
    rw [e]
    exact q H2 e12
  · exact ⟨_, _, rfl, .inr ⟨hb, hE⟩⟩
  · refine ⟨_, _, rfl, .inl ⟨k1, s1, K1, fun H1 e1 => ?_⟩⟩
    walk_at "rd"
    exact ⟨_, _, rfl, .inr ⟨hb.same e1, hE.same e1⟩⟩
  · refine ⟨_, _, rfl, .inl ⟨k1, s1, K1, fun H1 e1 => ?_⟩⟩
    walk_at "rd"
    refine ⟨_, _, rfl, .inl ⟨k2, s2, K2.same e1, fun H2 e2 => ?_⟩⟩
    walk_at "rd"
    refine ⟨_, _, _, rfl, .inr ⟨hb, by decide, fun d hd => hE H2 d (e1.trans e2) hd⟩⟩
theorem rd_alone {K : Frag} (vs : List V) (H : Hp) (Q : VK) (E : XK) (h : sp_alone K vs H Q E) : t_alone K E { nx := fun _ H' => Q .non H', rt := Q } (start ["kind"] vs) H := by
  obtain ⟨v1, rfl, h⟩ := h
  unfold t_alone
  walk_at "rd"
  rcases h with ⟨k1, s1, K1, q⟩ | ⟨hb, hE⟩
  · refine ⟨_, _, rfl, .inl ⟨k1, s1, K1, fun H1 e1 => ?_⟩⟩
    obtain ⟨a1, rfl, S1⟩ := K1.same e1
    walk_at "rd"
    refine r_ix S1 rfl ?_
    walk_at "rd"
    refine r_ix S1 rfl ?_
    walk_at "rd"
    exact ⟨_, _, rfl, q H1 e1⟩
  · exact ⟨_, _, rfl, .inr ⟨hb, hE⟩⟩
/-! ### the law's draws -/
theorem new_list {K : Frag} {l p : Addr} {H : Hp} {xs : List V} (hl : Held l H) (hp : H p = none) : SqL K (del l (upd H p (.lst xs))) p xs ∧ Bt l H (upd H p (.lst xs)) ∧ Held l (upd H p (.lst xs)) := by
  refine ⟨?_, Bt.of (same_new hp), hl.same (same_new hp)⟩
  rw [del_upd (hl.ne hp)]
  exact SqL.of upd_same
theorem rd__law_powers {K : Frag} (vs : List V) (H : Hp) (Q : VK) (E : XK) (h : sp__law_powers K vs H Q E) : t__law_powers K { nx := fun _ H' => Q .non H', rt := Q } (start ["_law_found", "_law_least", "_law_word"] vs) H := by
  obtain ⟨l, m, rfl, hl, q⟩ := h
  unfold t__law_powers
  walk_at "rd"
  refine take hl (by decide) fun r H1 _ _ b1 l1 => ?_
  walk_at "rd"
  -- three draws in a list
  have three : ∀ (a b c : Int) (H1 : Hp), Bt l H H1 → Held l H1 → 0 < a → a < 14 → 0 < b → b < 10 → 0 < c → c < 7 → (tRet (tLst (tCons (tCa (sp__law_take K) E0 (tCons (tVar 0) (tCons (tC (.int a)) tNil))) (tCons (tCa (sp__law_take K) E0 (tCons (tVar 0) (tCons (tC (.int b)) tNil))) (tCons (tCa (sp__law_take K) E0 (tCons (tVar 0) (tCons (tC (.int c)) tNil))) tNil)))))
      { nx := fun _ H' => Q .non H', rt := Q } [some (.ref l), some (.int m), some (.int r)] H1 := by
    intro a b c H1 b1 l1 ha ha' hb hb' hc hc'
    walk_at "rd"
    refine take l1 ha fun r1 H2 p1 p1' b2 l2 => ?_
    walk_at "rd"
    refine take l2 hb fun r2 H3 p2 p2' b3 l3 => ?_
    walk_at "rd"
    refine take l3 hc fun r3 H4 p3 p3' b4 l4 => ?_
    walk_at "rd"
    refine r_nL (by show 3 ≤ sizeLine; decide) fun p hp => ?_
    obtain ⟨n1, rfl⟩ := Int.eq_ofNat_of_zero_le p1
    obtain ⟨n2, rfl⟩ := Int.eq_ofNat_of_zero_le p2
    obtain ⟨n3, rfl⟩ := Int.eq_ofNat_of_zero_le p3
    obtain ⟨z1, z2, z3⟩ := new_list (K := K) (xs := [.int (n1 : Int), .int (n2 : Int), .int (n3 : Int)]) l4 hp
    have b14 := (((b1.trans b2).trans b3).trans b4)
    exact q (some (n1, n2, n3)) _ _ (fun _ h => nomatch h) ⟨by omega, by omega, by omega⟩ (b14.trans z2) z3 (fun a e => by cases e; exact b14.fresh (l4.ne hp) hp) ⟨p, rfl, z1⟩
  have rest : (tSeq (tIfS (tT (tOp rEq (tVar 2) (tC (.int 1))))
    (tRet (tLst (tCons (tCa (sp__law_take K) E0 (tCons (tVar 0) (tCons (tC (.int 13)) tNil))) (tCons (tCa (sp__law_take K) E0 (tCons (tVar 0) (tCons (tC (.int 9)) tNil))) (tCons (tCa (sp__law_take K) E0 (tCons (tVar 0) (tCons (tC (.int 6)) tNil))) tNil)))))
    tNext)
    (tSeq (tIfS (tT (tOp rEq (tVar 2) (tC (.int 2))))
    (tRet (tLst (tCons (tC (.int 0)) (tCons (tC (.int 0)) (tCons (tC (.int 0)) tNil)))))
    tNext)
    (tRet (tLst (tCons (tCa (sp__law_take K) E0 (tCons (tVar 0) (tCons (tC (.int 4)) tNil))) (tCons (tCa (sp__law_take K) E0 (tCons (tVar 0) (tCons (tC (.int 3)) tNil))) (tCons (tCa (sp__law_take K) E0 (tCons (tVar 0) (tCons (tC (.int 2)) tNil))) tNil)))))))
      { nx := fun _ H' => Q .non H', rt := Q } [some (.ref l), some (.int m), some (.int r)] H1 := by
    walk_at "rdt"
    refine br_d (fun _ => ?_) fun _ => ?_
    · exact three 13 9 6 H1 b1 l1 (by decide) (by decide) (by decide) (by decide) (by decide) (by decide)
    · walk_at "rdt"
      refine br_d (fun _ => ?_) fun _ => ?_
      · walk_at "rd"
        refine r_nL (by show 3 ≤ sizeLine; decide) fun p hp => ?_
        obtain ⟨z1, z2, z3⟩ := new_list (K := K) (xs := [.int ((0 : Nat) : Int), .int ((0 : Nat) : Int), .int ((0 : Nat) : Int)]) l1 hp
        exact q (some (0, 0, 0)) _ _ (fun _ h => nomatch h) ⟨by omega, by omega, by omega⟩ (b1.trans z2) z3 (fun a e => by cases e; exact b1.fresh (l1.ne hp) hp) ⟨p, rfl, z1⟩
      · refine r_next ?_
        exact three 4 3 2 H1 b1 l1 (by decide) (by decide) (by decide) (by decide) (by decide) (by decide)
  refine br_d (fun _ => ?_) fun _ => ?_
  · walk_at "rd"
    refine br_d (fun c => ?_) fun _ => ?_
    · walk_at "rd"
      exact q none _ _ (fun h => absurd c h) trivial b1 l1 (fun a e => nomatch e) rfl
    · exact rest
  · exact rest
theorem pow2_62 {n : Nat} (h : n < 1000) : n < 2 ^ 62 := Nat.lt_trans h (by decide)
theorem rd__law_worth {K : Frag} (vs : List V) (H : Hp) (Q : VK) (E : XK) (h : sp__law_worth K vs H Q E) : t__law_worth K { nx := fun _ H' => Q .non H', rt := Q } (start ["_law_powers_here", "_law_worth_here", "_law_turn"] vs) H := by
  obtain ⟨v, p, rfl, hp, hb, q⟩ := h
  unfold t__law_worth
  walk_at "rd"
  cases p with
  | none =>
    cases hp
    refine br_yes (by simp) ?_
    walk_at "rd"
    exact q
  | some x =>
    obtain ⟨a, b, c⟩ := x
    obtain ⟨l, rfl, hS⟩ := hp
    obtain ⟨ha, hb, hc⟩ := hb
    refine br_no (by simp) ?_
    walk_at "rd"
    refine r_ixL hS rfl ?_
    walk_at "rd"
    refine r_rgN (pow2_62 (by omega)) ?_
    refine lp_rng (fun i σ H' => H' = H ∧ ∃ v, σ = [some (.ref l), some (.int ((2 ^ i : Nat) : Int)), v]) ⟨rfl, _, rfl⟩ ?_ ?_
    · rintro i σ H' hi ⟨rfl, v, rfl⟩
      walk_at "rd"
      refine r_mul (.inr (by decide)) ?_
      refine ⟨rfl, some (.int (0 + (i : Int))), ?_⟩
      rw [Nat.pow_succ, Int.natCast_mul]
      rfl
    · rintro σ H' ⟨rfl, v, rfl⟩
      walk_at "rd"
      refine r_ixL hS rfl ?_
      walk_at "rd"
      refine r_rgN (pow2_62 (by omega)) ?_
      refine lp_rng (fun i σ H'' => H'' = H' ∧ ∃ v, σ = [some (.ref l), some (.int ((2 ^ a * 3 ^ i : Nat) : Int)), v]) ⟨rfl, _, by rw [Nat.pow_zero, Nat.mul_one]⟩ ?_ ?_
      · rintro i σ H2 hi ⟨rfl, v, rfl⟩
        walk_at "rd"
        refine r_mul (.inr (by decide)) ?_
        refine ⟨rfl, some (.int (0 + (i : Int))), ?_⟩
        rw [Nat.pow_succ, ← Nat.mul_assoc, Int.natCast_mul (2 ^ a * 3 ^ i)]
        rfl
      · rintro σ H2 ⟨rfl, v, rfl⟩
        walk_at "rd"
        refine r_ixL hS rfl ?_
        walk_at "rd"
        refine r_rgN (pow2_62 (by omega)) ?_
        refine lp_rng (fun i σ H'' => H'' = H2 ∧ ∃ v, σ = [some (.ref l), some (.int ((2 ^ a * 3 ^ b * 5 ^ i : Nat) : Int)), v]) ⟨rfl, _, by rw [Nat.pow_zero, Nat.mul_one]⟩ ?_ ?_
        · rintro i σ H3 hi ⟨rfl, v, rfl⟩
          walk_at "rd"
          refine r_mul (.inr (by decide)) ?_
          refine ⟨rfl, some (.int (0 + (i : Int))), ?_⟩
          rw [Nat.pow_succ, ← Nat.mul_assoc, Int.natCast_mul (2 ^ a * 3 ^ b * 5 ^ i)]
          rfl
        · rintro σ H3 ⟨rfl, v, rfl⟩
          walk_at "rd"
          exact q
theorem rd__law_power {K : Frag} (vs : List V) (H : Hp) (Q : VK) (E : XK) (h : sp__law_power K vs H Q E) : t__law_power K { nx := fun _ H' => Q .non H', rt := Q } (start ["_law_powers_here", "_law_k"] vs) H := by
  obtain ⟨v, p, k, rfl, hp, hk, q⟩ := h
  unfold t__law_power
  walk_at "rd"
  cases p with
  | none =>
    cases hp
    refine br_yes (by simp) ?_
    walk_at "rd"
    rw [pe_none] at q
    exact q
  | some x =>
    obtain ⟨a, b, c⟩ := x
    obtain ⟨l, rfl, hS⟩ := hp
    refine br_no (by simp) ?_
    walk_at "rd"
    match k, hk with
    | 0, _ => exact r_ixL hS rfl q
    | 1, _ => exact r_ixL hS rfl q
    | 2, _ => exact r_ixL hS rfl q
theorem power {K : Frag} {v : V} {p : Pw} {k : Nat} {H : Hp} {Q : VK} {E : XK} (hp : RPw K H v p) (hk : k < 3) (q : Q (.int (pe p k : Nat)) H) : sp__law_power K [v, .int (k : Nat)] H Q E := ⟨v, p, k, rfl, hp, hk, q⟩
theorem rd__law_good {K : Frag} (vs : List V) (H : Hp) (Q : VK) (E : XK) (h : sp__law_good K vs H Q E) : t__law_good K { nx := fun _ H' => Q .non H', rt := Q } (start ["_law_kind", "_law_k", "_law_power_here"] vs) H := by
  obtain ⟨v, p, k, w, rfl, ⟨t, u0, u1, rfl, hT, h0, h1⟩, hk, q⟩ := h
  unfold t__law_good
  walk_at "rd"
  refine r_ixT hT rfl ?_
  walk_at "rd"
  refine power h0 hk ?_
  walk_at "rd"
  refine r_ixT hT rfl ?_
  walk_at "rd"
  refine power h1 hk ?_
  walk_at "rd"
  have e : decide ((if ((pe p.1 k : Nat) : Int) < (w : Int) then ((pe p.1 k : Nat) : Int) else (w : Int)) ≤ ((pe p.2 k : Nat) : Int)) = good p k w := by
    unfold good
    rw [decide_eq_decide]
    split <;> omega
  rw [e]
  exact q
theorem good_ {K : Frag} {v : V} {p : Pw × Pw} {k w : Nat} {H : Hp} {Q : VK} {E : XK} (hp : RRow K H v p) (hk : k < 3) (q : Q (.bl (good p k w)) H) : sp__law_good K [v, .int (k : Nat), .int (w : Nat)] H Q E := ⟨v, p, k, w, rfl, hp, hk, q⟩
theorem none_iff {K : Frag} {H : Hp} {v : V} {p : Pw} (h : RPw K H v p) : decide (v = .non) = decide (p = none) := by
  cases p with
  | none =>
    have e : v = .non := h
    subst e
    simp
  | some x =>
    obtain ⟨a, b, c⟩ := x
    obtain ⟨l, rfl, _⟩ := h
    simp
theorem rd__law_goes {K : Frag} (vs : List V) (H : Hp) (Q : VK) (E : XK) (h : sp__law_goes K vs H Q E) : t__law_goes K { nx := fun _ H' => Q .non H', rt := Q } (start ["_law_one", "_law_other", "_law_k", "_law_most", "_law_need"] vs) H := by
  obtain ⟨v, w, p, r, rfl, ⟨t, u0, u1, rfl, hT, h0, h1⟩, ⟨t', w0, w1, rfl, hT', g0, g1⟩, q⟩ := h
  obtain ⟨p0, p1⟩ := p
  obtain ⟨r0, r1⟩ := r
  unfold t__law_goes
  walk_at "rd"
  refine r_ixT hT' rfl ?_
  walk_at "rd"
  cases r0 with
  | none =>
    have e0 : w0 = .non := g0
    subst e0
    refine br_yes (by simp) ?_
    walk_at "rd"
    refine r_ixT hT rfl ?_
    walk_at "rd"
    rw [none_iff h0]
    refine br_nd (fun c => ?_) fun c => ?_
    · walk_at "rd"
      refine r_ixT hT' rfl ?_
      walk_at "rd"
      rw [none_iff g1]
      have e : goes (p0, p1) (none, r1) = decide (r1 = none) := by
        unfold goes
        exact if_pos c
      rw [← e]
      exact q.self
    · walk_at "rd"
      refine r_rgN (n := 3) (by decide) ?_
      refine lc_rng (fun i => .bl (decide (pe p1 i ≤ pe r1 i))) (by decide) (fun _ => rfl) ?_ ?_
      · intro i H1 Q' hi s1 kk
        walk_at "rd"
        refine r_ixT (Same.seqT s1 hT) rfl ?_
        walk_at "rd"
        rw [Int.zero_add]
        refine power (h1.same s1) hi ?_
        walk_at "rd"
        refine r_ixT (Same.seqT s1 hT') rfl ?_
        walk_at "rd"
        refine power (g1.same s1) hi ?_
        walk_at "rd"
        have e : decide (((pe p1 i : Nat) : Int) ≤ ((pe r1 i : Nat) : Int)) = decide (pe p1 i ≤ pe r1 i) := by
          rw [decide_eq_decide]
          omega
        rw [e]
        exact kk _ (Same.refl _)
      · intro D H1 hD s1 hD1
        walk_at "rd"
        refine r_all (bs := [decide (pe p1 0 ≤ pe r1 0), decide (pe p1 1 ≤ pe r1 1), decide (pe p1 2 ≤ pe r1 2)]) (SqL.of hD1) ?_
        walk_at "rd"
        have eall : ([decide (pe p1 0 ≤ pe r1 0), decide (pe p1 1 ≤ pe r1 1), decide (pe p1 2 ≤ pe r1 2)] : List Bool).all id = decide (le3 (pe p1) (pe r1)) := by
          unfold le3
          by_cases a0 : pe p1 0 ≤ pe r1 0 <;> by_cases a1 : pe p1 1 ≤ pe r1 1 <;> by_cases a2 : pe p1 2 ≤ pe r1 2 <;> simp [a0, a1, a2]
        rw [eall]
        have eg : goes (p0, p1) (none, r1) = (decide (le3 (pe p1) (pe r1)) && (decide (p1 ≠ none) || decide (r1 = none))) := by
          unfold goes
          exact if_neg (fun z => z c)
        refine br_b (fun b1 => ?_) fun b1 => ?_
        · walk_at "rd"
          refine r_ixT (Same.seqT s1 hT) rfl ?_
          walk_at "rd"
          rw [none_iff (h1.same s1)]
          have fin : ∀ b : Bool, b = goes (p0, p1) (none, r1) → Q (.bl b) H1 := fun b hb => hb ▸ q H1 s1
          refine br_nd (fun c1 => ?_) fun c1 => ?_
          · dsimp only at c1
            exact fin _ (by rw [eg, b1]; simp [c1])
          · walk_at "rd"
            refine r_ixT (Same.seqT s1 hT') rfl ?_
            walk_at "rd"
            rw [none_iff (g1.same s1)]
            dsimp only at c1
            exact fin _ (by rw [eg, b1]; simp [c1])
        · have e : goes (p0, p1) (none, r1) = false := by rw [eg, b1]; rfl
          have z := q H1 s1
          rw [e] at z
          exact z
  | some y =>
    refine br_no ?_ ?_
    · rw [none_iff g0]
      simp
    walk_at "rd"
    refine r_rgN (n := 3) (by decide) ?_
    refine lp_rng (fun i σ H' => H' = H ∧ (∃ a b c, σ = [some (.ref t), some (.ref t'), a, b, c]) ∧ ∀ k, k < i → min (pe p1 k + (pe (some y) k - pe p0 k)) (pe (some y) k) ≤ pe r1 k) ⟨rfl, ⟨_, _, _, rfl⟩, fun k hk => absurd hk (by omega)⟩ ?_ ?_
    · rintro i σ H' hi ⟨rfl, ⟨a, b, c, rfl⟩, hk⟩
      walk_at "rd"
      refine r_ixT hT' rfl ?_
      walk_at "rd"
      rw [Int.zero_add]
      refine power g0 hi ?_
      walk_at "rd"
      refine r_ixT hT rfl ?_
      walk_at "rd"
      refine power h1 hi ?_
      walk_at "rd"
      refine r_ixT hT rfl ?_
      walk_at "rd"
      refine power h0 hi ?_
      walk_at "rd"
      refine r_ixT hT' rfl ?_
      walk_at "rd"
      refine power g1 hi ?_
      walk_at "rd"
      refine br_d (fun c => ?_) fun c => ?_
      · walk_at "rd"
        have e : goes (p0, p1) (some y, r1) = false := by
          rw [← Bool.not_eq_true]
          intro z
          have z2 := goes_some.mp z i hi
          have z2' : min (pe p1 i + (pe (some y) i - pe p0 i)) (pe (some y) i) ≤ pe r1 i := z2
          dsimp only at c
          split at c <;> split at c <;> omega
        have z := q.self
        rw [e] at z
        exact z
      · refine ⟨rfl, ⟨_, _, _, rfl⟩, fun k hk' => ?_⟩
        by_cases z : k = i
        · subst z
          dsimp only at c
          split at c <;> split at c <;> omega
        · exact hk k (by omega)
    · rintro σ H' ⟨rfl, ⟨a, b, c, rfl⟩, hk⟩
      walk_at "rd"
      have e : goes (p0, p1) (some y, r1) = true := goes_some.mpr hk
      have z := q.self
      rw [e] at z
      exact z
theorem goes_ {K : Frag} {v w : V} {p r : Pw × Pw} {H : Hp} {Q : VK} {E : XK} (hp : RRow K H v p) (hr : RRow K H w r) (q : Back (.bl (goes p r)) H Q) : sp__law_goes K [v, w] H Q E := ⟨v, w, p, r, rfl, hp, hr, q⟩
theorem rd__law_goes_mod {K : Frag} (vs : List V) (H : Hp) (Q : VK) (E : XK) (h : sp__law_goes_mod K vs H Q E) : t__law_goes_mod K { nx := fun _ H' => Q .non H', rt := Q } (start ["_law_one", "_law_other", "_law_hours", "_law_goal", "_law_k"] vs) H := by
  obtain ⟨v, w, x, p, r, hh, rfl, hp, ⟨t', w0, w1, rfl, hT', g0, g1⟩, hx, q⟩ := h
  obtain ⟨ha, hb, hc⟩ := hh
  obtain ⟨lh, rfl, hS⟩ := hx
  unfold t__law_goes_mod
  walk_at "rd"
  refine r_rgN (n := 3) (by decide) ?_
  refine lc_rng (fun i => .int ((min (pe (some (ha, hb, hc)) i) (pe r.1 i) : Nat) : Int)) (by decide) (fun _ => rfl) ?_ ?_
  · intro i H1 Q' hi s1 kk
    walk_at "rd"
    rw [Int.zero_add]
    refine r_ixL (v := .int ((pe (some (ha, hb, hc)) i : Nat) : Int)) (s1.seq hS) ?_ ?_
    · match i, hi with
      | 0, _ => rfl
      | 1, _ => rfl
      | 2, _ => rfl
    walk_at "rd"
    refine r_ixT (Same.seqT s1 hT') rfl ?_
    walk_at "rd"
    refine power (g0.same s1) hi ?_
    walk_at "rd"
    have e : (if ((pe r.1 i : Nat) : Int) < ((pe (some (ha, hb, hc)) i : Nat) : Int) then ((pe r.1 i : Nat) : Int) else ((pe (some (ha, hb, hc)) i : Nat) : Int)) = ((min (pe (some (ha, hb, hc)) i) (pe r.1 i) : Nat) : Int) := by
      split <;> omega
    rw [e]
    exact kk _ (Same.refl _)
  · intro D H1 hD s1 hD1
    walk_at "rd"
    refine r_ixT (Same.seqT s1 hT') rfl ?_
    walk_at "rd"
    refine r_nT (by show 2 ≤ sizeLine; decide) fun tp htp => ?_
    walk_at "rd"
    have s2 := same_new (o := .tup [.ref D, w1]) htp
    have s12 := s1.trans s2
    refine goes_ (hp.same s12) (r := (cap (some (ha, hb, hc)) r.1, r.2)) ⟨tp, .ref D, w1, rfl, .inl (.inl upd_same), ⟨D, rfl, SqL.of (s2 _ _ hD1)⟩, g1.same s12⟩ (Back.same q s12)
end K63
end
section
set_option Elab.async false
set_option linter.all false
set_option maxRecDepth 100000
set_option maxHeartbeats 4000000
/-! k63: the readings, the law's part, on -/
namespace K63
open PySem PySem.Spec PyProof.Rows L2 Nw
local macro_rules | `(tactic| walk_at "rd") => `(tactic| repeat' (first
  | with_reducible refine r_seq ?_ | with_reducible refine r_asg ?_ | with_reducible refine r_ret ?_ | with_reducible refine r_retN ?_ | with_reducible refine r_drop ?_ | with_reducible refine r_next ?_ | with_reducible refine r_brk ?_ | with_reducible refine r_cont ?_
  | ((with_reducible refine' r_var ?ev ?_); (case ev => rfl)) | with_reducible refine r_c ?_ | with_reducible refine r_op ?_ | with_reducible refine r_un ?_ | with_reducible refine r_ifS ?_ | with_reducible refine r_if ?_
  | with_reducible refine r_T ?_ | with_reducible refine r_isB ?_ | with_reducible refine r_and ?_ | with_reducible refine r_or ?_ | with_reducible refine r_not ?_ | with_reducible refine r_andV ?_ | with_reducible refine r_orV ?_ | with_reducible refine r_notV ?_
  | with_reducible refine r_nil ?_ | with_reducible refine r_cons ?_ | with_reducible refine r_lst ?_ | with_reducible refine r_tup ?_ | with_reducible refine r_ca ?_ | with_reducible refine r_cw ?_ | with_reducible refine r_cb ?_
  | with_reducible refine r_add ?_ | with_reducible refine r_sub ?_ | with_reducible refine r_neg ?_ | with_reducible refine r_lt ?_ | with_reducible refine r_le ?_ | with_reducible refine r_gt ?_ | with_reducible refine r_ge ?_ | with_reducible refine r_eqI ?_ | with_reducible refine r_neI ?_ | with_reducible refine r_eqB ?_ | with_reducible refine r_neB ?_
  | with_reducible refine r_isN ?_ | with_reducible refine r_notN ?_ | with_reducible refine r_min ?_ | with_reducible refine r_max ?_ | with_reducible refine r_int ?_ | with_reducible refine r_gcd ?_ | with_reducible refine r_for ?_ | with_reducible refine r_rg1 ?_ | with_reducible refine r_rg2 ?_ | with_reducible refine r_wlI ?_ | with_reducible refine r_wtI ?_ | with_reducible refine r_gN ?_ | with_reducible refine r_asgS ?_ | with_reducible refine r_bm0 ?_ | with_reducible refine r_bm ?_ | with_reducible refine r_lc ?_
  | with_reducible refine br_t ?_ | with_reducible refine br_f ?_ | with_reducible refine br_nt ?_ | with_reducible refine br_nf ?_))
local macro_rules | `(tactic| walk_at "rdt") => `(tactic| repeat' (first
  | with_reducible refine r_seq ?_ | with_reducible refine r_retN ?_ | with_reducible refine r_drop ?_ | with_reducible refine r_next ?_ | with_reducible refine r_brk ?_ | with_reducible refine r_cont ?_
  | ((with_reducible refine' r_var ?ev ?_); (case ev => rfl)) | with_reducible refine r_c ?_ | with_reducible refine r_op ?_ | with_reducible refine r_un ?_ | with_reducible refine r_ifS ?_ | with_reducible refine r_if ?_
  | with_reducible refine r_T ?_ | with_reducible refine r_isB ?_ | with_reducible refine r_and ?_ | with_reducible refine r_or ?_ | with_reducible refine r_not ?_ | with_reducible refine r_andV ?_ | with_reducible refine r_orV ?_ | with_reducible refine r_notV ?_
  | with_reducible refine r_nil ?_ | with_reducible refine r_cons ?_ | with_reducible refine r_lst ?_ | with_reducible refine r_tup ?_ | with_reducible refine r_ca ?_ | with_reducible refine r_cw ?_ | with_reducible refine r_cb ?_
  | with_reducible refine r_add ?_ | with_reducible refine r_sub ?_ | with_reducible refine r_neg ?_ | with_reducible refine r_lt ?_ | with_reducible refine r_le ?_ | with_reducible refine r_gt ?_ | with_reducible refine r_ge ?_ | with_reducible refine r_eqI ?_ | with_reducible refine r_neI ?_ | with_reducible refine r_eqB ?_ | with_reducible refine r_neB ?_
  | with_reducible refine r_isN ?_ | with_reducible refine r_notN ?_ | with_reducible refine r_min ?_ | with_reducible refine r_max ?_ | with_reducible refine r_int ?_ | with_reducible refine r_gcd ?_ | with_reducible refine r_for ?_ | with_reducible refine r_rg1 ?_ | with_reducible refine r_rg2 ?_ | with_reducible refine r_wlI ?_ | with_reducible refine r_wtI ?_ | with_reducible refine r_gN ?_ | with_reducible refine r_asgS ?_ | with_reducible refine r_bm0 ?_ | with_reducible refine r_bm ?_ | with_reducible refine r_lc ?_
  | with_reducible refine br_t ?_ | with_reducible refine br_f ?_ | with_reducible refine br_nt ?_ | with_reducible refine br_nf ?_))
local macro_rules | `(tactic| walk_at "rdq") => `(tactic| repeat' (first | ((with_reducible refine' r_var ?ev ?_); (case ev => rfl)) | with_reducible refine r_c ?_ | with_reducible refine r_T ?_ | with_reducible refine r_isB ?_ | with_reducible refine r_op ?_ | with_reducible refine r_eqI ?_ | with_reducible refine r_not ?_ | with_reducible refine br_t ?_ | with_reducible refine br_f ?_ | with_reducible refine br_nt ?_ | with_reducible refine br_nf ?_ | with_reducible refine r_next ?_))
local macro_rules | `(tactic| walk_at "rdv") => `(tactic| repeat' (first | ((with_reducible refine' r_var ?ev ?_); (case ev => rfl)) | with_reducible refine r_T ?_ | with_reducible refine r_isB ?_))
theorem rd__law_hours_go_on {K : Frag} (vs : List V) (H : Hp) (Q : VK) (E : XK) (h : sp__law_hours_go_on K vs H Q E) : t__law_hours_go_on K { nx := fun _ H' => Q .non H', rt := Q } (start ["_law_one", "_law_other", "_law_k", "_law_power_here"] vs) H := by
  obtain ⟨v, w, p, r, rfl, hp, hr, q⟩ := h
  unfold t__law_hours_go_on
  walk_at "rd"
  refine r_rgN (n := 3) (by decide) ?_
  refine lp_rng (fun i σ H' => H' = H ∧ (∃ a b, σ = [some v, some w, a, b]) ∧ ∀ k, k < i → ∀ x, 1 ≤ x → x < 15 → good p k x = true → good r k x = true) ⟨rfl, ⟨_, _, rfl⟩, fun k hk => absurd hk (by omega)⟩ ?_ ?_
  · rintro i σ H' hi ⟨rfl, ⟨a, b, rfl⟩, hk⟩
    walk_at "rd"
    refine r_rg2N (n := 14) rfl (by decide) ?_
    rw [Int.zero_add]
    refine lp_rng (fun j σ H2 => H2 = H' ∧ (∃ b, σ = [some v, some w, some (.int (i : Int)), b]) ∧ ∀ x, 1 ≤ x → x < 1 + j → good p i x = true → good r i x = true) ⟨rfl, ⟨_, rfl⟩, fun x h1 h2 => absurd h2 (by omega)⟩ ?_ ?_
    · rintro j σ H2 hj ⟨rfl, ⟨b, rfl⟩, hx⟩
      walk_at "rd"
      have ej : (1 : Int) + (j : Int) = ((1 + j : Nat) : Int) := by omega
      rw [ej]
      refine good_ hp hi ?_
      walk_at "rd"
      refine br_b (fun g1 => ?_) fun g1 => ?_
      · walk_at "rd"
        refine good_ hr hi ?_
        walk_at "rd"
        refine br_nb (fun g2 => ?_) fun g2 => ?_
        · walk_at "rd"
          refine q false ⟨(fun z => nomatch z), fun z => ?_⟩
          have := z.1 i hi (1 + j) (by omega) (by omega) g1
          rw [this] at g2
          cases g2
        · refine ⟨rfl, ⟨_, rfl⟩, fun x h1 h2 h3 => ?_⟩
          by_cases z : x = 1 + j
          · rw [z]; exact g2
          · exact hx x h1 (by omega) h3
      · refine ⟨rfl, ⟨_, rfl⟩, fun x h1 h2 h3 => ?_⟩
        by_cases z : x = 1 + j
        · rw [z, g1] at h3; cases h3
        · exact hx x h1 (by omega) h3
    · rintro σ H2 ⟨rfl, ⟨b, rfl⟩, hx⟩
      refine ⟨rfl, ⟨_, _, rfl⟩, fun k hk' x h1 h2 h3 => ?_⟩
      by_cases z : k = i
      · subst z
        exact hx x h1 h2 h3
      · exact hk k (by omega) x h1 h2 h3
  · rintro σ H' ⟨rfl, ⟨a, b, rfl⟩, hk⟩
    obtain ⟨t, u0, u1, rfl, hT, h0, h1⟩ := hp
    obtain ⟨t', w0, w1, rfl, hT', g0, g1⟩ := hr
    walk_at "rd"
    refine r_ixT hT' rfl ?_
    walk_at "rd"
    rw [none_iff g0]
    have last : (r.1 = none → r.2 ≠ none → p.1 = none) → hgo p r := fun z => ⟨hk, z⟩
    refine br_d (fun c => ?_) fun c => ?_
    · walk_at "rd"
      refine r_ixT hT' rfl ?_
      walk_at "rd"
      rw [none_iff g1]
      refine br_nd (fun c2 => ?_) fun c2 => ?_
      · walk_at "rd"
        refine r_ixT hT rfl ?_
        walk_at "rd"
        rw [none_iff h0]
        refine q _ ?_
        rw [decide_eq_true_eq]
        exact ⟨(fun z => last fun _ _ => z), (fun z => z.2 c c2)⟩
      · walk_at "rd"
        exact q true ⟨(fun _ => last fun _ z => absurd c2 z), (fun _ => rfl)⟩
    · walk_at "rd"
      exact q true ⟨(fun _ => last fun z => absurd z c), (fun _ => rfl)⟩
/-! ### the sizes -/
theorem P_le {a b c x y z : Nat} (h1 : a ≤ x) (h2 : b ≤ y) (h3 : c ≤ z) : P a b c ≤ P x y z := Nat.le_of_dvd (P_pos _ _ _) (P_dvd.mpr ⟨h1, h2, h3⟩)
theorem Wt_B1 {p : Pw} (h : B1 p) : Wt p < 2 ^ 30 := by
  cases p with
  | none => show 0 < 2 ^ 30; decide
  | some x =>
    obtain ⟨a, b, c⟩ := x
    obtain ⟨h1, h2, h3⟩ := h
    exact Nat.lt_of_le_of_lt (P_le h1 h2 h3) (by decide)
theorem Wt_B2 {p : Pw} (h : B2 p) : Wt p < 2 ^ 64 := by
  cases p with
  | none => show 0 < 2 ^ 64; decide
  | some x =>
    obtain ⟨a, b, c⟩ := x
    obtain ⟨h1, h2, h3⟩ := h
    exact Nat.lt_of_le_of_lt (P_le (x := 12) (y := 8) (z := 5) (by omega) (by omega) (by omega)) (by decide)
theorem B1.lq {p : Pw} (h : B1 p) : Lq p := by
  cases p with
  | none => trivial
  | some x =>
    obtain ⟨a, b, c⟩ := x
    obtain ⟨h1, h2, h3⟩ := h
    exact ⟨by omega, by omega, by omega⟩
theorem B2.lq {p : Pw} (h : B2 p) : Lq p := by
  cases p with
  | none => trivial
  | some x =>
    obtain ⟨a, b, c⟩ := x
    obtain ⟨h1, h2, h3⟩ := h
    exact ⟨by omega, by omega, by omega⟩
theorem B1.b2 {p : Pw} (h : B1 p) : B2 p := by
  cases p with
  | none => trivial
  | some x =>
    obtain ⟨a, b, c⟩ := x
    obtain ⟨h1, h2, h3⟩ := h
    exact ⟨by omega, by omega, by omega⟩
theorem Kind.ok.fit {x : Kind} (h : x.ok) : Fit (Wt x.p.1) x.s := ⟨Wt_B1 h.1, by rw [h.2.2]; exact Wt_B2 h.2.1⟩
def cut (p : Pw) : Pw := match p with
  | none => none
  | some (a, b, c) => some (min a 9, min b 5, min c 3)
theorem cut_B1 (p : Pw) : B1 (cut p) := by
  cases p with
  | none => trivial
  | some x =>
    obtain ⟨a, b, c⟩ := x
    exact ⟨Nat.min_le_right _ _, Nat.min_le_right _ _, Nat.min_le_right _ _⟩
theorem min_int (a b : Nat) : (if (b : Int) < (a : Int) then (b : Int) else (a : Int)) = ((min a b : Nat) : Int) := by
  split <;> omega
/-- three draws cut: a new list -/
theorem worth {K : Frag} {v : V} {p : Pw} {H : Hp} {Q : VK} {E : XK} (hp : RPw K H v p) (hb : B2 p) (q : Q (.int (Wt p : Nat)) H) : sp__law_worth K [v] H Q E := ⟨v, p, rfl, hp, hb, q⟩
theorem powers {K : Frag} {l : Addr} {m : Int} {H : Hp} {Q : VK} {E : XK} (hl : Held l H) (k : ∀ p v H', (m ≠ 0 → p ≠ none) → B2 p → Bt l H H' → Held l H' → (∀ a, v = .ref a → H a = none) → RPw K (del l H') v p → Q v H') : sp__law_powers K [.ref l, .int m] H Q E := ⟨l, m, rfl, hl, k⟩
/-! ### kinds -/
/-- the rows so far stand at r -/
def Rows (K : Frag) (l r : Addr) (vs : List V) (xs : List Kind) (H : Hp) : Prop := r ≠ l ∧ H r = some (.lst vs) ∧ vs.length = xs.length ∧ ∀ (i : Nat) (v : V) (x : Kind), vs[i]? = some v → xs[i]? = some x → RK K (del r (del l H)) v x ∧ x.ok
theorem Rows.bt {K : Frag} {l r : Addr} {vs : List V} {xs : List Kind} {H H' : Hp} (h : Rows K l r vs xs H) (b : Bt l H H') : Rows K l r vs xs H' := by
  obtain ⟨h1, h2, h3, h4⟩ := h
  exact ⟨h1, b _ _ h1 h2, h3, fun i v x a c => ⟨(h4 i v x a c).1.same b.del.dl, (h4 i v x a c).2⟩⟩
theorem dd_at {l r p : Addr} {H : Hp} {o : HO} (h1 : p ≠ l) (h2 : p ≠ r) (h : H p = some o) : del r (del l H) p = some o := by
  rw [del_ne h2, del_ne h1, h]
theorem _root_.Nw.Bt.dd {l r : Addr} {H H' : Hp} (h : Bt l H H') : Same (del r (del l H)) (del r (del l H')) := Same.dl h.del
/-- what is at no object of H stands without r, too -/
theorem RPw.but {K : Frag} {r : Addr} {G : Hp} {v : V} {p : Pw} (h : RPw K G v p) (n : ∀ a, v = .ref a → a ≠ r) : RPw K (del r G) v p := by
  cases p with
  | none => exact h
  | some x =>
    obtain ⟨xa, xb, xc⟩ := x
    obtain ⟨la, rfl, hS⟩ := h
    refine ⟨la, rfl, ?_⟩
    have n := n la rfl
    rcases hS with (h | ⟨o, h⟩) | h
    · exact .inl (.inl (by rw [del_ne n]; exact h))
    · exact .inl (.inr ⟨o, by rw [del_ne n]; exact h⟩)
    · exact .inr h
def t_kinds_tail (K : Frag) : TS := (tSeq (tAsg (tTup (tCons (tVar 3) (tCons (tCa (sp__law_powers K) E0 (tCons (tVar 0) (tCons (tC (.int 0)) tNil))) tNil))) (gName 4))
    (tSeq (tAsg (tOp nSub (tC (.int 1)) (tOp nMul (tC (.int 2)) (tCa (sp__law_take K) E0 (tCons (tVar 0) (tCons (tC (.int 2)) tNil))))) (gName 5))
    (tDrop (tBM K "list" rAppend (tVar 1) (tCons (tLst (tCons (tVar 4) (tCons (tTup (tCons (tCa (sp__law_worth K) E0 (tCons (tOp (rIx K) (tVar 4) (tC (.int 0))) tNil)) (tCons (tOp nMul (tVar 5) (tCa (sp__law_worth K) E0 (tCons (tOp (rIx K) (tVar 4) (tC (.int 1))) tNil))) tNil))) tNil))) tNil)))))
theorem natAbs_sign {r : Int} {n : Nat} (h0 : 0 ≤ r) (h2 : r < 2) : ((1 - 2 * r) * (n : Int)).natAbs = n := by
  have : r = 0 ∨ r = 1 := by omega
  rcases this with rfl | rfl
  · show (1 * (n : Int)).natAbs = n
    rw [Int.one_mul, Int.natAbs_natCast]
  · show ((-1) * (n : Int)).natAbs = n
    rw [Int.natAbs_mul, Int.natAbs_natCast]
    show 1 * n = n
    exact Nat.one_mul n
theorem rd_kinds_tail {K : Frag} {l r : Addr} {ws : List V} {xs : List Kind} {H H3 : Hp} {a c d : Option V} {v1 : V} {p0 : Pw} {D : Ends} (hr : H r = none) (bt : Bt l H H3) (hl : Held l H3) (R3 : Rows K l r ws xs H3) (hlen : ws.length < 5) (hp : RPw K (del r (del l H3)) v1 p0) (B : B1 p0)
    (k : ∀ c d vs xs H', vs.length = ws.length + 1 → Bt l H H' → Held l H' → Rows K l r vs xs H' → D.nx [some (.ref l), some (.ref r), a, some v1, c, d] H') : t_kinds_tail K D [some (.ref l), some (.ref r), a, some v1, c, d] H3 := by
  unfold t_kinds_tail
  walk_at "rd"
  have held_ne : ∀ {p : Addr} {G : Hp}, Held l G → G p = none → p ≠ l := fun h e => h.ne e
  refine powers hl fun p1 w1 H4 _ B1' bt4 hl4 fr4 P1 => ?_
  have R4 := R3.bt bt4
  have P1' := P1.but (r := r) fun a e z => by
    have := fr4 a e
    rw [z, R3.2.1] at this
    cases this
  walk_at "rd"
  refine r_nT (by show 2 ≤ sizeLine; decide) fun t ht => ?_
  walk_at "rd"
  have nl : t ≠ l := hl4.ne ht
  have nr : t ≠ r := fun z => by rw [z, R4.2.1] at ht; cases ht
  have st := same_new (o := .tup [v1, w1]) ht
  have bt5 : Bt l H4 (upd H4 t (.tup [v1, w1])) := Bt.of st
  have hl5 := hl4.same st
  have R5 := R4.bt bt5
  have hT : SqT K (del r (del l (upd H4 t (.tup [v1, w1])))) t [v1, w1] := .inl (.inl (dd_at nl nr upd_same))
  have q0 : RPw K (del r (del l (upd H4 t (.tup [v1, w1])))) v1 p0 := hp.same ((bt4.trans bt5).dd)
  have q1 : RPw K (del r (del l (upd H4 t (.tup [v1, w1])))) w1 p1 := P1'.same bt5.dd
  generalize upd H4 t (.tup [v1, w1]) = H5 at *
  refine take hl5 (by decide) fun s H6 s0 s2 bt6 hl6 => ?_
  have R6 := R5.bt bt6
  have hT6 := Same.seqT bt6.dd hT
  have q06 := q0.same bt6.dd
  have q16 := q1.same bt6.dd
  walk_at "rd"
  refine r_mul (.inl ⟨by decide, by decide⟩) ?_
  walk_at "rd"
  have dd : Same (del r (del l H6)) H6 := (del_same _ _).trans (del_same _ _)
  refine r_bmL R6.2.1 ?_
  walk_at "rd"
  refine r_ixT (Same.seqT dd hT6) rfl ?_
  walk_at "rd"
  refine worth (q06.same dd) B.b2 ?_
  walk_at "rd"
  refine r_ixT (Same.seqT dd hT6) rfl ?_
  walk_at "rd"
  refine worth (q16.same dd) B1' ?_
  walk_at "rd"
  refine r_mul (.inl ⟨by omega, by omega⟩) ?_
  walk_at "rd"
  refine r_nT (by show 2 ≤ sizeLine; decide) fun t2 ht2 => ?_
  walk_at "rd"
  refine r_nL (by show 2 ≤ sizeLine; decide) fun e he => ?_
  walk_at "rd"
  have n2l : t2 ≠ l := hl6.ne ht2
  have n2r : t2 ≠ r := fun z => by rw [z, R6.2.1] at ht2; cases ht2
  have st2 := same_new (o := .tup [.int ((Wt p0 : Nat) : Int), .int ((1 - 2 * s) * ((Wt p1 : Nat) : Int))]) ht2
  have hT2 : upd H6 t2 (.tup [.int ((Wt p0 : Nat) : Int), .int ((1 - 2 * s) * ((Wt p1 : Nat) : Int))]) t2 = some (.tup [.int ((Wt p0 : Nat) : Int), .int ((1 - 2 * s) * ((Wt p1 : Nat) : Int))]) := upd_same
  have hl7 := hl6.same st2
  have R7 := R6.bt (Bt.of st2)
  have bt7 : Bt l H6 (upd H6 t2 (.tup [.int ((Wt p0 : Nat) : Int), .int ((1 - 2 * s) * ((Wt p1 : Nat) : Int))])) := Bt.of st2
  generalize upd H6 t2 (.tup [.int ((Wt p0 : Nat) : Int), .int ((1 - 2 * s) * ((Wt p1 : Nat) : Int))]) = H7 at *
  have nel : e ≠ l := hl7.ne he
  have ner : e ≠ r := fun z => by rw [z, R7.2.1] at he; cases he
  have st3 := same_new (o := .lst [.ref t, .ref t2]) he
  have hE : upd H7 e (.lst [.ref t, .ref t2]) e = some (.lst [.ref t, .ref t2]) := upd_same
  have hl8 := hl7.same st3
  have R8 := R7.bt (Bt.of st3)
  have bt8 : Bt l H7 (upd H7 e (.lst [.ref t, .ref t2])) := Bt.of st3
  have hT28 := st3 _ _ hT2
  generalize upd H7 e (.lst [.ref t, .ref t2]) = H8 at *
  refine r_app R8.2.1 (small_line (by omega)) ?_
  obtain ⟨_, g2, g3, g4⟩ := R8
  have nrl : r ≠ l := R7.1
  have b78 := bt7.trans bt8
  refine k _ _ (ws ++ [.ref e]) (xs ++ [⟨(p0, p1), (1 - 2 * s) * ((Wt p1 : Nat) : Int)⟩]) _ (by simp) ?_ ?_ ⟨nrl, upd_same, by simp [g3], ?_⟩
  · intro b o hb q
    rw [upd_ne (ne_of_none q hr)]
    exact (bt.trans (bt4.trans (bt5.trans (bt6.trans b78)))) b o hb q
  · obtain ⟨ns, z⟩ := hl8
    exact ⟨ns, by rw [upd_ne (Ne.symm nrl)]; exact z⟩
  · have eg : del r (del l (upd H8 r (.lst (ws ++ [.ref e])))) = del r (del l H8) := by
      rw [del_upd nrl, del_put]
    rw [eg]
    intro i v x hv hx
    by_cases c : i < ws.length
    · rw [List.getElem?_append_left c] at hv
      rw [List.getElem?_append_left (by omega)] at hx
      exact g4 i v x hv hx
    · have ei : i = ws.length := by
        have := (List.getElem?_eq_some_iff.mp hv).1
        rw [List.length_append, List.length_singleton] at this
        omega
      subst ei
      rw [List.getElem?_append_right (Nat.le_refl _), Nat.sub_self] at hv
      rw [List.getElem?_append_right (by omega), g3, Nat.sub_self] at hx
      have hv' : V.ref e = v := Option.some.inj hv
      have hx' : (⟨(p0, p1), (1 - 2 * s) * ((Wt p1 : Nat) : Int)⟩ : Kind) = x := Option.some.inj hx
      subst hv' hx'
      refine ⟨⟨e, .ref t, t2, rfl, .inl (.inl (dd_at nel ner hE)), ⟨t, v1, w1, rfl, Same.seqT (bt6.trans b78).dd hT, q06.same b78.dd, q16.same b78.dd⟩, .inl (.inl (dd_at n2l n2r hT28))⟩, B, B1', natAbs_sign s0 s2⟩
theorem rd__law_kinds {K : Frag} (vs : List V) (H : Hp) (Q : VK) (E : XK) (h : sp__law_kinds K vs H Q E) : t__law_kinds K { nx := fun _ H' => Q .non H', rt := Q } (start ["_law_found", "_law_rows", "_law_turn", "_law_first", "_law_row", "_law_sign"] vs) H := by
  obtain ⟨l, rfl, hl, q⟩ := h
  unfold t__law_kinds
  walk_at "rd"
  refine r_nL (Nat.zero_le _) fun r hr => ?_
  walk_at "rd"
  refine r_rgN (n := 3) (by decide) ?_
  have nrl : r ≠ l := hl.ne hr
  refine lp_rng (fun i σ H' => (∃ a b c d, σ = [some (.ref l), some (.ref r), a, b, c, d]) ∧ Bt l H H' ∧ Held l H' ∧ ∃ vs xs, vs.length = i ∧ Rows K l r vs xs H')
    ⟨⟨_, _, _, _, rfl⟩, Bt.of (same_new hr), hl.same (same_new hr), [], [], rfl, nrl, upd_same, rfl, fun i v x a => by simp at a⟩ ?_ ?_
  · rintro i σ H1 hi ⟨⟨a, b, c, d, rfl⟩, bt1, hl1, ws, xs, hlen, R1⟩
    walk_at "rd"
    refine powers hl1 fun p0 v0 H2 _ B0 bt2 hl2 fr0 P0 => ?_
    have R2 := R1.bt bt2
    have P0' : RPw K (del r (del l H2)) v0 p0 := P0.but fun a e z => by
      have := fr0 a e
      rw [z, R1.2.1] at this
      cases this
    have fin : ∀ c d vs xs H', vs.length = ws.length + 1 → Bt l H H' → Held l H' → Rows K l r vs xs H' → ∀ v1 : V, (∃ a b c' d', ([some (.ref l), some (.ref r), some (.int (0 + (i : Int))), some v1, c, d] : List (Option V)) = [some (.ref l), some (.ref r), a, b, c', d']) ∧ Bt l H H' ∧ Held l H' ∧ ∃ vs xs, vs.length = i + 1 ∧ Rows K l r vs xs H' :=
      fun c d vs xs H' e b h R v1 => ⟨⟨_, _, _, _, rfl⟩, b, h, vs, xs, by omega, R⟩
    walk_at "rdt"
    rw [none_iff P0]
    refine br_nd (fun cc => ?_) fun cc => ?_
    · cases p0 with
      | none => exact absurd rfl cc
      | some x =>
        obtain ⟨xa, xb, xc⟩ := x
        obtain ⟨la, rfl, hS⟩ := P0'
        have hS2 : SqL K H2 la [.int (xa : Int), .int (xb : Int), .int (xc : Int)] := Same.seq ((del_same _ _).trans (del_same _ _)) hS
        refine r_asg ?_
        walk_at "rdt"
        refine r_ixL hS2 rfl ?_
        walk_at "rdt"
        refine r_ixL hS2 rfl ?_
        walk_at "rdt"
        refine r_ixL hS2 rfl ?_
        walk_at "rdt"
        have e9 := min_int xa 9
        have e5 := min_int xb 5
        have e3 := min_int xc 3
        refine r_nL (by show 3 ≤ sizeLine; decide) fun p hp => ?_
        have st := same_new (o := .lst [.int (if (9 : Int) < (xa : Int) then 9 else (xa : Int)), .int (if (5 : Int) < (xb : Int) then 5 else (xb : Int)), .int (if (3 : Int) < (xc : Int) then 3 else (xc : Int))]) hp
        have npl : p ≠ l := hl2.ne hp
        have npr : p ≠ r := fun z => by rw [z, R2.2.1] at hp; cases hp
        refine rd_kinds_tail (p0 := cut (some (xa, xb, xc))) hr ((bt1.trans bt2).trans (Bt.of st)) (hl2.same st) (R2.bt (Bt.of st)) (by omega) ?_ (cut_B1 _) (fun c d vs xs H' e b h R => fin c d vs xs H' e b h R _)
        refine ⟨p, rfl, .inl (.inl (dd_at npl npr ?_))⟩
        rw [upd_same, ← e9, ← e5, ← e3]
        rfl
    · walk_at "rdt"
      have ep : p0 = none := cc
      subst ep
      exact rd_kinds_tail (p0 := none) hr (bt1.trans bt2) hl2 R2 (by omega) P0' trivial (fun c d vs xs H' e b h R => fin c d vs xs H' e b h R _)
  · rintro σ H1 ⟨⟨a, b, c, d, rfl⟩, bt1, hl1, ws, xs, hlen, R1⟩
    match ws, xs, hlen, R1.2.2.1 with
    | [v0, v1, v2], [x0, x1, x2], _, _ =>
      walk_at "rd"
      refine take hl1 (by decide) fun s H2 _ _ bt2 hl2 => ?_
      obtain ⟨_, g2, _, g4⟩ := R1.bt bt2
      obtain ⟨a0, a1⟩ := g4 0 v0 x0 rfl rfl
      obtain ⟨b0, b1⟩ := g4 1 v1 x1 rfl rfl
      obtain ⟨c0, c1⟩ := g4 2 v2 x2 rfl rfl
      have bt12 := bt1.trans bt2
      walk_at "rd"
      refine br_d (fun _ => ?_) fun _ => ?_
      · walk_at "rd"
        refine r_ixL (SqL.of g2) rfl ?_
        walk_at "rd"
        refine r_setL g2 rfl ?_
        walk_at "rd"
        have eg : del r (del l (upd H2 r (.lst ([v0, v1, v2].set 1 v0)))) = del r (del l H2) := by
          rw [del_upd nrl, del_put]
        have dd : Same (del r (del l H2)) (del l (upd H2 r (.lst ([v0, v1, v2].set 1 v0)))) := by
          rw [← eg]
          exact del_same _ _
        refine q r v0 v0 v2 x0 x0 x2 _ (fun b o hb z => ?_) ?_ (.inl (.inl ?_)) (a0.same dd) (a0.same dd) (c0.same dd) a1 a1 c1
        · rw [upd_ne (ne_of_none z hr)]
          exact bt12 b o hb z
        · obtain ⟨ns, z⟩ := hl2
          exact ⟨ns, by rw [upd_ne (Ne.symm nrl)]; exact z⟩
        · rw [del_ne nrl, upd_same]
          rfl
      · walk_at "rd"
        exact q r v0 v1 v2 x0 x1 x2 _ bt12 hl2 (.inl (.inl (by rw [del_ne nrl]; exact g2))) (a0.same (del_same _ _)) (b0.same (del_same _ _)) (c0.same (del_same _ _)) a1 b1 c1
end K63
end
section
set_option Elab.async false
set_option linter.all false
set_option maxRecDepth 100000
set_option maxHeartbeats 4000000
/-! k63: the readings, the law's part, to the end -/
namespace K63
open PySem PySem.Spec PyProof.Rows L2 Nw
local macro_rules | `(tactic| walk_at "rd") => `(tactic| repeat' (first
  | with_reducible refine r_seq ?_ | with_reducible refine r_asg ?_ | with_reducible refine r_ret ?_ | with_reducible refine r_retN ?_ | with_reducible refine r_drop ?_ | with_reducible refine r_next ?_ | with_reducible refine r_brk ?_ | with_reducible refine r_cont ?_
  | ((with_reducible refine' r_var ?ev ?_); (case ev => rfl)) | with_reducible refine r_c ?_ | with_reducible refine r_op ?_ | with_reducible refine r_un ?_ | with_reducible refine r_ifS ?_ | with_reducible refine r_if ?_
  | with_reducible refine r_T ?_ | with_reducible refine r_isB ?_ | with_reducible refine r_and ?_ | with_reducible refine r_or ?_ | with_reducible refine r_not ?_ | with_reducible refine r_andV ?_ | with_reducible refine r_orV ?_ | with_reducible refine r_notV ?_
  | with_reducible refine r_nil ?_ | with_reducible refine r_cons ?_ | with_reducible refine r_lst ?_ | with_reducible refine r_tup ?_ | with_reducible refine r_ca ?_ | with_reducible refine r_cw ?_ | with_reducible refine r_cb ?_
  | with_reducible refine r_add ?_ | with_reducible refine r_sub ?_ | with_reducible refine r_neg ?_ | with_reducible refine r_lt ?_ | with_reducible refine r_le ?_ | with_reducible refine r_gt ?_ | with_reducible refine r_ge ?_ | with_reducible refine r_eqI ?_ | with_reducible refine r_neI ?_ | with_reducible refine r_eqB ?_ | with_reducible refine r_neB ?_
  | with_reducible refine r_isN ?_ | with_reducible refine r_notN ?_ | with_reducible refine r_min ?_ | with_reducible refine r_max ?_ | with_reducible refine r_int ?_ | with_reducible refine r_gcd ?_ | with_reducible refine r_for ?_ | with_reducible refine r_rg1 ?_ | with_reducible refine r_rg2 ?_ | with_reducible refine r_wlI ?_ | with_reducible refine r_wtI ?_ | with_reducible refine r_gN ?_ | with_reducible refine r_asgS ?_ | with_reducible refine r_bm0 ?_ | with_reducible refine r_bm ?_ | with_reducible refine r_lc ?_
  | with_reducible refine br_t ?_ | with_reducible refine br_f ?_ | with_reducible refine br_nt ?_ | with_reducible refine br_nf ?_))
local macro_rules | `(tactic| walk_at "rdt") => `(tactic| repeat' (first
  | with_reducible refine r_seq ?_ | with_reducible refine r_retN ?_ | with_reducible refine r_drop ?_ | with_reducible refine r_next ?_ | with_reducible refine r_brk ?_ | with_reducible refine r_cont ?_
  | ((with_reducible refine' r_var ?ev ?_); (case ev => rfl)) | with_reducible refine r_c ?_ | with_reducible refine r_op ?_ | with_reducible refine r_un ?_ | with_reducible refine r_ifS ?_ | with_reducible refine r_if ?_
  | with_reducible refine r_T ?_ | with_reducible refine r_isB ?_ | with_reducible refine r_and ?_ | with_reducible refine r_or ?_ | with_reducible refine r_not ?_ | with_reducible refine r_andV ?_ | with_reducible refine r_orV ?_ | with_reducible refine r_notV ?_
  | with_reducible refine r_nil ?_ | with_reducible refine r_cons ?_ | with_reducible refine r_lst ?_ | with_reducible refine r_tup ?_ | with_reducible refine r_ca ?_ | with_reducible refine r_cw ?_ | with_reducible refine r_cb ?_
  | with_reducible refine r_add ?_ | with_reducible refine r_sub ?_ | with_reducible refine r_neg ?_ | with_reducible refine r_lt ?_ | with_reducible refine r_le ?_ | with_reducible refine r_gt ?_ | with_reducible refine r_ge ?_ | with_reducible refine r_eqI ?_ | with_reducible refine r_neI ?_ | with_reducible refine r_eqB ?_ | with_reducible refine r_neB ?_
  | with_reducible refine r_isN ?_ | with_reducible refine r_notN ?_ | with_reducible refine r_min ?_ | with_reducible refine r_max ?_ | with_reducible refine r_int ?_ | with_reducible refine r_gcd ?_ | with_reducible refine r_for ?_ | with_reducible refine r_rg1 ?_ | with_reducible refine r_rg2 ?_ | with_reducible refine r_wlI ?_ | with_reducible refine r_wtI ?_ | with_reducible refine r_gN ?_ | with_reducible refine r_asgS ?_ | with_reducible refine r_bm0 ?_ | with_reducible refine r_bm ?_ | with_reducible refine r_lc ?_
  | with_reducible refine br_t ?_ | with_reducible refine br_f ?_ | with_reducible refine br_nt ?_ | with_reducible refine br_nf ?_))
local macro_rules | `(tactic| walk_at "rdq") => `(tactic| repeat' (first | ((with_reducible refine' r_var ?ev ?_); (case ev => rfl)) | with_reducible refine r_c ?_ | with_reducible refine r_T ?_ | with_reducible refine r_isB ?_ | with_reducible refine r_op ?_ | with_reducible refine r_eqI ?_ | with_reducible refine r_not ?_ | with_reducible refine br_t ?_ | with_reducible refine br_f ?_ | with_reducible refine br_nt ?_ | with_reducible refine br_nf ?_ | with_reducible refine r_next ?_))
local macro_rules | `(tactic| walk_at "rdv") => `(tactic| repeat' (first | ((with_reducible refine' r_var ?ev ?_); (case ev => rfl)) | with_reducible refine r_T ?_ | with_reducible refine r_isB ?_))
theorem bool_of {P : Prop} [Decidable P] {b : Bool} (h : b = true ↔ P) : decide P = b := by
  cases b with
  | true => exact decide_eq_true (h.mp rfl)
  | false => exact decide_eq_false fun z => nomatch h.mpr z
theorem bool_is {K : Frag} {b : Bool} {H : Hp} {Q : VK} (q : Q (.bl true) H) : rIsi K [.bl b, .ty "bool"] H Q := r_isi (.base (.bl b)) (by decide +kernel) q
theorem eqv3 (x y z : Int) : PyData.eqv (.list [.int x, .int y, .int z]) (.list [.int 0, .int 0, .int 0]) = decide (x = 0 ∧ y = 0 ∧ z = 0) := by
  simp [PyData.eqv, PyData.eqvAll]
  by_cases a : x = 0 <;> by_cases b : y = 0 <;> by_cases c : z = 0 <;> simp [a, b, c]
theorem r_eq3 {K : Frag} {a b : Addr} {x y z : Int} {H : Hp} {Q : VK} (ha : SqL K H a [.int x, .int y, .int z]) (hb : SqL K H b [.int 0, .int 0, .int 0]) (q : Q (.bl (decide (x = 0 ∧ y = 0 ∧ z = 0))) H) : rEqD K (.ref a) (.ref b) H Q :=
  ⟨_, _, .lst ha (.cons (.int x) (.cons (.int y) (.cons (.int z) .nil))), .lst hb (.cons (.int 0) (.cons (.int 0) (.cons (.int 0) .nil))), rfl, rfl, by rw [eqv3]; exact q⟩
theorem Wt_two {a b c : Nat} (h : ¬ (a = 0 ∧ b = 0 ∧ c = 0)) : 2 ≤ Wt (some (a, b, c)) := by
  show 2 ≤ P a b c
  have pos := P_pos a b c
  by_cases ha : a = 0
  · by_cases hb : b = 0
    · have d : P 0 0 1 ∣ P a b c := P_dvd.mpr ⟨by omega, by omega, by omega⟩
      exact Nat.le_trans (by decide) (Nat.le_of_dvd pos d)
    · have d : P 0 1 0 ∣ P a b c := P_dvd.mpr ⟨by omega, by omega, by omega⟩
      exact Nat.le_trans (by decide) (Nat.le_of_dvd pos d)
  · have d : P 1 0 0 ∣ P a b c := P_dvd.mpr ⟨by omega, by omega, by omega⟩
    exact Nat.le_trans (by decide) (Nat.le_of_dvd pos d)
def t_pair_tail (K : PySem.W.Frag) : TS := (tSeq (tAsg (tCa (sp_loop_sums K) E0 (tCons (tOp (rIx K) (tVar 1) (tC (.int 1))) (tCons (tCB (rcList K) (tCons (tOp (rIx K) (tVar 2) (tC (.int 1))) tNil)) (tCons (tCa (sp__law_worth K) E0 (tCons (tVar 6) tNil)) tNil)))) (gName 7))
    (tSeq (tIfS (tOr (tT (tOp rNe (tVar 7) (tCa (sp__law_goes_mod K) E0 (tCons (tOp (rIx K) (tVar 1) (tC (.int 0))) (tCons (tOp (rIx K) (tVar 2) (tC (.int 0))) (tCons (tVar 6) tNil)))))) (tOr (tNot (tT (tCB (rIsi K) (tCons (tVar 7) (tCons (tC (.ty "bool")) tNil))))) (tAnd (tT (tVar 3)) (tNot (tT (tVar 7))))))
    (tRet (tC (.bl false)))
    tNext)
    (tSeq (tIfS (tAnd (tT (tVar 3)) (tNot (tT (tCa (sp__law_hours_go_on K) E0 (tCons (tOp (rIx K) (tVar 1) (tC (.int 0))) (tCons (tOp (rIx K) (tVar 2) (tC (.int 0))) tNil))))))
    (tRet (tC (.bl false)))
    tNext)
    (tSeq (tAsg (tAndV (tOp nGt (tOp (rIx K) (tOp (rIx K) (tVar 2) (tC (.int 1))) (tC (.int 0))) (tC (.int 0))) (tOp rEq (tOp nMod (tCB rcInt (tCons (tOp (rIx K) (tOp (rIx K) (tVar 1) (tC (.int 1))) (tC (.int 0))) tNil)) (tOp (rIx K) (tOp (rIx K) (tVar 2) (tC (.int 1))) (tC (.int 0)))) (tC (.int 0)))) (gName 8))
    (tSeq (tIfS (tAnd (tOr (tT (tOp rEq (tOp (rIx K) (tOp (rIx K) (tVar 1) (tC (.int 1))) (tC (.int 0))) (tC (.int 0)))) (tT (tVar 8))) (tT (tCa (sp__law_hours_go_on K) E0 (tCons (tOp (rIx K) (tVar 1) (tC (.int 0))) (tCons (tOp (rIx K) (tVar 2) (tC (.int 0))) tNil)))))
    (tRet (tVar 3))
    tNext)
    (tRet (tC (.bl true))))))))
theorem hgo_ {K : Frag} {v w : V} {p r : Pw × Pw} {H : Hp} {Q : VK} {E : XK} (hp : RRow K H v p) (hr : RRow K H w r) (q : ∀ b : Bool, (b = true ↔ hgo p r) → Q (.bl b) H) : sp__law_hours_go_on K [v, w] H Q E := ⟨v, w, p, r, rfl, hp, hr, q⟩
theorem Wt_zero {p : Pw} : Wt p = 0 ↔ p = none := by
  cases p with
  | none => simp [Wt]
  | some x =>
    obtain ⟨a, b, c⟩ := x
    have := P_pos a b c
    simp only [Wt, reduceCtorEq, iff_false]
    omega
theorem rd_pair_tail {K : Frag} {l l1 t1 l2 t2 l6 : Addr} {u1 u2 : V} {x y : Kind} {h : Nat × Nat × Nat} {c4 c5 c7 c8 : Option V} {H H6 : Hp} {Q : VK} {E : XK} (ox : x.ok) (oy : y.ok) (hl : Held l H6) (bt : Bt l H H6)
    (L1 : SqL K (del l H6) l1 [u1, .ref t1]) (R1 : RRow K (del l H6) u1 x.p) (T1 : SqT K (del l H6) t1 [.int ((Wt x.p.1 : Nat) : Int), .int x.s])
    (L2 : SqL K (del l H6) l2 [u2, .ref t2]) (R2 : RRow K (del l H6) u2 y.p) (T2 : SqT K (del l H6) t2 [.int ((Wt y.p.1 : Nat) : Int), .int y.s])
    (hh : RPw K (del l H6) (.ref l6) (some h)) (hB : B1 (some h)) (hW : 2 ≤ Wt (some h)) (k : ∀ H', Bt l H H' → Held l H' → Q (.bl true) H') :
    t_pair_tail K { nx := fun _ H' => Q .non H', rt := Q } [some (.ref l), some (.ref l1), some (.ref l2), some (.bl (goes x.p y.p)), c4, c5, some (.ref l6), c7, c8] H6 := by
  unfold t_pair_tail
  have d0 := del_same l H6
  have lx1 := ox.1.lq
  have lx2 := ox.2.1.lq
  have ly1 := oy.1.lq
  have ly2 := oy.2.1.lq
  walk_at "rd"
  refine r_ixL (d0.seq L1) rfl ?_
  walk_at "rd"
  refine r_ixL (d0.seq L2) rfl ?_
  walk_at "rd"
  refine r_list (.inr (Same.seqT d0 T2)) fun q hq => ?_
  walk_at "rd"
  have s7 := same_new (o := .lst [.int ((Wt y.p.1 : Nat) : Int), .int y.s]) hq
  have d7 := d0.trans s7
  refine worth (hh.same d7) hB.b2 ?_
  walk_at "rd"
  refine ⟨_, _, _, rfl, .inl ⟨Wt x.p.1, x.s, Wt y.p.1, y.s, Wt (some h), ⟨t1, rfl, .inr (Same.seqT d7 T1)⟩, ⟨q, rfl, .inl (SqL.of upd_same)⟩, ox.fit, oy.fit, rfl, hW, Wt_B1 hB, fun H8 s8 => ?_⟩⟩
  have s68 := s7.trans s8
  have d8 := d0.trans s68
  have bt8 := bt.trans (Bt.of s68)
  have hl8 := hl.same s68
  have eg : decide (gv (Wt x.p.1) x.s.natAbs (Nat.gcd (Wt y.p.1) (Wt (some h))) y.s.natAbs) = goes x.p (cap (some h) y.p.1, y.p.2) := by
    refine bool_of ?_
    have lc : Lo (cap (some h) y.p.1) := by
      obtain ⟨a, b, c⟩ := h
      obtain ⟨b1, b2, b3⟩ := hB
      refine ⟨?_, ?_, ?_⟩
      · show min a (pe y.p.1 0) < 99; omega
      · show min b (pe y.p.1 1) < 99; omega
      · show min c (pe y.p.1 2) < 99; omega
    rw [goes_iff (r := (cap (some h) y.p.1, y.p.2)) lx1.lo lx2.lo lc ly2.lo]
    show gv (Wt x.p.1) (Wt x.p.2) (Wt (cap (some h) y.p.1)) (Wt y.p.2) ↔ _
    rw [Wt_cap hB.lq.lo, ox.2.2, oy.2.2]
  rw [eg]
  walk_at "rd"
  refine r_ixL (d8.seq L1) rfl ?_
  walk_at "rd"
  refine r_ixL (d8.seq L2) rfl ?_
  walk_at "rd"
  refine ⟨_, _, _, x.p, y.p, h, rfl, R1.same d8, R2.same d8, hh.same d8, fun H9 s9 => ?_⟩
  have s69 := s68.trans s9
  have d9 := d0.trans s69
  have bt9 := bt8.trans (Bt.of s9)
  have hl9 := hl8.same s9
  walk_at "rd"
  refine br_nd (fun c => absurd rfl c) fun _ => ?_
  walk_at "rd"
  refine bool_is ?_
  walk_at "rd"
  -- what gives goes on
  have fin : (tSeq (tIfS (tAnd (tT (tVar 3)) (tNot (tT (tCa (sp__law_hours_go_on K) E0 (tCons (tOp (rIx K) (tVar 1) (tC (.int 0))) (tCons (tOp (rIx K) (tVar 2) (tC (.int 0))) tNil))))))
    (tRet (tC (.bl false)))
    tNext)
    (tSeq (tAsg (tAndV (tOp nGt (tOp (rIx K) (tOp (rIx K) (tVar 2) (tC (.int 1))) (tC (.int 0))) (tC (.int 0))) (tOp rEq (tOp nMod (tCB rcInt (tCons (tOp (rIx K) (tOp (rIx K) (tVar 1) (tC (.int 1))) (tC (.int 0))) tNil)) (tOp (rIx K) (tOp (rIx K) (tVar 2) (tC (.int 1))) (tC (.int 0)))) (tC (.int 0)))) (gName 8))
    (tSeq (tIfS (tAnd (tOr (tT (tOp rEq (tOp (rIx K) (tOp (rIx K) (tVar 1) (tC (.int 1))) (tC (.int 0))) (tC (.int 0)))) (tT (tVar 8))) (tT (tCa (sp__law_hours_go_on K) E0 (tCons (tOp (rIx K) (tVar 1) (tC (.int 0))) (tCons (tOp (rIx K) (tVar 2) (tC (.int 0))) tNil)))))
    (tRet (tVar 3))
    tNext)
    (tRet (tC (.bl true)))))) { nx := fun _ H' => Q .non H', rt := Q } [some (.ref l), some (.ref l1), some (.ref l2), some (.bl (goes x.p y.p)), c4, c5, some (.ref l6), some (.bl (goes x.p (cap (some h) y.p.1, y.p.2))), c8] H9 := by
    have last : (tSeq (tAsg (tAndV (tOp nGt (tOp (rIx K) (tOp (rIx K) (tVar 2) (tC (.int 1))) (tC (.int 0))) (tC (.int 0))) (tOp rEq (tOp nMod (tCB rcInt (tCons (tOp (rIx K) (tOp (rIx K) (tVar 1) (tC (.int 1))) (tC (.int 0))) tNil)) (tOp (rIx K) (tOp (rIx K) (tVar 2) (tC (.int 1))) (tC (.int 0)))) (tC (.int 0)))) (gName 8))
      (tSeq (tIfS (tAnd (tOr (tT (tOp rEq (tOp (rIx K) (tOp (rIx K) (tVar 1) (tC (.int 1))) (tC (.int 0))) (tC (.int 0)))) (tT (tVar 8))) (tT (tCa (sp__law_hours_go_on K) E0 (tCons (tOp (rIx K) (tVar 1) (tC (.int 0))) (tCons (tOp (rIx K) (tVar 2) (tC (.int 0))) tNil)))))
      (tRet (tVar 3))
      tNext)
      (tRet (tC (.bl true))))) { nx := fun _ H' => Q .non H', rt := Q } [some (.ref l), some (.ref l1), some (.ref l2), some (.bl (goes x.p y.p)), c4, c5, some (.ref l6), some (.bl (goes x.p (cap (some h) y.p.1, y.p.2))), c8] H9 := by
      -- the end, from within on
      have tail : ∀ b8 : Bool, (b8 = true → y.p.1 ≠ none ∧ Wt y.p.1 ∣ Wt x.p.1) → (tSeq (tIfS (tAnd (tOr (tT (tOp rEq (tOp (rIx K) (tOp (rIx K) (tVar 1) (tC (.int 1))) (tC (.int 0))) (tC (.int 0)))) (tT (tVar 8))) (tT (tCa (sp__law_hours_go_on K) E0 (tCons (tOp (rIx K) (tVar 1) (tC (.int 0))) (tCons (tOp (rIx K) (tVar 2) (tC (.int 0))) tNil)))))
          (tRet (tVar 3))
          tNext)
          (tRet (tC (.bl true)))) { nx := fun _ H' => Q .non H', rt := Q } [some (.ref l), some (.ref l1), some (.ref l2), some (.bl (goes x.p y.p)), c4, c5, some (.ref l6), some (.bl (goes x.p (cap (some h) y.p.1, y.p.2))), some (.bl b8)] H9 := by
        intro b8 hb8
        have qh : ∀ QB : Bool → Hp → Prop, (∀ b, (b = true ↔ hgo x.p y.p) → QB b H9) → (tT (tCa (sp__law_hours_go_on K) E0 (tCons (tOp (rIx K) (tVar 1) (tC (.int 0))) (tCons (tOp (rIx K) (tVar 2) (tC (.int 0))) tNil)))) [some (.ref l), some (.ref l1), some (.ref l2), some (.bl (goes x.p y.p)), c4, c5, some (.ref l6), some (.bl (goes x.p (cap (some h) y.p.1, y.p.2))), some (.bl b8)] H9 QB := by
          intro QB hQ
          walk_at "rd"
          refine r_ixL (d9.seq L1) rfl ?_
          walk_at "rd"
          refine r_ixL (d9.seq L2) rfl ?_
          walk_at "rd"
          refine hgo_ (R1.same d9) (R2.same d9) fun b2 hb2 => ?_
          walk_at "rdv"
          exact hQ b2 hb2
        walk_at "rd"
        refine r_ixL (d9.seq L1) rfl ?_
        walk_at "rd"
        refine r_ixT (Same.seqT d9 T1) rfl ?_
        walk_at "rd"
        refine br_d (fun c => ?_) fun c => ?_
        · refine br_t ?_
          refine qh _ fun b2 hb2 => ?_
          refine br_b (fun c2 => ?_) fun c2 => ?_
          · walk_at "rd"
            rw [hgo_goes lx1 lx2 ly1 ly2 (.inl (Wt_zero.mp (by omega))) (hb2.mp c2)]
            exact k _ bt9 hl9
          · walk_at "rd"
            exact k _ bt9 hl9
        · walk_at "rdv"
          refine br_b (fun c8 => ?_) fun c8 => ?_
          · refine qh _ fun b2 hb2 => ?_
            refine br_b (fun c2 => ?_) fun c2 => ?_
            · walk_at "rd"
              rw [hgo_goes lx1 lx2 ly1 ly2 (.inr (hb8 c8)) (hb2.mp c2)]
              exact k _ bt9 hl9
            · walk_at "rd"
              exact k _ bt9 hl9
          · walk_at "rd"
            exact k _ bt9 hl9
      walk_at "rd"
      refine r_ixL (d9.seq L2) rfl ?_
      walk_at "rd"
      refine r_ixT (Same.seqT d9 T2) rfl ?_
      walk_at "rd"
      refine br_d (fun c => ?_) fun c => ?_
      · walk_at "rd"
        refine r_ixL (d9.seq L1) rfl ?_
        walk_at "rd"
        refine r_ixT (Same.seqT d9 T1) rfl ?_
        walk_at "rd"
        refine r_ixL (d9.seq L2) rfl ?_
        walk_at "rd"
        refine r_ixT (Same.seqT d9 T2) rfl ?_
        walk_at "rd"
        refine r_mod c ?_
        walk_at "rdq"
        refine tail _ fun z => ⟨fun z2 => ?_, ?_⟩
        · rw [z2] at c
          exact absurd c (by decide)
        · have := of_decide_eq_true z
          exact Int.natCast_dvd_natCast.mp (Int.dvd_of_emod_eq_zero this)
      · exact tail false fun z => nomatch z
    walk_at "rdt"
    refine br_b (fun c => ?_) fun c => ?_
    · walk_at "rd"
      refine r_ixL (d9.seq L1) rfl ?_
      walk_at "rd"
      refine r_ixL (d9.seq L2) rfl ?_
      walk_at "rd"
      refine hgo_ (R1.same d9) (R2.same d9) fun b2 hb2 => ?_
      have e2 : b2 = true := hb2.mpr (goes_hgo lx1 lx2 ly1 ly2 c)
      subst e2
      walk_at "rdq"
      exact last
    · exact last
  refine br_b (fun c => ?_) fun c => ?_
  · walk_at "rdq"
    have e : goes x.p (cap (some h) y.p.1, y.p.2) = true := goes_cap lx1.lo lx2.lo ly2.lo c
    refine br_nb (fun z => ?_) fun _ => ?_
    · rw [e] at z; cases z
    · exact fin
  · exact fin
end K63
end
section
set_option Elab.async false
set_option linter.all false
set_option maxRecDepth 100000
set_option maxHeartbeats 4000000
/-! k63: the readings, the last -/
namespace K63
open PySem PySem.Spec PyProof.Rows L2 Nw
local macro_rules | `(tactic| walk_at "rd") => `(tactic| repeat' (first
  | with_reducible refine r_seq ?_ | with_reducible refine r_asg ?_ | with_reducible refine r_ret ?_ | with_reducible refine r_retN ?_ | with_reducible refine r_drop ?_ | with_reducible refine r_next ?_ | with_reducible refine r_brk ?_ | with_reducible refine r_cont ?_
  | ((with_reducible refine' r_var ?ev ?_); (case ev => rfl)) | with_reducible refine r_c ?_ | with_reducible refine r_op ?_ | with_reducible refine r_un ?_ | with_reducible refine r_ifS ?_ | with_reducible refine r_if ?_
  | with_reducible refine r_T ?_ | with_reducible refine r_isB ?_ | with_reducible refine r_and ?_ | with_reducible refine r_or ?_ | with_reducible refine r_not ?_ | with_reducible refine r_andV ?_ | with_reducible refine r_orV ?_ | with_reducible refine r_notV ?_
  | with_reducible refine r_nil ?_ | with_reducible refine r_cons ?_ | with_reducible refine r_lst ?_ | with_reducible refine r_tup ?_ | with_reducible refine r_ca ?_ | with_reducible refine r_cw ?_ | with_reducible refine r_cb ?_
  | with_reducible refine r_add ?_ | with_reducible refine r_sub ?_ | with_reducible refine r_neg ?_ | with_reducible refine r_lt ?_ | with_reducible refine r_le ?_ | with_reducible refine r_gt ?_ | with_reducible refine r_ge ?_ | with_reducible refine r_eqI ?_ | with_reducible refine r_neI ?_ | with_reducible refine r_eqB ?_ | with_reducible refine r_neB ?_
  | with_reducible refine r_isN ?_ | with_reducible refine r_notN ?_ | with_reducible refine r_min ?_ | with_reducible refine r_max ?_ | with_reducible refine r_int ?_ | with_reducible refine r_gcd ?_ | with_reducible refine r_for ?_ | with_reducible refine r_rg1 ?_ | with_reducible refine r_rg2 ?_ | with_reducible refine r_wlI ?_ | with_reducible refine r_wtI ?_ | with_reducible refine r_gN ?_ | with_reducible refine r_asgS ?_ | with_reducible refine r_bm0 ?_ | with_reducible refine r_bm ?_ | with_reducible refine r_lc ?_
  | with_reducible refine br_t ?_ | with_reducible refine br_f ?_ | with_reducible refine br_nt ?_ | with_reducible refine br_nf ?_))
local macro_rules | `(tactic| walk_at "rdt") => `(tactic| repeat' (first
  | with_reducible refine r_seq ?_ | with_reducible refine r_retN ?_ | with_reducible refine r_drop ?_ | with_reducible refine r_next ?_ | with_reducible refine r_brk ?_ | with_reducible refine r_cont ?_
  | ((with_reducible refine' r_var ?ev ?_); (case ev => rfl)) | with_reducible refine r_c ?_ | with_reducible refine r_op ?_ | with_reducible refine r_un ?_ | with_reducible refine r_ifS ?_ | with_reducible refine r_if ?_
  | with_reducible refine r_T ?_ | with_reducible refine r_isB ?_ | with_reducible refine r_and ?_ | with_reducible refine r_or ?_ | with_reducible refine r_not ?_ | with_reducible refine r_andV ?_ | with_reducible refine r_orV ?_ | with_reducible refine r_notV ?_
  | with_reducible refine r_nil ?_ | with_reducible refine r_cons ?_ | with_reducible refine r_lst ?_ | with_reducible refine r_tup ?_ | with_reducible refine r_ca ?_ | with_reducible refine r_cw ?_ | with_reducible refine r_cb ?_
  | with_reducible refine r_add ?_ | with_reducible refine r_sub ?_ | with_reducible refine r_neg ?_ | with_reducible refine r_lt ?_ | with_reducible refine r_le ?_ | with_reducible refine r_gt ?_ | with_reducible refine r_ge ?_ | with_reducible refine r_eqI ?_ | with_reducible refine r_neI ?_ | with_reducible refine r_eqB ?_ | with_reducible refine r_neB ?_
  | with_reducible refine r_isN ?_ | with_reducible refine r_notN ?_ | with_reducible refine r_min ?_ | with_reducible refine r_max ?_ | with_reducible refine r_int ?_ | with_reducible refine r_gcd ?_ | with_reducible refine r_for ?_ | with_reducible refine r_rg1 ?_ | with_reducible refine r_rg2 ?_ | with_reducible refine r_wlI ?_ | with_reducible refine r_wtI ?_ | with_reducible refine r_gN ?_ | with_reducible refine r_asgS ?_ | with_reducible refine r_bm0 ?_ | with_reducible refine r_bm ?_ | with_reducible refine r_lc ?_
  | with_reducible refine br_t ?_ | with_reducible refine br_f ?_ | with_reducible refine br_nt ?_ | with_reducible refine br_nf ?_))
local macro_rules | `(tactic| walk_at "rdq") => `(tactic| repeat' (first | ((with_reducible refine' r_var ?ev ?_); (case ev => rfl)) | with_reducible refine r_c ?_ | with_reducible refine r_T ?_ | with_reducible refine r_isB ?_ | with_reducible refine r_op ?_ | with_reducible refine r_eqI ?_ | with_reducible refine r_not ?_ | with_reducible refine br_t ?_ | with_reducible refine br_f ?_ | with_reducible refine br_nt ?_ | with_reducible refine br_nf ?_ | with_reducible refine r_next ?_))
local macro_rules | `(tactic| walk_at "rdv") => `(tactic| repeat' (first | ((with_reducible refine' r_var ?ev ?_); (case ev => rfl)) | with_reducible refine r_T ?_ | with_reducible refine r_isB ?_))
theorem rd__law_pair {K : Frag} (vs : List V) (H : Hp) (Q : VK) (E : XK) (h : sp__law_pair K vs H Q E) : t__law_pair K { nx := fun _ H' => Q .non H', rt := Q } (start ["_law_found", "_law_one", "_law_other", "_law_gives", "_law_due", "_law_drawn_here", "_law_powers_here", "_law_sums", "_law_within"] vs) H := by
  obtain ⟨l, v, w, x, y, rfl, hl, ⟨l1, u1, t1, rfl, L1, R1, T1⟩, ⟨l2, u2, t2, rfl, L2, R2, T2⟩, ox, oy, k⟩ := h
  unfold t__law_pair
  have d0 := del_same l H
  have lx1 := ox.1.lq
  have lx2 := ox.2.1.lq
  have ly1 := oy.1.lq
  have ly2 := oy.2.1.lq
  walk_at "rd"
  refine r_ixL (d0.seq L1) rfl ?_
  walk_at "rd"
  refine r_list (.inr (Same.seqT d0 T1)) fun a ha => ?_
  walk_at "rd"
  have s1 := same_new (o := .lst [.int ((Wt x.p.1 : Nat) : Int), .int x.s]) ha
  have d1 := d0.trans s1
  refine r_ixL (d1.seq L2) rfl ?_
  walk_at "rd"
  refine ⟨_, _, rfl, .inl ⟨Wt x.p.1, x.s, Wt y.p.1, y.s, ⟨a, rfl, .inl (SqL.of upd_same)⟩, ⟨t2, rfl, .inr (Same.seqT d1 T2)⟩, ox.fit, oy.fit, fun H2 s2 => ?_⟩⟩
  have eg : decide (gv (Wt x.p.1) x.s.natAbs (Wt y.p.1) y.s.natAbs) = goes x.p y.p := by
    refine bool_of ?_
    rw [goes_iff lx1.lo lx2.lo ly1.lo ly2.lo, ox.2.2, oy.2.2]
  rw [eg]
  have s02 := s1.trans s2
  have d2 := d0.trans s02
  walk_at "rd"
  refine r_ixL (d2.seq L1) rfl ?_
  walk_at "rd"
  refine r_ixL (d2.seq L2) rfl ?_
  walk_at "rd"
  refine goes_ (R1.same d2) (R2.same d2) fun H3 s3 => ?_
  have s03 := s02.trans s3
  have hl3 := hl.same s03
  have g3 : Same (del l H) (del l H3) := s03.dl
  walk_at "rd"
  refine br_nd (fun c => absurd rfl c) fun _ => ?_
  walk_at "rd"
  refine bool_is ?_
  walk_at "rd"
  refine powers hl3 fun p5 v5 H4 hp5 B5 bt4 hl4 fr4 P5 => ?_
  have g4 : Same (del l H) (del l H4) := g3.trans bt4.del
  have bt04 : Bt l H H4 := (Bt.of s03).trans bt4
  have d4 := del_same l H4
  walk_at "rd"
  cases p5 with
  | none => exact absurd rfl (hp5 (by decide))
  | some z =>
    obtain ⟨xa, xb, xc⟩ := z
    obtain ⟨l5, rfl, S5⟩ := P5
    refine r_ixL (d4.seq S5) rfl ?_
    walk_at "rd"
    refine r_ixL (d4.seq S5) rfl ?_
    walk_at "rd"
    refine r_ixL (d4.seq S5) rfl ?_
    walk_at "rd"
    have e9 := min_int xa 9
    have e5 := min_int xb 5
    have e3 := min_int xc 3
    refine r_nL (by show 3 ≤ sizeLine; decide) fun q hq => ?_
    have e9' : (if (9 : Int) < (xa : Int) then 9 else (xa : Int)) = ((min xa 9 : Nat) : Int) := e9
    have e5' : (if (5 : Int) < (xb : Int) then 5 else (xb : Int)) = ((min xb 5 : Nat) : Int) := e5
    have e3' : (if (3 : Int) < (xc : Int) then 3 else (xc : Int)) = ((min xc 3 : Nat) : Int) := e3
    rw [e9', e5', e3']
    obtain ⟨z1, z2, z3⟩ := new_list (K := K) (xs := [.int ((min xa 9 : Nat) : Int), .int ((min xb 5 : Nat) : Int), .int ((min xc 3 : Nat) : Int)]) hl4 hq
    have g5 : Same (del l H) (del l (upd H4 q (.lst [.int ((min xa 9 : Nat) : Int), .int ((min xb 5 : Nat) : Int), .int ((min xc 3 : Nat) : Int)]))) := g4.trans z2.del
    have bt05 := bt04.trans z2
    generalize upd H4 q (.lst [.int ((min xa 9 : Nat) : Int), .int ((min xb 5 : Nat) : Int), .int ((min xc 3 : Nat) : Int)]) = H5 at *
    walk_at "rd"
    refine r_nL (by show 3 ≤ sizeLine; decide) fun q0 hq0 => ?_
    walk_at "rd"
    have s6 := same_new (o := .lst [.int 0, .int 0, .int 0]) hq0
    have e0 : upd H5 q0 (.lst [.int 0, .int 0, .int 0]) q0 = some (.lst [.int 0, .int 0, .int 0]) := upd_same
    have g6 : Same (del l H) (del l (upd H5 q0 (.lst [.int 0, .int 0, .int 0]))) := g5.trans s6.dl
    have bt06 := bt05.trans (Bt.of s6)
    have hl6 := z3.same s6
    have z6 := Same.seq (s6.dl (l := l)) z1
    generalize upd H5 q0 (.lst [.int 0, .int 0, .int 0]) = H6 at *
    refine r_eq3 ((del_same l H6).seq z6) (SqL.of e0) ?_
    refine r_isB ?_
    refine br_d (fun c => ?_) fun c => ?_
    · refine r_asg ?_
      walk_at "rdt"
      refine r_nL (by show 3 ≤ sizeLine; decide) fun q1 hq1 => ?_
      obtain ⟨w1, w2, w3⟩ := new_list (K := K) (xs := [.int ((1 : Nat) : Int), .int ((0 : Nat) : Int), .int ((1 : Nat) : Int)]) hl6 hq1
      have g7 := g6.trans w2.del
      exact rd_pair_tail (h := (1, 0, 1)) (E := E) ox oy w3 (bt06.trans w2) (g7.seq L1) (R1.same g7) (Same.seqT g7 T1) (g7.seq L2) (R2.same g7) (Same.seqT g7 T2) ⟨q1, rfl, w1⟩ ⟨by decide, by decide, by decide⟩ (by decide) k
    · refine r_next ?_
      exact rd_pair_tail (h := (min xa 9, min xb 5, min xc 3)) (E := E) ox oy hl6 bt06 (g6.seq L1) (R1.same g6) (Same.seqT g6 T1) (g6.seq L2) (R2.same g6) (Same.seqT g6 T2) ⟨q, rfl, z6⟩ ⟨Nat.min_le_right _ _, Nat.min_le_right _ _, Nat.min_le_right _ _⟩ (Wt_two fun z => c (by omega)) k
theorem gives_ {K : Frag} {v w : V} {k1 k2 : Nat} {s1 s2 : Int} {H : Hp} {Q : VK} {E : XK} (K1 : Kd K H v k1 s1) (K2 : Kd K H w k2 s2) (F1 : Fit k1 s1) (F2 : Fit k2 s2) (q : Back (.bl (decide (gv k1 s1.natAbs k2 s2.natAbs))) H Q) : sp_loop_gives K [v, w] H Q E := ⟨v, w, rfl, .inl ⟨k1, s1, k2, s2, K1, K2, F1, F2, q⟩⟩
theorem alone_ {K : Frag} {v : V} {k1 : Nat} {s1 : Int} {H : Hp} {Q : VK} {E : XK} (K1 : Kd K H v k1 s1) (q : Back (.bl (decide (k1 ∣ s1.natAbs))) H Q) : sp_alone K [v] H Q E := ⟨v, rfl, .inl ⟨k1, s1, K1, q⟩⟩
theorem Kd.lst {K : Frag} {H : Hp} {a : Addr} {k : Nat} {s : Int} : Kd K (upd H a (.lst [.int (k : Int), .int s])) (.ref a) k s := ⟨a, rfl, .inl (SqL.of upd_same)⟩
theorem Kd.tup {K : Frag} {H : Hp} {a : Addr} {i s : Int} {k : Nat} (h : i = (k : Int)) : Kd K (upd H a (.tup [.int i, .int s])) (.ref a) k s := ⟨a, rfl, .inr (.inl (.inl (by rw [← h]; exact upd_same)))⟩
theorem fit_small (k : Nat) (s : Int) (h : k < 10) (h2 : s.natAbs < 10) : Fit k s := ⟨by omega, by omega⟩
theorem rd__law_ends {K : Frag} (vs : List V) (H : Hp) (Q : VK) (E : XK) (h : sp__law_ends K vs H Q E) : t__law_ends K { nx := fun _ H' => Q .non H', rt := Q } (start ["_law_kind"] vs) H := by
  obtain ⟨v, k, s, rfl, ⟨a, rfl, hs⟩, F, q⟩ := h
  unfold t__law_ends
  walk_at "rd"
  refine r_list hs fun b hb => ?_
  walk_at "rd"
  refine alone_ Kd.lst fun H1 s1 => ?_
  have e1 := (same_new (o := .lst [.int (k : Int), .int s]) hb).trans s1
  walk_at "rd"
  refine r_nT (by show 2 ≤ sizeLine; decide) fun t ht => ?_
  walk_at "rd"
  have e2 := e1.trans (same_new (o := .tup [.int 1, .int 0]) ht)
  refine gives_ (k1 := 1) (s1 := 0) (Kd.tup rfl) ⟨a, rfl, Same.sq e2 hs⟩ (fit_small _ _ (by decide) (by decide)) F fun H2 s2 => ?_
  have e3 := e2.trans s2
  have q1 : decide (k ∣ s.natAbs) = decide (gv 1 (0 : Int).natAbs k s.natAbs) := by
    rw [decide_eq_decide]
    exact (gv_first k s.natAbs).symm
  walk_at "rd"
  refine br_nd (fun c => absurd q1 c) fun _ => ?_
  walk_at "rd"
  refine r_nT (by show 2 ≤ sizeLine; decide) fun t2 ht2 => ?_
  walk_at "rd"
  have e4 := e3.trans (same_new (o := .tup [.int 0, .int 1]) ht2)
  refine gives_ (k1 := 0) (s1 := 1) (Kd.tup rfl) ⟨a, rfl, Same.sq e4 hs⟩ (fit_small _ _ (by decide) (by decide)) F fun H3 s3 => ?_
  have e5 := e4.trans s3
  rw [decide_eq_true (show gv 0 (1 : Int).natAbs k s.natAbs from gv_last _ _)]
  walk_at "rd"
  refine gives_ ⟨a, rfl, Same.sq e5 hs⟩ ⟨a, rfl, Same.sq e5 hs⟩ F F fun H4 s4 => ?_
  have e6 := e5.trans s4
  rw [decide_eq_true (gv_self k s.natAbs)]
  walk_at "rd"
  refine r_nT (by show 2 ≤ sizeLine; decide) fun t3 ht3 => ?_
  walk_at "rd"
  have e7 := e6.trans (same_new (o := .tup [.int 0, .int 0]) ht3)
  refine gives_ (k1 := 0) (s1 := 0) (Kd.tup rfl) ⟨a, rfl, Same.sq e7 hs⟩ (fit_small _ _ (by decide) (by decide)) F fun H5 s5 => ?_
  have e8 := e7.trans s5
  walk_at "rd"
  refine alone_ ⟨a, rfl, Same.sq e8 hs⟩ fun H6 s6 => ?_
  have e9 := e8.trans s6
  walk_at "rd"
  refine br_d (fun _ => ?_) fun c => ?_
  · exact q _ e9
  · walk_at "rd"
    refine r_ix (Same.sq e9 hs) rfl ?_
    walk_at "rd"
    have k0 : k = 0 := by
      refine Decidable.byContradiction fun z => c ?_
      rw [decide_eq_decide]
      exact gv_zero z
    rw [decide_eq_true (show (k : Int) = 0 by omega)]
    exact q _ e9
theorem rd__law_told_row {K : Frag} (xm : PySem.W.exmOne K (.ref (He.ga K "BadRow")) (.ref (He.ga K "BadRow")) = some true) (vs : List V) (H : Hp) (Q : VK) (E : XK) (h : sp__law_told_row K vs H Q E) : t__law_told_row K { nx := fun _ H' => Q .non H', rt := Q } (start ["_law_function", "_law_one", "_law_other", "_law_place", "error"] vs) H := by
  obtain ⟨f, v, w, rfl, hf, h⟩ := h
  unfold t__law_told_row
  walk_at "rd"
  -- what the suite does
  have caught : ∀ (i : Int) (D : Ends), (∀ H', Same H H' → D.nx [some (.int f), some v, some w, some (.int i), none] H') → RaisesRow K i H (fun c d H2 => wAs K (.ref (He.ga K "BadRow")) 4 (fun a cls d => (tAsg (tByE (He.ga K "BadRow") "place" a cls d (tVar 4)) (gName 3))) (fun _ _ _ _ => False) D c d [some (.int f), some v, some w, some (.str "none"), none] H2) := by
    intro i D hD H' d s hd
    refine ⟨true, xm, fun _ a ha => ?_, fun z => nomatch z⟩
    refine r_asg ?_
    show tVar 4 _ _ _
    refine r_var rfl ?_
    refine ⟨rfl, rfl, d, _, .int i, rfl, upd_same, rfl, ?_⟩
    exact hD _ (s.trans (same_new hd))
  have done : ∀ (D : Ends), (∀ H', Same H H' → D.nx [some (.int f), some v, some w, some (.str "none"), none] H') → ∀ (x : V) (H1 : Hp), Same H H1 → D.nx [some (.int f), some v, some w, some (.str "none"), none] H1 := fun D hD x H1 s => hD H1 s
  rcases h with ⟨hb, q⟩ | ⟨⟨k1, s1, K1⟩, hf2, hb, q⟩ | ⟨⟨k1, s1, K1⟩, hf2, q⟩
  · have fin : ∀ H', Same H H' → (tRet (tVar 3)) { nx := fun _ H' => Q .non H', rt := Q } [some (.int f), some v, some w, some (.int 0), none] H' := fun H' s => by
      walk_at "rd"
      exact q H' s
    refine br_d (fun _ => ?_) fun _ => ?_
    · walk_at "rd"
      exact ⟨_, _, rfl, .inr (.inl ⟨hb, caught 0 _ fin⟩)⟩
    · walk_at "rd"
      refine br_d (fun _ => ?_) fun _ => ?_
      · walk_at "rd"
        exact ⟨_, _, _, rfl, .inr (.inl ⟨hb, caught 0 _ fin⟩)⟩
      · walk_at "rd"
        exact ⟨_, rfl, .inr ⟨hb, caught 0 _ fin⟩⟩
  · have fin : ∀ H', Same H H' → (tRet (tVar 3)) { nx := fun _ H' => Q .non H', rt := Q } [some (.int f), some v, some w, some (.int 1), none] H' := fun H' s => by
      walk_at "rd"
      exact q H' s
    refine br_d (fun _ => ?_) fun _ => ?_
    · walk_at "rd"
      exact ⟨_, _, rfl, .inr (.inr ⟨_, _, K1, hb, caught 1 _ fin⟩)⟩
    · walk_at "rd"
      refine br_d (fun _ => ?_) fun _ => ?_
      · walk_at "rd"
        exact ⟨_, _, _, rfl, .inr (.inr (.inl ⟨_, _, K1, hb, caught 1 _ fin⟩))⟩
      · omega
  · refine br_d (fun _ => by omega) fun _ => ?_
    walk_at "rd"
    refine br_d (fun _ => by omega) fun _ => ?_
    walk_at "rd"
    refine alone_ K1 fun H1 e1 => ?_
    walk_at "rd"
    exact q H1 e1
theorem rd__law_told_hours {K : Frag} (xm : PySem.W.exmOne K (.ref (He.ga K "BadNumber")) (.ref (He.ga K "BadNumber")) = some true) (vs : List V) (H : Hp) (Q : VK) (E : XK) (h : sp__law_told_hours K vs H Q E) : t__law_told_hours K { nx := fun _ H' => Q .non H', rt := Q } (start ["_law_one", "_law_other", "_law_hours", "_law_word", "error"] vs) H := by
  obtain ⟨v, w, x, k1, s1, k2, s2, rfl, K1, K2, hb, q⟩ := h
  unfold t__law_told_hours
  walk_at "rd"
  refine ⟨_, _, _, rfl, .inr (.inr (.inr ⟨_, _, _, _, K1, K2, hb, fun H' d s hd => ?_⟩))⟩
  refine ⟨true, xm, fun _ a ha => ?_, fun z => nomatch z⟩
  refine r_asg ?_
  show tVar 4 _ _ _
  refine r_var rfl ?_
  refine ⟨rfl, rfl, d, _, .str "hours", rfl, upd_same, rfl, ?_⟩
  show (tRet (tVar 3)) _ _ _
  walk_at "rd"
  exact q _ (s.trans (same_new hd))
/-! ### refusals -/
theorem rd__law_refused {K : Frag} (vs : List V) (H : Hp) (Q : VK) (E : XK) (h : sp__law_refused K vs H Q E) : t__law_refused K { nx := fun _ H' => Q .non H', rt := Q } (start ["_law_found", "_law_kind", "_law_bad", "_law_one", "_law_other", "_law_function", "_law_hours"] vs) H := by
  obtain ⟨l, v, k, s, rfl, hl, Kv, q⟩ := h
  unfold t__law_refused
  walk_at "rd"
  refine r_nL (by show 2 ≤ sizeLine; decide) fun a1 h1 => ?_
  walk_at "rd"
  refine r_nL (by show 1 ≤ sizeLine; decide) fun a2 h2 => ?_
  walk_at "rd"
  refine r_nT (by show 3 ≤ sizeLine; decide) fun a3 h3 => ?_
  walk_at "rd"
  refine r_nL (by show 2 ≤ sizeLine; decide) fun a4 h4 => ?_
  walk_at "rd"
  refine r_nL (by show 2 ≤ sizeLine; decide) fun a5 h5 => ?_
  walk_at "rd"
  refine r_nL (by show 0 ≤ sizeLine; decide) fun a6 h6 => ?_
  walk_at "rd"
  refine r_nT (by show 2 ≤ sizeLine; decide) fun a7 h7 => ?_
  walk_at "rd"
  refine r_nL (by show 2 ≤ sizeLine; decide) fun a8 h8 => ?_
  walk_at "rd"
  refine r_nL (by show 11 ≤ sizeLine; decide) fun ab hb => ?_
  walk_at "rd"
  -- the heap behind, and what is bad there
  have ex : ∀ {G : Hp} {p : Addr} {o : HO}, Held l G → G p = none → Same (del l G) (del l (upd G p o)) ∧ Held l (upd G p o) ∧ del l (upd G p o) p = some o := fun {G p o} hG hp => by
    have n := hG.ne hp
    refine ⟨(same_new hp).dl, hG.same (same_new hp), ?_⟩
    rw [del_ne n, upd_same]
  obtain ⟨s1, l1, o1⟩ := ex (o := .lst [.int (-1), .int 0]) hl h1
  obtain ⟨s2, l2, o2⟩ := ex (o := .lst [.int 0]) l1 h2
  obtain ⟨s3, l3, o3⟩ := ex (o := .tup [.int 1, .int 2, .int 3]) l2 h3
  obtain ⟨s4, l4, o4⟩ := ex (o := .lst [.bl true, .int 0]) l3 h4
  obtain ⟨s5, l5, o5⟩ := ex (o := .lst [.int 0, .non]) l4 h5
  obtain ⟨s6, l6, o6⟩ := ex (o := .lst []) l5 h6
  obtain ⟨s7, l7, o7⟩ := ex (o := .tup [.int 3, .bl false]) l6 h7
  obtain ⟨s8, l8, o8⟩ := ex (o := .lst [.int (-7), .int 3]) l7 h8
  obtain ⟨s9, l9, o9⟩ := ex (o := .lst [.ref a1, .ref a2, .ref a3, .int 5, .non, .ref a4, .ref a5, .ref a6, .ref a7, .str "ab", .ref a8]) l8 hb
  have c8 := s9
  have c7 := s8.trans c8
  have c6 := s7.trans c7
  have c5 := s6.trans c6
  have c4 := s5.trans c5
  have c3 := s4.trans c4
  have c2 := s3.trans c3
  have c1 := s2.trans c2
  have c0 := s1.trans c1
  generalize upd _ ab _ = G at *
  have Kv' := Kv.same c0
  have b1 : BadKd K (del l G) (.ref a1) := .neg (i := -1) (j := 0) (.inl (SqL.of (c1 _ _ o1))) (by decide)
  have b2 : BadKd K (del l G) (.ref a2) := .len (.inl (SqL.of (c2 _ _ o2))) (by decide)
  have b3 : BadKd K (del l G) (.ref a3) := .len (.inr (.inl (.inl (c3 _ _ o3)))) (by decide)
  have b4 : BadKd K (del l G) (.ref a4) := .fst (.inl (SqL.of (c4 _ _ o4))) rfl
  have b5 : BadKd K (del l G) (.ref a5) := .snd (.inl (SqL.of (c5 _ _ o5))) rfl
  have b6 : BadKd K (del l G) (.ref a6) := .len (.inl (SqL.of (c6 _ _ o6))) (by decide)
  have b7 : BadKd K (del l G) (.ref a7) := .snd (.inr (.inl (.inl (c7 _ _ o7)))) rfl
  have b8 : BadKd K (del l G) (.ref a8) := .neg (i := -7) (j := 3) (.inl (SqL.of (c8 _ _ o8))) (by decide)
  have pick : ∀ r : Int, 0 ≤ r → r < 11 → ∃ w, atI [V.ref a1, .ref a2, .ref a3, .int 5, .non, .ref a4, .ref a5, .ref a6, .ref a7, .str "ab", .ref a8] r = some w ∧ BadKd K (del l G) w := by
    intro r r0 r1
    obtain ⟨n, rfl⟩ := Int.eq_ofNat_of_zero_le r0
    have hn : n < 11 := by omega
    match n, hn with
    | 0, _ => exact ⟨_, rfl, b1⟩
    | 1, _ => exact ⟨_, rfl, b2⟩
    | 2, _ => exact ⟨_, rfl, b3⟩
    | 3, _ => exact ⟨_, rfl, .flat (b := true) rfl⟩
    | 4, _ => exact ⟨_, rfl, .flat (b := false) rfl⟩
    | 5, _ => exact ⟨_, rfl, b4⟩
    | 6, _ => exact ⟨_, rfl, b5⟩
    | 7, _ => exact ⟨_, rfl, b6⟩
    | 8, _ => exact ⟨_, rfl, b7⟩
    | 9, _ => exact ⟨_, rfl, .flat (b := false) rfl⟩
    | 10, _ => exact ⟨_, rfl, b8⟩
  have LB := (SqL.of (K := K) o9)
  refine take l9 (by decide) fun r H1 r0 r1 bt1 hl1 => ?_
  walk_at "rd"
  obtain ⟨w1, e1, B1⟩ := pick r r0 r1
  refine r_ixL (((bt1.del).trans (del_same _ _)).seq LB) e1 ?_
  walk_at "rd"
  refine take hl1 (by decide) fun r' H2 r0' r1' bt2 hl2 => ?_
  walk_at "rd"
  obtain ⟨w2, e2, B2⟩ := pick r' r0' r1'
  have bt12 := bt1.trans bt2
  have D2 := (bt12.del).trans (del_same l H2)
  refine r_ixL (D2.seq LB) e2 ?_
  walk_at "rd"
  have W1 := B1.same D2
  have W2 := B2.same D2
  have KV := Kv'.same D2
  refine r_rgN (n := 2) (by decide) ?_
  refine lp_rng (fun i σ H' => (∃ z, σ = [some (.ref l), some v, some (.ref ab), some w1, some w2, z, none]) ∧ Same H2 H') ⟨⟨_, rfl⟩, Same.refl _⟩ ?_ ?_
  · rintro i σ H3 hi ⟨⟨z, rfl⟩, s3⟩
    have f01 : (0 + (i : Int)) = 0 ∨ (0 + (i : Int)) = 1 := by omega
    walk_at "rd"
    refine ⟨_, _, _, rfl, by omega, .inl ⟨W1.same s3, fun H4 s4 => ?_⟩⟩
    have s34 := s3.trans s4
    walk_at "rd"
    refine br_nd (fun c => absurd rfl c) fun _ => ?_
    walk_at "rd"
    refine ⟨_, _, _, rfl, by omega, .inr (.inl ⟨⟨k, s, KV.same s34⟩, by omega, W1.same s34, fun H5 s5 => ?_⟩)⟩
    have s35 := s34.trans s5
    walk_at "rd"
    refine br_nd (fun c => absurd rfl c) fun _ => ?_
    walk_at "rd"
    refine ⟨_, _, _, rfl, by omega, .inl ⟨W1.same s35, fun H6 s6 => ?_⟩⟩
    walk_at "rd"
    refine br_nd (fun c => absurd rfl c) fun _ => ?_
    exact ⟨⟨_, rfl⟩, s35.trans s6⟩
  · rintro σ H3 ⟨⟨z, rfl⟩, s3⟩
    walk_at "rd"
    refine ⟨_, _, _, rfl, by omega, .inl ⟨W2.same s3, fun H4 s4 => ?_⟩⟩
    have s34 := s3.trans s4
    walk_at "rd"
    refine br_nd (fun c => absurd rfl c) fun _ => ?_
    walk_at "rd"
    refine ⟨_, _, _, rfl, by omega, .inr (.inr ⟨⟨k, s, KV.same s34⟩, rfl, fun H5 s5 => ?_⟩)⟩
    have s35 := s34.trans s5
    walk_at "rd"
    refine ⟨rfl, ?_⟩
    walk_at "rdv"
    refine br_nd (fun c => absurd rfl c) fun _ => ?_
    walk_at "rd"
    refine r_nL (by show 5 ≤ sizeLine; decide) fun ah hh => ?_
    walk_at "rd"
    have s36 := s35.trans (same_new (o := .lst [.int 1, .int 0, .int (-2), .bl true, .non]) hh)
    have hl6 := hl2.same s36
    refine take hl6 (by decide) fun r7 H7 r70 r71 bt7 hl7 => ?_
    walk_at "rd"
    have nah : ah ≠ l := (hl2.same s35).ne hh
    have LH : SqL K H7 ah [.int 1, .int 0, .int (-2), .bl true, .non] := SqL.of (bt7 _ _ nah upd_same)
    have pickh : ∃ x, atI [V.int 1, .int 0, .int (-2), .bl true, .non] r7 = some x ∧ BadH x := by
      obtain ⟨n, rfl⟩ := Int.eq_ofNat_of_zero_le r70
      have hn : n < 5 := by omega
      match n, hn with
      | 0, _ => exact ⟨_, rfl, .inl ⟨1, rfl, by decide⟩⟩
      | 1, _ => exact ⟨_, rfl, .inl ⟨0, rfl, by decide⟩⟩
      | 2, _ => exact ⟨_, rfl, .inl ⟨-2, rfl, by decide⟩⟩
      | 3, _ => exact ⟨_, rfl, .inr rfl⟩
      | 4, _ => exact ⟨_, rfl, .inr rfl⟩
    obtain ⟨x, ex, BH⟩ := pickh
    refine r_ixL LH ex ?_
    walk_at "rd"
    have K7 : Kd K H7 v k s := (Kv'.same bt12.del).same (((Bt.of s36).trans bt7).del.trans (del_same _ _))
    obtain ⟨av, rfl, hv⟩ := K7
    refine r_list hv fun al hal => ?_
    walk_at "rd"
    have s8 := same_new (o := .lst [.int (k : Int), .int s]) hal
    refine ⟨_, _, _, k, s, k, s, rfl, ⟨av, rfl, Same.sq s8 hv⟩, Kd.lst, BH, fun H9 s9 => ?_⟩
    walk_at "rd"
    exact ⟨rfl, q _⟩
theorem two_one : ¬ gv 2 1 4 1 := by decide
theorem four_two : gv 4 1 2 1 := by decide
theorem rd_law {K : Frag} (vs : List V) (H : Hp) (Q : VK) (E : XK) (h : sp_law K vs H Q E) : t_law K { nx := fun _ H' => Q .non H', rt := Q } (start ["_law_script", "_law_found", "_law_rows", "_law_one", "_law_other", "_law_kinds_here", "_law_row"] vs) H := by
  obtain ⟨a, ns, rfl, hS, hlen, q⟩ := h
  unfold t_law
  walk_at "rd"
  refine ⟨a, ns, rfl, hS, hlen, fun l H1 hl0 s1 hl1 => ?_⟩
  walk_at "rd"
  refine ⟨l, rfl, hl1, fun r v0 v1 v2 x0 x1 x2 H2 bt2 hl2 LR R0 R1 R2 o0 o1 o2 => ?_⟩
  walk_at "rd"
  have d2 := del_same l H2
  have mem : ∀ (i : Nat) (w : V), [v0, v1, v2][i]? = some w → ∃ x, RK K (del l H2) w x ∧ x.ok := by
    intro i w hw
    match i, hw with
    | 0, hw => cases hw; exact ⟨x0, R0, o0⟩
    | 1, hw => cases hw; exact ⟨x1, R1, o1⟩
    | 2, hw => cases hw; exact ⟨x2, R2, o2⟩
  refine r_wl (d2.seq LR) ?_
  refine lp_list (xs := [v0, v1, v2]) (fun i σ H' => (∃ b c, σ = [some (.ref a), some (.ref l), some (.ref r), b, c, none, none]) ∧ Bt l H2 H' ∧ Held l H') ⟨⟨_, _, rfl⟩, Bt.refl _ _, hl2⟩ (fun i σ H' _ p => (p.2.1.del.trans (del_same _ _)).seq LR) ?_ ?_
  · rintro i w σ H3 hw ⟨⟨b, c, rfl⟩, bt3, hl3⟩
    obtain ⟨x, Rx, ox⟩ := mem i w hw
    walk_at "rd"
    refine r_wl ((bt3.del.trans (del_same _ _)).seq LR) ?_
    refine lp_list (xs := [v0, v1, v2]) (fun j σ H' => (∃ c, σ = [some (.ref a), some (.ref l), some (.ref r), some w, c, none, none]) ∧ Bt l H2 H' ∧ Held l H') ⟨⟨_, rfl⟩, bt3, hl3⟩ (fun j σ H' _ p => (p.2.1.del.trans (del_same _ _)).seq LR) ?_ ?_
    · rintro j w' σ H4 hw' ⟨⟨c, rfl⟩, bt4, hl4⟩
      obtain ⟨y, Ry, oy⟩ := mem j w' hw'
      walk_at "rd"
      refine ⟨l, w, w', x, y, rfl, hl4, Rx.same bt4.del, Ry.same bt4.del, ox, oy, fun H5 bt5 hl5 => ?_⟩
      walk_at "rd"
      exact ⟨⟨_, rfl⟩, bt4.trans bt5, hl5⟩
    · rintro σ H4 ⟨⟨c, rfl⟩, bt4, hl4⟩
      obtain ⟨l1, u1, t1, rfl, L1, U1, T1⟩ := Rx.same (bt4.del.trans (del_same _ _))
      walk_at "rd"
      refine r_ixL L1 rfl ?_
      walk_at "rd"
      refine ⟨_, Wt x.p.1, x.s, rfl, ⟨t1, rfl, .inr T1⟩, ox.fit, fun H5 s5 => ?_⟩
      walk_at "rd"
      exact ⟨⟨_, _, rfl⟩, bt4.trans (Bt.of s5), hl4.same s5⟩
  · rintro σ H3 ⟨⟨b, c, rfl⟩, bt3, hl3⟩
    have D3 := bt3.del.trans (del_same l H3)
    obtain ⟨l0, u0, t0, rfl, L0, U0, T0d⟩ := R0.same bt3.del
    obtain ⟨l1, u1, t1, rfl, L1, U1, T1⟩ := R1.same D3
    obtain ⟨l2, u2, t2, rfl, L2, U2, T2⟩ := R2.same D3
    replace L0 := (del_same l H3).seq L0
    have T0 := Same.seqT (del_same l H3) T0d
    walk_at "rd"
    refine r_wl (D3.seq LR) ?_
    refine lc_lsti (xs := [.ref l0, .ref l1, .ref l2]) (fun i => match i with | 0 => .ref t0 | 1 => .ref t1 | _ => .ref t2) (D3.seq LR) (by show 3 ≤ 10000; decide) (fun _ => rfl) ?_ ?_
    · intro i x H4 Q' hx s4 kk
      walk_at "rd"
      match i, hx with
      | 0, hx =>
        cases hx
        refine r_ixL (s4.seq L0) rfl ?_
        exact kk _ (Same.refl _)
      | 1, hx =>
        cases hx
        refine r_ixL (s4.seq L1) rfl ?_
        exact kk _ (Same.refl _)
      | 2, hx =>
        cases hx
        refine r_ixL (s4.seq L2) rfl ?_
        exact kk _ (Same.refl _)
    · intro D H4 hD s4 hD4
      have hD4' : SqL K H4 D [.ref t0, .ref t1, .ref t2] := SqL.of hD4
      have hl4 := hl3.same s4
      have K0 : Kd K H4 (.ref t0) (Wt x0.p.1) x0.s := ⟨t0, rfl, .inr (Same.seqT s4 T0)⟩
      have K1 : Kd K H4 (.ref t1) (Wt x1.p.1) x1.s := ⟨t1, rfl, .inr (Same.seqT s4 T1)⟩
      have K2 : Kd K H4 (.ref t2) (Wt x2.p.1) x2.s := ⟨t2, rfl, .inr (Same.seqT s4 T2)⟩
      have gg : ∀ {x y : Kind}, x.ok → y.ok → (gv (Wt x.p.1) x.s.natAbs (Wt y.p.1) y.s.natAbs ↔ goes x.p y.p = true) := fun {x y} ox oy => by
        rw [goes_iff ox.1.lq.lo ox.2.1.lq.lo oy.1.lq.lo oy.2.1.lq.lo, ox.2.2, oy.2.2]
      -- from the second test on
      have fin3 : ∀ H5, Same H4 H5 → (tSeq (tIfS (tOr (tT (tCa (sp_loop_gives K) E0 (tCons (tTup (tCons (tC (.int 2)) (tCons (tC (.int 1)) tNil))) (tCons (tTup (tCons (tC (.int 4)) (tCons (tC (.int 1)) tNil))) tNil)))) (tNot (tT (tCa (sp_loop_gives K) E0 (tCons (tTup (tCons (tC (.int 4)) (tCons (tC (.int 1)) tNil))) (tCons (tTup (tCons (tC (.int 2)) (tCons (tC (.int 1)) tNil))) tNil))))))
          (tRet (tC (.bl false)))
          tNext)
          (tRet (tCa (sp__law_refused K) E0 (tCons (tVar 1) (tCons (tOp (rIx K) (tVar 5) (tC (.int 0))) tNil))))) { nx := fun _ H' => Q .non H', rt := Q } [some (.ref a), some (.ref l), some (.ref r), b, c, some (.ref D), none] H5 := by
        intro H5 s5
        walk_at "rd"
        refine r_nT (by show 2 ≤ sizeLine; decide) fun p1 hp1 => ?_
        walk_at "rd"
        have s6 := same_new (o := .tup [.int 2, .int 1]) hp1
        refine r_nT (by show 2 ≤ sizeLine; decide) fun p2 hp2 => ?_
        walk_at "rd"
        have s7 := same_new (o := .tup [.int 4, .int 1]) hp2
        refine gives_ (k1 := 2) (k2 := 4) ((Kd.tup rfl).same s7) (Kd.tup rfl) (fit_small _ _ (by decide) (by decide)) (fit_small _ _ (by decide) (by decide)) fun H8 s8 => ?_
        rw [decide_eq_false (show ¬ gv 2 (1 : Int).natAbs 4 (1 : Int).natAbs from two_one)]
        walk_at "rd"
        refine r_nT (by show 2 ≤ sizeLine; decide) fun p3 hp3 => ?_
        walk_at "rd"
        have s9 := same_new (o := .tup [.int 4, .int 1]) hp3
        refine r_nT (by show 2 ≤ sizeLine; decide) fun p4 hp4 => ?_
        walk_at "rd"
        have s10 := same_new (o := .tup [.int 2, .int 1]) hp4
        refine gives_ (k1 := 4) (k2 := 2) ((Kd.tup rfl).same s10) (Kd.tup rfl) (fit_small _ _ (by decide) (by decide)) (fit_small _ _ (by decide) (by decide)) fun H11 s11 => ?_
        rw [decide_eq_true (show gv 4 (1 : Int).natAbs 2 (1 : Int).natAbs from four_two)]
        walk_at "rd"
        have sz := s5.trans (s6.trans (s7.trans (s8.trans (s9.trans (s10.trans s11)))))
        refine r_ixL (sz.seq hD4') rfl ?_
        walk_at "rd"
        refine ⟨l, _, Wt x0.p.1, x0.s, rfl, hl4.same sz, ?_, fun H' => q H'⟩
        exact ⟨t0, rfl, .inr (Same.seqT (s4.trans sz).dl T0d)⟩
      have fin2 : ∀ H5, Same H4 H5 → (tSeq (tIfS (tAnd (tT (tCa (sp_alone K) E0 (tCons (tOp (rIx K) (tVar 5) (tC (.int 2))) tNil))) (tNot (tAnd (tT (tCa (sp_loop_gives K) E0 (tCons (tOp (rIx K) (tVar 5) (tC (.int 0))) (tCons (tOp (rIx K) (tVar 5) (tC (.int 2))) tNil)))) (tT (tCa (sp_loop_gives K) E0 (tCons (tOp (rIx K) (tVar 5) (tC (.int 1))) (tCons (tOp (rIx K) (tVar 5) (tC (.int 2))) tNil)))))))
          (tRet (tC (.bl false)))
          tNext)
          (tSeq (tIfS (tOr (tT (tCa (sp_loop_gives K) E0 (tCons (tTup (tCons (tC (.int 2)) (tCons (tC (.int 1)) tNil))) (tCons (tTup (tCons (tC (.int 4)) (tCons (tC (.int 1)) tNil))) tNil)))) (tNot (tT (tCa (sp_loop_gives K) E0 (tCons (tTup (tCons (tC (.int 4)) (tCons (tC (.int 1)) tNil))) (tCons (tTup (tCons (tC (.int 2)) (tCons (tC (.int 1)) tNil))) tNil))))))
          (tRet (tC (.bl false)))
          tNext)
          (tRet (tCa (sp__law_refused K) E0 (tCons (tVar 1) (tCons (tOp (rIx K) (tVar 5) (tC (.int 0))) tNil)))))) { nx := fun _ H' => Q .non H', rt := Q } [some (.ref a), some (.ref l), some (.ref r), b, c, some (.ref D), none] H5 := by
        intro H5 s5
        walk_at "rd"
        refine r_ixL (s5.seq hD4') rfl ?_
        walk_at "rd"
        refine alone_ (K2.same s5) fun H6 s6 => ?_
        have s56 := s5.trans s6
        walk_at "rdt"
        refine br_d (fun cA => ?_) fun cA => ?_
        · walk_at "rd"
          refine r_ixL (s56.seq hD4') rfl ?_
          walk_at "rd"
          refine r_ixL (s56.seq hD4') rfl ?_
          walk_at "rd"
          refine gives_ (K0.same s56) (K2.same s56) o0.fit o2.fit fun H7 s7 => ?_
          rw [decide_eq_true (show gv (Wt x0.p.1) x0.s.natAbs (Wt x2.p.1) x2.s.natAbs from gv_alone cA)]
          have s57 := s56.trans s7
          walk_at "rd"
          refine r_ixL (s57.seq hD4') rfl ?_
          walk_at "rd"
          refine r_ixL (s57.seq hD4') rfl ?_
          walk_at "rd"
          refine gives_ (K1.same s57) (K2.same s57) o1.fit o2.fit fun H8 s8 => ?_
          rw [decide_eq_true (show gv (Wt x1.p.1) x1.s.natAbs (Wt x2.p.1) x2.s.natAbs from gv_alone cA)]
          walk_at "rdq"
          exact fin3 _ (s57.trans s8)
        · walk_at "rdq"
          exact fin3 _ s56
      walk_at "rd"
      refine r_ixL hD4' rfl ?_
      walk_at "rd"
      refine r_ixL hD4' rfl ?_
      walk_at "rd"
      refine gives_ K0 K1 o0.fit o1.fit fun H5 s5 => ?_
      walk_at "rdv"
      refine br_d (fun c1 => ?_) fun c1 => ?_
      · walk_at "rd"
        refine r_ixL (s5.seq hD4') rfl ?_
        walk_at "rd"
        refine r_ixL (s5.seq hD4') rfl ?_
        walk_at "rd"
        refine gives_ (K1.same s5) (K2.same s5) o1.fit o2.fit fun H6 s6 => ?_
        have s56 := s5.trans s6
        walk_at "rdv"
        refine br_d (fun c2 => ?_) fun c2 => ?_
        · walk_at "rd"
          refine r_ixL (s56.seq hD4') rfl ?_
          walk_at "rd"
          refine r_ixL (s56.seq hD4') rfl ?_
          walk_at "rd"
          refine gives_ (K0.same s56) (K2.same s56) o0.fit o2.fit fun H7 s7 => ?_
          have tr : gv (Wt x0.p.1) x0.s.natAbs (Wt x2.p.1) x2.s.natAbs := (gg o0 o2).mpr (goes_trans o0.1.lq.lo o0.2.1.lq.lo o1.1.lq.lo o1.2.1.lq.lo o2.1.lq.lo o2.2.1.lq.lo ((gg o0 o1).mp c1) ((gg o1 o2).mp c2))
          rw [decide_eq_true tr]
          walk_at "rdq"
          exact fin2 _ (s56.trans s7)
        · walk_at "rdq"
          exact fin2 _ s56
      · walk_at "rdq"
        exact fin2 _ s5
end K63
end
section
set_option Elab.async false
set_option linter.all false
set_option maxRecDepth 100000
/-! the walk, printed by gen.py -/
namespace K63
open PySem PySem.Spec PyProof.Rows L2 Nw
def top (i : Nat) : Stmt := PySem.Challenge.pw_nowaittasks_k63_order_of_giving.main.body.getD i (.Pass ⟨0, 0, 0, 0⟩)
theorem bt_isinstance : bootBuiltins "isinstance" = some (.builtin "isinstance") := by first | rfl | decide +kernel | kernel_rfl
theorem bt_int : bootBuiltins "int" = some (.type "int") := by first | rfl | decide +kernel | kernel_rfl
theorem bt_bool : bootBuiltins "bool" = some (.type "bool") := by first | rfl | decide +kernel | kernel_rfl
theorem bt_tuple : bootBuiltins "tuple" = some (.type "tuple") := by first | rfl | decide +kernel | kernel_rfl
theorem bt_list : bootBuiltins "list" = some (.type "list") := by first | rfl | decide +kernel | kernel_rfl
theorem bt_len : bootBuiltins "len" = some (.builtin "len") := by first | rfl | decide +kernel | kernel_rfl
theorem bt_range : bootBuiltins "range" = some (.type "range") := by first | rfl | decide +kernel | kernel_rfl
theorem bt_min : bootBuiltins "min" = some (.builtin "min") := by first | rfl | decide +kernel | kernel_rfl
theorem bt_all : bootBuiltins "all" = some (.builtin "all") := by first | rfl | decide +kernel | kernel_rfl
theorem bt_max : bootBuiltins "max" = some (.builtin "max") := by first | rfl | decide +kernel | kernel_rfl
abbrev s_is_int : Stmt := top 6
abbrev N_is_int : List Str := ["thing"]
theorem sc_is_int : FnScope N_is_int ["thing"] (defScope s_is_int) := ⟨rfl, rfl, rfl, by decide +kernel, rfl, by decide +kernel, by decide +kernel⟩
abbrev s_is_row : Stmt := top 7
abbrev N_is_row : List Str := ["thing"]
theorem sc_is_row : FnScope N_is_row ["thing"] (defScope s_is_row) := ⟨rfl, rfl, rfl, by decide +kernel, rfl, by decide +kernel, by decide +kernel⟩
abbrev s_check_number : Stmt := top 8
abbrev N_check_number : List Str := ["number", "least", "word"]
theorem sc_check_number : FnScope N_check_number ["number", "least", "word"] (defScope s_check_number) := ⟨rfl, rfl, rfl, by decide +kernel, rfl, by decide +kernel, by decide +kernel⟩
abbrev s__check_kind : Stmt := top 10
abbrev N__check_kind : List Str := ["pair", "place"]
theorem sc__check_kind : FnScope N__check_kind ["pair", "place"] (defScope s__check_kind) := ⟨rfl, rfl, rfl, by decide +kernel, rfl, by decide +kernel, by decide +kernel⟩
abbrev s__goes_into : Stmt := top 11
abbrev N__goes_into : List Str := ["number", "other"]
theorem sc__goes_into : FnScope N__goes_into ["number", "other"] (defScope s__goes_into) := ⟨rfl, rfl, rfl, by decide +kernel, rfl, by decide +kernel, by decide +kernel⟩
abbrev s_loop_gives : Stmt := top 12
abbrev N_loop_gives : List Str := ["one", "other", "factor"]
theorem sc_loop_gives : FnScope N_loop_gives ["one", "other"] (defScope s_loop_gives) := ⟨rfl, rfl, rfl, by decide +kernel, rfl, by decide +kernel, by decide +kernel⟩
abbrev s_loop_sums : Stmt := top 13
abbrev N_loop_sums : List Str := ["one", "other", "hours", "goal", "factor"]
theorem sc_loop_sums : FnScope N_loop_sums ["one", "other", "hours"] (defScope s_loop_sums) := ⟨rfl, rfl, rfl, by decide +kernel, rfl, by decide +kernel, by decide +kernel⟩
abbrev s_alone : Stmt := top 14
abbrev N_alone : List Str := ["kind"]
theorem sc_alone : FnScope N_alone ["kind"] (defScope s_alone) := ⟨rfl, rfl, rfl, by decide +kernel, rfl, by decide +kernel, by decide +kernel⟩
abbrev s__law_drawn : Stmt := top 16
abbrev N__law_drawn : List Str := ["_law_script", "_law_found", "_law_place", "_law_cell", "_law_turn", "_law_grain"]
theorem sc__law_drawn : FnScope N__law_drawn ["_law_script"] (defScope s__law_drawn) := ⟨rfl, rfl, rfl, by decide +kernel, rfl, by decide +kernel, by decide +kernel⟩
abbrev s__law_take : Stmt := top 17
abbrev N__law_take : List Str := ["_law_found", "_law_many"]
theorem sc__law_take : FnScope N__law_take ["_law_found", "_law_many"] (defScope s__law_take) := ⟨rfl, rfl, rfl, by decide +kernel, rfl, by decide +kernel, by decide +kernel⟩
abbrev s__law_powers : Stmt := top 18
abbrev N__law_powers : List Str := ["_law_found", "_law_least", "_law_word"]
theorem sc__law_powers : FnScope N__law_powers ["_law_found", "_law_least"] (defScope s__law_powers) := ⟨rfl, rfl, rfl, by decide +kernel, rfl, by decide +kernel, by decide +kernel⟩
abbrev s__law_worth : Stmt := top 19
abbrev N__law_worth : List Str := ["_law_powers_here", "_law_worth_here", "_law_turn"]
theorem sc__law_worth : FnScope N__law_worth ["_law_powers_here"] (defScope s__law_worth) := ⟨rfl, rfl, rfl, by decide +kernel, rfl, by decide +kernel, by decide +kernel⟩
abbrev s__law_power : Stmt := top 20
abbrev N__law_power : List Str := ["_law_powers_here", "_law_k"]
theorem sc__law_power : FnScope N__law_power ["_law_powers_here", "_law_k"] (defScope s__law_power) := ⟨rfl, rfl, rfl, by decide +kernel, rfl, by decide +kernel, by decide +kernel⟩
abbrev s__law_goes : Stmt := top 21
abbrev N__law_goes : List Str := ["_law_one", "_law_other", "_law_k", "_law_most", "_law_need"]
theorem sc__law_goes : FnScope N__law_goes ["_law_one", "_law_other"] (defScope s__law_goes) := ⟨rfl, rfl, rfl, by decide +kernel, rfl, by decide +kernel, by decide +kernel⟩
abbrev s__law_goes_mod : Stmt := top 22
abbrev N__law_goes_mod : List Str := ["_law_one", "_law_other", "_law_hours", "_law_goal", "_law_k"]
theorem sc__law_goes_mod : FnScope N__law_goes_mod ["_law_one", "_law_other", "_law_hours"] (defScope s__law_goes_mod) := ⟨rfl, rfl, rfl, by decide +kernel, rfl, by decide +kernel, by decide +kernel⟩
abbrev s__law_good : Stmt := top 23
abbrev N__law_good : List Str := ["_law_kind", "_law_k", "_law_power_here"]
theorem sc__law_good : FnScope N__law_good ["_law_kind", "_law_k", "_law_power_here"] (defScope s__law_good) := ⟨rfl, rfl, rfl, by decide +kernel, rfl, by decide +kernel, by decide +kernel⟩
abbrev s__law_hours_go_on : Stmt := top 24
abbrev N__law_hours_go_on : List Str := ["_law_one", "_law_other", "_law_k", "_law_power_here"]
theorem sc__law_hours_go_on : FnScope N__law_hours_go_on ["_law_one", "_law_other"] (defScope s__law_hours_go_on) := ⟨rfl, rfl, rfl, by decide +kernel, rfl, by decide +kernel, by decide +kernel⟩
abbrev s__law_kinds : Stmt := top 25
abbrev N__law_kinds : List Str := ["_law_found", "_law_rows", "_law_turn", "_law_first", "_law_row", "_law_sign"]
theorem sc__law_kinds : FnScope N__law_kinds ["_law_found"] (defScope s__law_kinds) := ⟨rfl, rfl, rfl, by decide +kernel, rfl, by decide +kernel, by decide +kernel⟩
abbrev s__law_pair : Stmt := top 26
abbrev N__law_pair : List Str := ["_law_found", "_law_one", "_law_other", "_law_gives", "_law_due", "_law_drawn_here", "_law_powers_here", "_law_sums", "_law_within"]
theorem sc__law_pair : FnScope N__law_pair ["_law_found", "_law_one", "_law_other"] (defScope s__law_pair) := ⟨rfl, rfl, rfl, by decide +kernel, rfl, by decide +kernel, by decide +kernel⟩
abbrev s__law_ends : Stmt := top 27
abbrev N__law_ends : List Str := ["_law_kind"]
theorem sc__law_ends : FnScope N__law_ends ["_law_kind"] (defScope s__law_ends) := ⟨rfl, rfl, rfl, by decide +kernel, rfl, by decide +kernel, by decide +kernel⟩
abbrev s__law_told_row : Stmt := top 28
abbrev N__law_told_row : List Str := ["_law_function", "_law_one", "_law_other", "_law_place", "error"]
theorem sc__law_told_row : FnScope N__law_told_row ["_law_function", "_law_one", "_law_other"] (defScope s__law_told_row) := ⟨rfl, rfl, rfl, by decide +kernel, rfl, by decide +kernel, by decide +kernel⟩
abbrev s__law_told_hours : Stmt := top 29
abbrev N__law_told_hours : List Str := ["_law_one", "_law_other", "_law_hours", "_law_word", "error"]
theorem sc__law_told_hours : FnScope N__law_told_hours ["_law_one", "_law_other", "_law_hours"] (defScope s__law_told_hours) := ⟨rfl, rfl, rfl, by decide +kernel, rfl, by decide +kernel, by decide +kernel⟩
abbrev s__law_refused : Stmt := top 30
abbrev N__law_refused : List Str := ["_law_found", "_law_kind", "_law_bad", "_law_one", "_law_other", "_law_function", "_law_hours"]
theorem sc__law_refused : FnScope N__law_refused ["_law_found", "_law_kind"] (defScope s__law_refused) := ⟨rfl, rfl, rfl, by decide +kernel, rfl, by decide +kernel, by decide +kernel⟩
abbrev s_law : Stmt := top 31
abbrev N_law : List Str := ["_law_script", "_law_found", "_law_rows", "_law_one", "_law_other", "_law_kinds_here", "_law_row"]
theorem sc_law : FnScope N_law ["_law_script"] (defScope s_law) := ⟨rfl, rfl, rfl, by decide +kernel, rfl, by decide +kernel, by decide +kernel⟩
structure Tx (P : Program) (K : PySem.W.Frag) (mg : Str → Option Value) : Prop where
  b_isinstance : mg "isinstance" = none
  b_int : mg "int" = none
  b_bool : mg "bool" = none
  b_tuple : mg "tuple" = none
  b_list : mg "list" = none
  b_len : mg "len" = none
  b_range : mg "range" = none
  b_min : mg "min" = none
  b_all : mg "all" = none
  b_max : mg "max" = none
  m_gcd : mg "gcd" = some (.builtin "math.gcd")
  x_BadRow_BadRow : PySem.W.exmOne K (.ref (He.ga K "BadRow")) (.ref (He.ga K "BadRow")) = some true
  x_BadNumber_BadNumber : PySem.W.exmOne K (.ref (He.ga K "BadNumber")) (.ref (He.ga K "BadNumber")) = some true
  e_BadNumber : ErrOk P K mg "BadNumber" (He.ga K "BadNumber") ps_BadNumber ok_BadNumber
  e_BadRow : ErrOk P K mg "BadRow" (He.ga K "BadRow") ps_BadRow ok_BadRow
section
variable {P : Program} {w : World} {K : PySem.W.Frag} {mg : Str → Option Value} {base : Heap}
set_option maxHeartbeats 4000000 in
theorem ok_is_int (T : Tx P K mg) {f : Addr} {fd : FuncData} (F : FunD K "is_int" "is_int" (defArgs s_is_int) (defBody s_is_int) (defScope s_is_int) [] [] f fd) : FnOk P w K mg base (L2.CX P w) 1 f fd ["thing"] (sp_is_int K) := by
  refine F.ok sc_is_int (fun vs H Q E h => len_is_int h) (fun cdv A outer s H vs Q E hr h => ⟨t_is_int K, PSs.nox ?_, rd_is_int vs H Q E h⟩)
  exact (pss_one (ps_ret (pe_and (pe_callB call_isi rfl T.b_isinstance bt_isinstance (pa_cons (pv 0) (pa_cons (pe_bltn (v := .ty "int") rfl T.b_int bt_int rfl) pa_nil))) (pe_one (pe_not (pe_callB call_isi rfl T.b_isinstance bt_isinstance (pa_cons (pv 0) (pa_cons (pe_bltn (v := .ty "bool") rfl T.b_bool bt_bool rfl) pa_nil))))))))
set_option maxHeartbeats 4000000 in
theorem ok_is_row (T : Tx P K mg) {f : Addr} {fd : FuncData} (F : FunD K "is_row" "is_row" (defArgs s_is_row) (defBody s_is_row) (defScope s_is_row) [] [] f fd) : FnOk P w K mg base (L2.CX P w) 1 f fd ["thing"] (sp_is_row K) := by
  refine F.ok sc_is_row (fun vs H Q E h => len_is_row h) (fun cdv A outer s H vs Q E hr h => ⟨t_is_row K, PSs.nox ?_, rd_is_row vs H Q E h⟩)
  exact (pss_one (ps_ret (pe_callB call_isiT rfl T.b_isinstance bt_isinstance (pa_cons (pv 0) (pa_cons (pe_tup (pa_cons (pe_bltn (v := .ty "list") rfl T.b_list bt_list rfl) (pa_cons (pe_bltn (v := .ty "tuple") rfl T.b_tuple bt_tuple rfl) pa_nil))) pa_nil)))))
set_option maxHeartbeats 4000000 in
theorem ok_check_number (T : Tx P K mg) (D_is_int : Dok P w K mg base 1 "is_int" ["thing"] (sp_is_int K)) {f : Addr} {fd : FuncData} (F : FunD K "check_number" "check_number" (defArgs s_check_number) (defBody s_check_number) (defScope s_check_number) [] [] f fd) : FnOk P w K mg base (L2.CX P w) 2 f fd ["number", "least", "word"] (sp_check_number K) := by
  refine F.ok sc_check_number (fun vs H Q E h => len_check_number h) (fun cdv A outer s H vs Q E hr h => ⟨t_check_number K E, ?_, rd_check_number vs H Q E h⟩)
  exact (pss_one (ps_if (PW.pt (pw_or (pt_not (pt_e (pe_def D_is_int (hr.mono (by decide)) rfl passL (pa_cons (pv 0) pa_nil)))) (pw_or1 (pt_c o_lt (pv 0) (pv 1) (nomark _)))))
    (pss_one (ps_raiseE rfl T.e_BadNumber (by decide) hr (takes_of rfl rfl rfl rfl) (pa_cons (pv 2) pa_nil)))
    pss_nil))
set_option maxHeartbeats 4000000 in
theorem ok__check_kind (T : Tx P K mg) (D_is_row : Dok P w K mg base 1 "is_row" ["thing"] (sp_is_row K)) (D_is_int : Dok P w K mg base 1 "is_int" ["thing"] (sp_is_int K)) {f : Addr} {fd : FuncData} (F : FunD K "_check_kind" "_check_kind" (defArgs s__check_kind) (defBody s__check_kind) (defScope s__check_kind) [] [] f fd) : FnOk P w K mg base (L2.CX P w) 2 f fd ["pair", "place"] (sp__check_kind K) := by
  refine F.ok sc__check_kind (fun vs H Q E h => len__check_kind h) (fun cdv A outer s H vs Q E hr h => ⟨t__check_kind K E, ?_, rd__check_kind vs H Q E h⟩)
  exact (pss_one (ps_if (PW.pt (pw_or (pt_not (pt_e (pe_def D_is_row (hr.mono (by decide)) rfl passL (pa_cons (pv 0) pa_nil)))) (pw_or (pt_c op_ne (pe_callB c_len rfl T.b_len bt_len (pa_cons (pv 0) pa_nil)) pe_int (nomark _)) (pw_or (pt_not (pt_e (pe_def D_is_int (hr.mono (by decide)) rfl passL (pa_cons (pe_ix ix_seq (pv 0) pe_int (fun _ _ => rfl)) pa_nil)))) (pw_or (pt_not (pt_e (pe_def D_is_int (hr.mono (by decide)) rfl passL (pa_cons (pe_ix ix_seq (pv 0) pe_int (fun _ _ => rfl)) pa_nil)))) (pw_or1 (pt_c o_lt (pe_ix ix_seq (pv 0) pe_int (fun _ _ => rfl)) pe_int (nomark _))))))))
    (pss_one (ps_raiseE rfl T.e_BadRow (by decide) hr (takes_of rfl rfl rfl rfl) (pa_cons (pv 1) pa_nil)))
    pss_nil))
set_option maxHeartbeats 4000000 in
theorem ok__goes_into (T : Tx P K mg) {f : Addr} {fd : FuncData} (F : FunD K "_goes_into" "_goes_into" (defArgs s__goes_into) (defBody s__goes_into) (defScope s__goes_into) [] [] f fd) : FnOk P w K mg base (L2.CX P w) 1 f fd ["number", "other"] (sp__goes_into K) := by
  refine F.ok sc__goes_into (fun vs H Q E h => len__goes_into h) (fun cdv A outer s H vs Q E hr h => ⟨t__goes_into K, PSs.nox ?_, rd__goes_into vs H Q E h⟩)
  exact (pss_cons (ps_if (pt_c op_eq (pv 0) pe_int (nomark _))
    (pss_one (ps_ret (pe_cmpR op_eq (pv 1) pe_int (nomark _))))
    pss_nil)
    (pss_one (ps_ret (pe_cmpR op_eq (pe_op o_mod (pv 1) (pv 0)) pe_int (nomark _)))))
set_option maxHeartbeats 4000000 in
theorem ok_loop_gives (T : Tx P K mg) (D__check_kind : Dok P w K mg base 2 "_check_kind" ["pair", "place"] (sp__check_kind K)) (D__goes_into : Dok P w K mg base 1 "_goes_into" ["number", "other"] (sp__goes_into K)) {f : Addr} {fd : FuncData} (F : FunD K "loop_gives" "loop_gives" (defArgs s_loop_gives) (defBody s_loop_gives) (defScope s_loop_gives) [] [] f fd) : FnOk P w K mg base (L2.CX P w) 3 f fd ["one", "other"] (sp_loop_gives K) := by
  refine F.ok sc_loop_gives (fun vs H Q E h => len_loop_gives h) (fun cdv A outer s H vs Q E hr h => ⟨t_loop_gives K E, ?_, rd_loop_gives vs H Q E h⟩)
  exact (pss_cons (ps_expr (pe_def D__check_kind (hr.mono (by decide)) rfl (passes_call (takes_of rfl rfl rfl rfl) (fun _ _ _ _ h => h)) (pa_cons (pv 0) (pa_cons pe_int pa_nil))))
    (pss_cons (ps_expr (pe_def D__check_kind (hr.mono (by decide)) rfl (passes_call (takes_of rfl rfl rfl rfl) (fun _ _ _ _ h => h)) (pa_cons (pv 1) (pa_cons pe_int pa_nil))))
    (pss_cons (ps_set (i := 2) sc_loop_gives.nd rfl (Or.inl rfl) pe_int)
    (pss_cons (ps_if (PW.pt (pw_or (pt_c op_ne (pe_ix ix_seq (pv 0) pe_int (fun _ _ => rfl)) pe_int (nomark _)) (pw_or1 (pt_c op_ne (pe_ix ix_seq (pv 1) pe_int (fun _ _ => rfl)) pe_int (nomark _)))))
    (pss_one (ps_set (i := 2) sc_loop_gives.nd rfl (Or.inl rfl) (pe_op o_div (pe_ix ix_seq (pv 1) pe_int (fun _ _ => rfl)) (pe_callBfun cr_gcd rfl T.m_gcd (pa_cons (pe_ix ix_seq (pv 1) pe_int (fun _ _ => rfl)) (pa_cons (pe_ix ix_seq (pv 0) pe_int (fun _ _ => rfl)) pa_nil))))))
    pss_nil)
    (pss_one (ps_ret (pe_def D__goes_into (hr.mono (by decide)) rfl passL (pa_cons (pe_callBfun cr_gcd rfl T.m_gcd (pa_cons (pe_op o_mul (pe_ix ix_seq (pv 0) pe_int (fun _ _ => rfl)) (pv 2)) (pa_cons (pe_ix ix_seq (pv 1) pe_int (fun _ _ => rfl)) pa_nil))) (pa_cons (pe_ix ix_seq (pv 1) pe_int (fun _ _ => rfl)) pa_nil)))))))))
set_option maxHeartbeats 4000000 in
theorem ok_loop_sums (T : Tx P K mg) (D__check_kind : Dok P w K mg base 2 "_check_kind" ["pair", "place"] (sp__check_kind K)) (D_check_number : Dok P w K mg base 2 "check_number" ["number", "least", "word"] (sp_check_number K)) (D__goes_into : Dok P w K mg base 1 "_goes_into" ["number", "other"] (sp__goes_into K)) {f : Addr} {fd : FuncData} (F : FunD K "loop_sums" "loop_sums" (defArgs s_loop_sums) (defBody s_loop_sums) (defScope s_loop_sums) [] [] f fd) : FnOk P w K mg base (L2.CX P w) 3 f fd ["one", "other", "hours"] (sp_loop_sums K) := by
  refine F.ok sc_loop_sums (fun vs H Q E h => len_loop_sums h) (fun cdv A outer s H vs Q E hr h => ⟨t_loop_sums K E, ?_, rd_loop_sums vs H Q E h⟩)
  exact (pss_cons (ps_expr (pe_def D__check_kind (hr.mono (by decide)) rfl (passes_call (takes_of rfl rfl rfl rfl) (fun _ _ _ _ h => h)) (pa_cons (pv 0) (pa_cons pe_int pa_nil))))
    (pss_cons (ps_expr (pe_def D__check_kind (hr.mono (by decide)) rfl (passes_call (takes_of rfl rfl rfl rfl) (fun _ _ _ _ h => h)) (pa_cons (pv 1) (pa_cons pe_int pa_nil))))
    (pss_cons (ps_expr (pe_def D_check_number (hr.mono (by decide)) rfl (passes_call (takes_of rfl rfl rfl rfl) (fun _ _ _ _ h => h)) (pa_cons (pv 2) (pa_cons pe_int (pa_cons pe_str pa_nil)))))
    (pss_cons (ps_set (i := 3) sc_loop_sums.nd rfl (Or.inl rfl) (pe_callBfun cr_gcd rfl T.m_gcd (pa_cons (pe_ix ix_seq (pv 1) pe_int (fun _ _ => rfl)) (pa_cons (pv 2) pa_nil))))
    (pss_cons (ps_set (i := 4) sc_loop_sums.nd rfl (Or.inl rfl) (pe_op o_div (pv 3) (pe_callBfun cr_gcd rfl T.m_gcd (pa_cons (pv 3) (pa_cons (pe_ix ix_seq (pv 0) pe_int (fun _ _ => rfl)) pa_nil)))))
    (pss_one (ps_ret (pe_def D__goes_into (hr.mono (by decide)) rfl passL (pa_cons (pe_callBfun cr_gcd rfl T.m_gcd (pa_cons (pe_op o_mul (pe_ix ix_seq (pv 0) pe_int (fun _ _ => rfl)) (pv 4)) (pa_cons (pv 3) pa_nil))) (pa_cons (pe_ix ix_seq (pv 1) pe_int (fun _ _ => rfl)) pa_nil))))))))))
set_option maxHeartbeats 4000000 in
theorem ok_alone (T : Tx P K mg) (D__check_kind : Dok P w K mg base 2 "_check_kind" ["pair", "place"] (sp__check_kind K)) (D__goes_into : Dok P w K mg base 1 "_goes_into" ["number", "other"] (sp__goes_into K)) {f : Addr} {fd : FuncData} (F : FunD K "alone" "alone" (defArgs s_alone) (defBody s_alone) (defScope s_alone) [] [] f fd) : FnOk P w K mg base (L2.CX P w) 3 f fd ["kind"] (sp_alone K) := by
  refine F.ok sc_alone (fun vs H Q E h => len_alone h) (fun cdv A outer s H vs Q E hr h => ⟨t_alone K E, ?_, rd_alone vs H Q E h⟩)
  exact (pss_cons (ps_expr (pe_def D__check_kind (hr.mono (by decide)) rfl (passes_call (takes_of rfl rfl rfl rfl) (fun _ _ _ _ h => h)) (pa_cons (pv 0) (pa_cons pe_int pa_nil))))
    (pss_one (ps_ret (pe_def D__goes_into (hr.mono (by decide)) rfl passL (pa_cons (pe_ix ix_seq (pv 0) pe_int (fun _ _ => rfl)) (pa_cons (pe_ix ix_seq (pv 0) pe_int (fun _ _ => rfl)) pa_nil))))))
set_option maxHeartbeats 4000000 in
theorem ok__law_drawn (T : Tx P K mg) {f : Addr} {fd : FuncData} (F : FunD K "_law_drawn" "_law_drawn" (defArgs s__law_drawn) (defBody s__law_drawn) (defScope s__law_drawn) [] [] f fd) : FnOk P w K mg base (L2.CX P w) 1 f fd ["_law_script"] (sp__law_drawn K) := by
  refine F.ok sc__law_drawn (fun vs H Q E h => len__law_drawn h) (fun cdv A outer s H vs Q E hr h => ⟨t__law_drawn K, PSs.nox ?_, rd__law_drawn vs H Q E h⟩)
  exact (pss_cons (ps_set (i := 1) sc__law_drawn.nd rfl (Or.inl rfl) (pe_lst pa_nil))
    (pss_cons (ps_for PassesOwn.never rfl (pi_range1 rfl T.b_range (pa_cons (pe_callB (c_min rfl) rfl T.b_min bt_min (pa_cons (pe_callB c_len rfl T.b_len bt_len (pa_cons (pv 0) pa_nil)) (pa_cons pe_int pa_nil))) pa_nil)) (pg_name (i := 2) sc__law_drawn.nd rfl (Or.inl rfl))
    (pss_cons (ps_set (i := 3) sc__law_drawn.nd rfl (Or.inl rfl) (pe_callTy c_int rfl T.b_int bt_int (pa_cons (pe_ix ix_seq (pv 0) (pv 2) (fun _ _ => rfl)) pa_nil)))
    (pss_cons (ps_if (pt_c o_lt (pv 3) pe_int (nomark _))
    (pss_cons (ps_expr (pe_bm PySem.F.plainAttrs_list PySem.F.slot_list_append PySem.F.type_list_append mt_append (pv 1) (pa_cons pe_int pa_nil)))
    (pss_one (ps_set (i := 3) sc__law_drawn.nd rfl (Or.inl rfl) (pe_op o_sub pe_int (pv 3)))))
    pss_nil)
    (pss_one (ps_if (pt_c o_ge (pv 3) (pe_op o_pow pe_int pe_int) (nomark _))
    (pss_one (ps_for PassesOwn.never rfl (pi_range1 rfl T.b_range (pa_cons pe_int pa_nil)) (pg_name (i := 4) sc__law_drawn.nd rfl (Or.inl rfl))
    (pss_one (ps_if (pt_c o_gt (pv 3) pe_int (nomark _))
    (pss_cons (ps_expr (pe_bm PySem.F.plainAttrs_list PySem.F.slot_list_append PySem.F.type_list_append mt_append (pv 1) (pa_cons (pe_op o_mod (pe_callTy c_int rfl T.b_int bt_int (pa_cons (pv 3) pa_nil)) pe_int) pa_nil)))
    (pss_one (ps_set (i := 3) sc__law_drawn.nd rfl (Or.inl rfl) (pe_op o_div (pv 3) pe_int))))
    pss_nil))))
    (pss_cons (ps_set (i := 5) sc__law_drawn.nd rfl (Or.inl rfl) (pe_op o_mod (pe_callTy c_int rfl T.b_int bt_int (pa_cons (pe_op o_add (pe_op o_add (pe_op o_mul (pv 3) pe_int) (pe_op o_mul (pv 2) pe_int)) pe_int) pa_nil)) pe_int))
    (pss_one (ps_for PassesOwn.never rfl (pi_range1 rfl T.b_range (pa_cons pe_int pa_nil)) (pg_name (i := 4) sc__law_drawn.nd rfl (Or.inl rfl))
    (pss_cons (ps_set (i := 5) sc__law_drawn.nd rfl (Or.inl rfl) (pe_op o_mod (pe_callTy c_int rfl T.b_int bt_int (pa_cons (pe_op o_add (pe_op o_add (pe_op o_add (pe_op o_mul (pv 5) (pv 5)) (pe_op o_mul (pv 4) pe_int)) (pe_op o_mul (pv 2) pe_int)) pe_int) pa_nil)) pe_int))
    (pss_one (ps_expr (pe_bm PySem.F.plainAttrs_list PySem.F.slot_list_append PySem.F.type_list_append mt_append (pv 1) (pa_cons (pe_op o_div (pv 5) pe_int) pa_nil)))))))))))))
    (pss_cons (ps_expr (pe_bm0 PySem.F.plainAttrs_list PySem.F.slot_list_reverse PySem.F.type_list_reverse mt_reverse (pv 1)))
    (pss_one (ps_ret (pv 1))))))
set_option maxHeartbeats 4000000 in
theorem ok__law_take (T : Tx P K mg) {f : Addr} {fd : FuncData} (F : FunD K "_law_take" "_law_take" (defArgs s__law_take) (defBody s__law_take) (defScope s__law_take) [] [] f fd) : FnOk P w K mg base (L2.CX P w) 1 f fd ["_law_found", "_law_many"] (sp__law_take K) := by
  refine F.ok sc__law_take (fun vs H Q E h => len__law_take h) (fun cdv A outer s H vs Q E hr h => ⟨t__law_take K, PSs.nox ?_, rd__law_take vs H Q E h⟩)
  exact (pss_cons (ps_if (pt_c op_eq (pe_callB c_len rfl T.b_len bt_len (pa_cons (pv 0) pa_nil)) pe_int (nomark _))
    (pss_one (ps_ret pe_int))
    pss_nil)
    (pss_one (ps_ret (pe_op o_mod (pe_callTy c_int rfl T.b_int bt_int (pa_cons (pe_bm0 PySem.F.plainAttrs_list PySem.F.slot_list_pop PySem.F.type_list_pop mt_pop (pv 0)) pa_nil)) (pv 1)))))
set_option maxHeartbeats 4000000 in
theorem ok__law_powers (T : Tx P K mg) (D__law_take : Dok P w K mg base 1 "_law_take" ["_law_found", "_law_many"] (sp__law_take K)) {f : Addr} {fd : FuncData} (F : FunD K "_law_powers" "_law_powers" (defArgs s__law_powers) (defBody s__law_powers) (defScope s__law_powers) [] [] f fd) : FnOk P w K mg base (L2.CX P w) 2 f fd ["_law_found", "_law_least"] (sp__law_powers K) := by
  refine F.ok sc__law_powers (fun vs H Q E h => len__law_powers h) (fun cdv A outer s H vs Q E hr h => ⟨t__law_powers K, PSs.nox ?_, rd__law_powers vs H Q E h⟩)
  exact (pss_cons (ps_set (i := 2) sc__law_powers.nd rfl (Or.inl rfl) (pe_def D__law_take (hr.mono (by decide)) rfl passL (pa_cons (pv 0) (pa_cons pe_int pa_nil))))
    (pss_cons (ps_if (PW.pt (pw_and (pt_c op_eq (pv 2) pe_int (nomark _)) (pw_and1 (pt_c op_eq (pv 1) pe_int (nomark _)))))
    (pss_one (ps_ret pe_non))
    pss_nil)
    (pss_cons (ps_if (pt_c op_eq (pv 2) pe_int (nomark _))
    (pss_one (ps_ret (pe_lst (pa_cons (pe_def D__law_take (hr.mono (by decide)) rfl passL (pa_cons (pv 0) (pa_cons pe_int pa_nil))) (pa_cons (pe_def D__law_take (hr.mono (by decide)) rfl passL (pa_cons (pv 0) (pa_cons pe_int pa_nil))) (pa_cons (pe_def D__law_take (hr.mono (by decide)) rfl passL (pa_cons (pv 0) (pa_cons pe_int pa_nil))) pa_nil))))))
    pss_nil)
    (pss_cons (ps_if (pt_c op_eq (pv 2) pe_int (nomark _))
    (pss_one (ps_ret (pe_lst (pa_cons pe_int (pa_cons pe_int (pa_cons pe_int pa_nil))))))
    pss_nil)
    (pss_one (ps_ret (pe_lst (pa_cons (pe_def D__law_take (hr.mono (by decide)) rfl passL (pa_cons (pv 0) (pa_cons pe_int pa_nil))) (pa_cons (pe_def D__law_take (hr.mono (by decide)) rfl passL (pa_cons (pv 0) (pa_cons pe_int pa_nil))) (pa_cons (pe_def D__law_take (hr.mono (by decide)) rfl passL (pa_cons (pv 0) (pa_cons pe_int pa_nil))) pa_nil))))))))))
set_option maxHeartbeats 4000000 in
theorem ok__law_worth (T : Tx P K mg) {f : Addr} {fd : FuncData} (F : FunD K "_law_worth" "_law_worth" (defArgs s__law_worth) (defBody s__law_worth) (defScope s__law_worth) [] [] f fd) : FnOk P w K mg base (L2.CX P w) 1 f fd ["_law_powers_here"] (sp__law_worth K) := by
  refine F.ok sc__law_worth (fun vs H Q E h => len__law_worth h) (fun cdv A outer s H vs Q E hr h => ⟨t__law_worth K, PSs.nox ?_, rd__law_worth vs H Q E h⟩)
  exact (pss_cons (ps_if (pt_c o_isN (pv 0) pe_non (nomark _))
    (pss_one (ps_ret pe_int))
    pss_nil)
    (pss_cons (ps_set (i := 1) sc__law_worth.nd rfl (Or.inl rfl) pe_int)
    (pss_cons (ps_for PassesOwn.never rfl (pi_range1 rfl T.b_range (pa_cons (pe_ix ix_seq (pv 0) pe_int (fun _ _ => rfl)) pa_nil)) (pg_name (i := 2) sc__law_worth.nd rfl (Or.inl rfl))
    (pss_one (ps_set (i := 1) sc__law_worth.nd rfl (Or.inl rfl) (pe_op o_mul (pv 1) pe_int))))
    (pss_cons (ps_for PassesOwn.never rfl (pi_range1 rfl T.b_range (pa_cons (pe_ix ix_seq (pv 0) pe_int (fun _ _ => rfl)) pa_nil)) (pg_name (i := 2) sc__law_worth.nd rfl (Or.inl rfl))
    (pss_one (ps_set (i := 1) sc__law_worth.nd rfl (Or.inl rfl) (pe_op o_mul (pv 1) pe_int))))
    (pss_cons (ps_for PassesOwn.never rfl (pi_range1 rfl T.b_range (pa_cons (pe_ix ix_seq (pv 0) pe_int (fun _ _ => rfl)) pa_nil)) (pg_name (i := 2) sc__law_worth.nd rfl (Or.inl rfl))
    (pss_one (ps_set (i := 1) sc__law_worth.nd rfl (Or.inl rfl) (pe_op o_mul (pv 1) pe_int))))
    (pss_one (ps_ret (pv 1))))))))
set_option maxHeartbeats 4000000 in
theorem ok__law_power (T : Tx P K mg) {f : Addr} {fd : FuncData} (F : FunD K "_law_power" "_law_power" (defArgs s__law_power) (defBody s__law_power) (defScope s__law_power) [] [] f fd) : FnOk P w K mg base (L2.CX P w) 1 f fd ["_law_powers_here", "_law_k"] (sp__law_power K) := by
  refine F.ok sc__law_power (fun vs H Q E h => len__law_power h) (fun cdv A outer s H vs Q E hr h => ⟨t__law_power K, PSs.nox ?_, rd__law_power vs H Q E h⟩)
  exact (pss_cons (ps_if (pt_c o_isN (pv 0) pe_non (nomark _))
    (pss_one (ps_ret pe_int))
    pss_nil)
    (pss_one (ps_ret (pe_ix ix_seq (pv 0) (pv 1) (fun _ _ => rfl)))))
set_option maxHeartbeats 4000000 in
theorem ok__law_goes (T : Tx P K mg) (D__law_power : Dok P w K mg base 1 "_law_power" ["_law_powers_here", "_law_k"] (sp__law_power K)) {f : Addr} {fd : FuncData} (F : FunD K "_law_goes" "_law_goes" (defArgs s__law_goes) (defBody s__law_goes) (defScope s__law_goes) [] [] f fd) : FnOk P w K mg base (L2.CX P w) 2 f fd ["_law_one", "_law_other"] (sp__law_goes K) := by
  refine F.ok sc__law_goes (fun vs H Q E h => len__law_goes h) (fun cdv A outer s H vs Q E hr h => ⟨t__law_goes K, PSs.nox ?_, rd__law_goes vs H Q E h⟩)
  exact (pss_cons (ps_if (pt_c o_isN (pe_ix ix_seq (pv 1) pe_int (fun _ _ => rfl)) pe_non (nomark _))
    (pss_cons (ps_if (pt_c o_notN (pe_ix ix_seq (pv 0) pe_int (fun _ _ => rfl)) pe_non (nomark _))
    (pss_one (ps_ret (pe_cmpR o_isN (pe_ix ix_seq (pv 1) pe_int (fun _ _ => rfl)) pe_non (nomark _))))
    pss_nil)
    (pss_one (ps_ret (pe_and (pe_callB (cr_all rfl) rfl T.b_all bt_all (pa_cons (pe_lc (own := [("_law_k", 2)]) (g := gName 2) (tt := tYes) rfl sc__law_goes.nd (pi_range1 rfl T.b_range (pa_cons pe_int pa_nil)) (blkOk_by (own := [("_law_k", 2)]) (N := N__law_goes) (sc := defScope s__law_goes) (by decide +kernel)) (fun _ _ _ _ _ => pg_name (i := 2) sc__law_goes.nd rfl (Or.inl rfl)) (fun _ _ _ _ _ => pts_nil) (fun _ _ _ _ _ => (pe_cmpR o_le (pe_def D__law_power (hr.mono (by decide)) rfl passL (pa_cons (pe_ix ix_seq (pv 0) pe_int (fun _ _ => rfl)) (pa_cons (pv 2) pa_nil))) (pe_def D__law_power (hr.mono (by decide)) rfl passL (pa_cons (pe_ix ix_seq (pv 1) pe_int (fun _ _ => rfl)) (pa_cons (pv 2) pa_nil))) (nomark _)))) pa_nil)) (pe_one (pe_or (pe_cmpR o_notN (pe_ix ix_seq (pv 0) pe_int (fun _ _ => rfl)) pe_non (nomark _)) (pe_one (pe_cmpR o_isN (pe_ix ix_seq (pv 1) pe_int (fun _ _ => rfl)) pe_non (nomark _)))))))))
    pss_nil)
    (pss_cons (ps_for PassesOwn.never rfl (pi_range1 rfl T.b_range (pa_cons pe_int pa_nil)) (pg_name (i := 2) sc__law_goes.nd rfl (Or.inl rfl))
    (pss_cons (ps_set (i := 3) sc__law_goes.nd rfl (Or.inl rfl) (pe_def D__law_power (hr.mono (by decide)) rfl passL (pa_cons (pe_ix ix_seq (pv 1) pe_int (fun _ _ => rfl)) (pa_cons (pv 2) pa_nil))))
    (pss_cons (ps_set (i := 4) sc__law_goes.nd rfl (Or.inl rfl) (pe_op o_add (pe_def D__law_power (hr.mono (by decide)) rfl passL (pa_cons (pe_ix ix_seq (pv 0) pe_int (fun _ _ => rfl)) (pa_cons (pv 2) pa_nil))) (pe_callB (c_max rfl) rfl T.b_max bt_max (pa_cons pe_int (pa_cons (pe_op o_sub (pv 3) (pe_def D__law_power (hr.mono (by decide)) rfl passL (pa_cons (pe_ix ix_seq (pv 0) pe_int (fun _ _ => rfl)) (pa_cons (pv 2) pa_nil)))) pa_nil)))))
    (pss_one (ps_if (pt_c o_gt (pe_callB (c_min rfl) rfl T.b_min bt_min (pa_cons (pv 4) (pa_cons (pv 3) pa_nil))) (pe_def D__law_power (hr.mono (by decide)) rfl passL (pa_cons (pe_ix ix_seq (pv 1) pe_int (fun _ _ => rfl)) (pa_cons (pv 2) pa_nil))) (nomark _))
    (pss_one (ps_ret pe_bl))
    pss_nil)))))
    (pss_one (ps_ret pe_bl))))
set_option maxHeartbeats 4000000 in
theorem ok__law_goes_mod (T : Tx P K mg) (D__law_power : Dok P w K mg base 1 "_law_power" ["_law_powers_here", "_law_k"] (sp__law_power K)) (D__law_goes : Dok P w K mg base 2 "_law_goes" ["_law_one", "_law_other"] (sp__law_goes K)) {f : Addr} {fd : FuncData} (F : FunD K "_law_goes_mod" "_law_goes_mod" (defArgs s__law_goes_mod) (defBody s__law_goes_mod) (defScope s__law_goes_mod) [] [] f fd) : FnOk P w K mg base (L2.CX P w) 3 f fd ["_law_one", "_law_other", "_law_hours"] (sp__law_goes_mod K) := by
  refine F.ok sc__law_goes_mod (fun vs H Q E h => len__law_goes_mod h) (fun cdv A outer s H vs Q E hr h => ⟨t__law_goes_mod K, PSs.nox ?_, rd__law_goes_mod vs H Q E h⟩)
  exact (pss_cons (ps_setLc (i := 3) (own := [("_law_k", 4)]) (g := gName 4) (tt := tYes) rfl sc__law_goes_mod.nd rfl rfl (sw_true rfl rfl rfl (by decide +kernel)) (pi_range1 rfl T.b_range (pa_cons pe_int pa_nil)) (blkOk_by (own := [("_law_k", 4)]) (N := N__law_goes_mod) (sc := defScope s__law_goes_mod) (by decide +kernel)) (fun _ _ _ _ _ => pg_name (i := 4) sc__law_goes_mod.nd rfl (Or.inl rfl)) (fun _ _ _ _ _ => pts_nil) (fun _ _ _ _ _ => (pe_callB (c_min rfl) rfl T.b_min bt_min (pa_cons (pe_ix ix_seq (pv 2) (pv 4) (fun _ _ => rfl)) (pa_cons (pe_def D__law_power (hr.mono (by decide)) rfl passL (pa_cons (pe_ix ix_seq (pv 1) pe_int (fun _ _ => rfl)) (pa_cons (pv 4) pa_nil))) pa_nil)))))
    (pss_one (ps_ret (pe_def D__law_goes (hr.mono (by decide)) rfl passL (pa_cons (pv 0) (pa_cons (pe_tup (pa_cons (pv 3) (pa_cons (pe_ix ix_seq (pv 1) pe_int (fun _ _ => rfl)) pa_nil))) pa_nil))))))
set_option maxHeartbeats 4000000 in
theorem ok__law_good (T : Tx P K mg) (D__law_power : Dok P w K mg base 1 "_law_power" ["_law_powers_here", "_law_k"] (sp__law_power K)) {f : Addr} {fd : FuncData} (F : FunD K "_law_good" "_law_good" (defArgs s__law_good) (defBody s__law_good) (defScope s__law_good) [] [] f fd) : FnOk P w K mg base (L2.CX P w) 2 f fd ["_law_kind", "_law_k", "_law_power_here"] (sp__law_good K) := by
  refine F.ok sc__law_good (fun vs H Q E h => len__law_good h) (fun cdv A outer s H vs Q E hr h => ⟨t__law_good K, PSs.nox ?_, rd__law_good vs H Q E h⟩)
  exact (pss_one (ps_ret (pe_cmpR o_le (pe_callB (c_min rfl) rfl T.b_min bt_min (pa_cons (pv 2) (pa_cons (pe_def D__law_power (hr.mono (by decide)) rfl passL (pa_cons (pe_ix ix_seq (pv 0) pe_int (fun _ _ => rfl)) (pa_cons (pv 1) pa_nil))) pa_nil))) (pe_def D__law_power (hr.mono (by decide)) rfl passL (pa_cons (pe_ix ix_seq (pv 0) pe_int (fun _ _ => rfl)) (pa_cons (pv 1) pa_nil))) (nomark _))))
set_option maxHeartbeats 4000000 in
theorem ok__law_hours_go_on (T : Tx P K mg) (D__law_good : Dok P w K mg base 2 "_law_good" ["_law_kind", "_law_k", "_law_power_here"] (sp__law_good K)) {f : Addr} {fd : FuncData} (F : FunD K "_law_hours_go_on" "_law_hours_go_on" (defArgs s__law_hours_go_on) (defBody s__law_hours_go_on) (defScope s__law_hours_go_on) [] [] f fd) : FnOk P w K mg base (L2.CX P w) 3 f fd ["_law_one", "_law_other"] (sp__law_hours_go_on K) := by
  refine F.ok sc__law_hours_go_on (fun vs H Q E h => len__law_hours_go_on h) (fun cdv A outer s H vs Q E hr h => ⟨t__law_hours_go_on K, PSs.nox ?_, rd__law_hours_go_on vs H Q E h⟩)
  exact (pss_cons (ps_for PassesOwn.never rfl (pi_range1 rfl T.b_range (pa_cons pe_int pa_nil)) (pg_name (i := 2) sc__law_hours_go_on.nd rfl (Or.inl rfl))
    (pss_one (ps_for PassesOwn.never rfl (pi_range2 rfl T.b_range (pa_cons pe_int (pa_cons pe_int pa_nil))) (pg_name (i := 3) sc__law_hours_go_on.nd rfl (Or.inl rfl))
    (pss_one (ps_if (PW.pt (pw_and (pt_e (pe_def D__law_good (hr.mono (by decide)) rfl passL (pa_cons (pv 0) (pa_cons (pv 2) (pa_cons (pv 3) pa_nil))))) (pw_and1 (pt_not (pt_e (pe_def D__law_good (hr.mono (by decide)) rfl passL (pa_cons (pv 1) (pa_cons (pv 2) (pa_cons (pv 3) pa_nil)))))))))
    (pss_one (ps_ret pe_bl))
    pss_nil)))))
    (pss_cons (ps_if (PW.pt (pw_and (pt_c o_isN (pe_ix ix_seq (pv 1) pe_int (fun _ _ => rfl)) pe_non (nomark _)) (pw_and1 (pt_c o_notN (pe_ix ix_seq (pv 1) pe_int (fun _ _ => rfl)) pe_non (nomark _)))))
    (pss_one (ps_ret (pe_cmpR o_isN (pe_ix ix_seq (pv 0) pe_int (fun _ _ => rfl)) pe_non (nomark _))))
    pss_nil)
    (pss_one (ps_ret pe_bl))))
set_option maxHeartbeats 4000000 in
theorem ok__law_kinds (T : Tx P K mg) (D__law_powers : Dok P w K mg base 2 "_law_powers" ["_law_found", "_law_least"] (sp__law_powers K)) (D__law_take : Dok P w K mg base 1 "_law_take" ["_law_found", "_law_many"] (sp__law_take K)) (D__law_worth : Dok P w K mg base 1 "_law_worth" ["_law_powers_here"] (sp__law_worth K)) {f : Addr} {fd : FuncData} (F : FunD K "_law_kinds" "_law_kinds" (defArgs s__law_kinds) (defBody s__law_kinds) (defScope s__law_kinds) [] [] f fd) : FnOk P w K mg base (L2.CX P w) 3 f fd ["_law_found"] (sp__law_kinds K) := by
  refine F.ok sc__law_kinds (fun vs H Q E h => len__law_kinds h) (fun cdv A outer s H vs Q E hr h => ⟨t__law_kinds K, PSs.nox ?_, rd__law_kinds vs H Q E h⟩)
  exact (pss_cons (ps_set (i := 1) sc__law_kinds.nd rfl (Or.inl rfl) (pe_lst pa_nil))
    (pss_cons (ps_for PassesOwn.never rfl (pi_range1 rfl T.b_range (pa_cons pe_int pa_nil)) (pg_name (i := 2) sc__law_kinds.nd rfl (Or.inl rfl))
    (pss_cons (ps_set (i := 3) sc__law_kinds.nd rfl (Or.inl rfl) (pe_def D__law_powers (hr.mono (by decide)) rfl passL (pa_cons (pv 0) (pa_cons pe_int pa_nil))))
    (pss_cons (ps_if (pt_c o_notN (pv 3) pe_non (nomark _))
    (pss_one (ps_set (i := 3) sc__law_kinds.nd rfl (Or.inl rfl) (pe_lst (pa_cons (pe_callB (c_min rfl) rfl T.b_min bt_min (pa_cons (pe_ix ix_seq (pv 3) pe_int (fun _ _ => rfl)) (pa_cons pe_int pa_nil))) (pa_cons (pe_callB (c_min rfl) rfl T.b_min bt_min (pa_cons (pe_ix ix_seq (pv 3) pe_int (fun _ _ => rfl)) (pa_cons pe_int pa_nil))) (pa_cons (pe_callB (c_min rfl) rfl T.b_min bt_min (pa_cons (pe_ix ix_seq (pv 3) pe_int (fun _ _ => rfl)) (pa_cons pe_int pa_nil))) pa_nil))))))
    pss_nil)
    (pss_cons (ps_set (i := 4) sc__law_kinds.nd rfl (Or.inl rfl) (pe_tup (pa_cons (pv 3) (pa_cons (pe_def D__law_powers (hr.mono (by decide)) rfl passL (pa_cons (pv 0) (pa_cons pe_int pa_nil))) pa_nil))))
    (pss_cons (ps_set (i := 5) sc__law_kinds.nd rfl (Or.inl rfl) (pe_op o_sub pe_int (pe_op o_mul pe_int (pe_def D__law_take (hr.mono (by decide)) rfl passL (pa_cons (pv 0) (pa_cons pe_int pa_nil))))))
    (pss_one (ps_expr (pe_bm PySem.F.plainAttrs_list PySem.F.slot_list_append PySem.F.type_list_append mt_append (pv 1) (pa_cons (pe_lst (pa_cons (pv 4) (pa_cons (pe_tup (pa_cons (pe_def D__law_worth (hr.mono (by decide)) rfl passL (pa_cons (pe_ix ix_seq (pv 4) pe_int (fun _ _ => rfl)) pa_nil)) (pa_cons (pe_op o_mul (pv 5) (pe_def D__law_worth (hr.mono (by decide)) rfl passL (pa_cons (pe_ix ix_seq (pv 4) pe_int (fun _ _ => rfl)) pa_nil))) pa_nil))) pa_nil))) pa_nil)))))))))
    (pss_cons (ps_if (pt_c op_eq (pe_def D__law_take (hr.mono (by decide)) rfl passL (pa_cons (pv 0) (pa_cons pe_int pa_nil))) pe_int (nomark _))
    (pss_one (ps_asg (pe_ix ix_seq (pv 1) pe_int (fun _ _ => rfl)) (pg_sub (pv 1) pe_int set_list)))
    pss_nil)
    (pss_one (ps_ret (pv 1))))))
set_option maxHeartbeats 4000000 in
theorem ok__law_pair (T : Tx P K mg) (D_loop_gives : Dok P w K mg base 3 "loop_gives" ["one", "other"] (sp_loop_gives K)) (D__law_goes : Dok P w K mg base 2 "_law_goes" ["_law_one", "_law_other"] (sp__law_goes K)) (D__law_powers : Dok P w K mg base 2 "_law_powers" ["_law_found", "_law_least"] (sp__law_powers K)) (D_loop_sums : Dok P w K mg base 3 "loop_sums" ["one", "other", "hours"] (sp_loop_sums K)) (D__law_worth : Dok P w K mg base 1 "_law_worth" ["_law_powers_here"] (sp__law_worth K)) (D__law_goes_mod : Dok P w K mg base 3 "_law_goes_mod" ["_law_one", "_law_other", "_law_hours"] (sp__law_goes_mod K)) (D__law_hours_go_on : Dok P w K mg base 3 "_law_hours_go_on" ["_law_one", "_law_other"] (sp__law_hours_go_on K)) {f : Addr} {fd : FuncData} (F : FunD K "_law_pair" "_law_pair" (defArgs s__law_pair) (defBody s__law_pair) (defScope s__law_pair) [] [] f fd) : FnOk P w K mg base (L2.CX P w) 4 f fd ["_law_found", "_law_one", "_law_other"] (sp__law_pair K) := by
  refine F.ok sc__law_pair (fun vs H Q E h => len__law_pair h) (fun cdv A outer s H vs Q E hr h => ⟨t__law_pair K, PSs.nox ?_, rd__law_pair vs H Q E h⟩)
  exact (pss_cons (ps_set (i := 3) sc__law_pair.nd rfl (Or.inl rfl) (pe_def D_loop_gives (hr.mono (by decide)) rfl passL (pa_cons (pe_callTy c_list rfl T.b_list bt_list (pa_cons (pe_ix ix_seq (pv 1) pe_int (fun _ _ => rfl)) pa_nil)) (pa_cons (pe_ix ix_seq (pv 2) pe_int (fun _ _ => rfl)) pa_nil))))
    (pss_cons (ps_set (i := 4) sc__law_pair.nd rfl (Or.inl rfl) (pe_def D__law_goes (hr.mono (by decide)) rfl passL (pa_cons (pe_ix ix_seq (pv 1) pe_int (fun _ _ => rfl)) (pa_cons (pe_ix ix_seq (pv 2) pe_int (fun _ _ => rfl)) pa_nil))))
    (pss_cons (ps_if (PW.pt (pw_or (pt_c op_ne (pv 3) (pv 4) (nomark _)) (pw_or1 (pt_not (pt_e (pe_callB call_isi rfl T.b_isinstance bt_isinstance (pa_cons (pv 3) (pa_cons (pe_bltn (v := .ty "bool") rfl T.b_bool bt_bool rfl) pa_nil))))))))
    (pss_one (ps_ret pe_bl))
    pss_nil)
    (pss_cons (ps_set (i := 5) sc__law_pair.nd rfl (Or.inl rfl) (pe_def D__law_powers (hr.mono (by decide)) rfl passL (pa_cons (pv 0) (pa_cons pe_int pa_nil))))
    (pss_cons (ps_set (i := 6) sc__law_pair.nd rfl (Or.inl rfl) (pe_lst (pa_cons (pe_callB (c_min rfl) rfl T.b_min bt_min (pa_cons (pe_ix ix_seq (pv 5) pe_int (fun _ _ => rfl)) (pa_cons pe_int pa_nil))) (pa_cons (pe_callB (c_min rfl) rfl T.b_min bt_min (pa_cons (pe_ix ix_seq (pv 5) pe_int (fun _ _ => rfl)) (pa_cons pe_int pa_nil))) (pa_cons (pe_callB (c_min rfl) rfl T.b_min bt_min (pa_cons (pe_ix ix_seq (pv 5) pe_int (fun _ _ => rfl)) (pa_cons pe_int pa_nil))) pa_nil)))))
    (pss_cons (ps_if (pt_c (op_eqD hr.units) (pv 6) (pe_lst (pa_cons pe_int (pa_cons pe_int (pa_cons pe_int pa_nil)))) (nomark _))
    (pss_one (ps_set (i := 6) sc__law_pair.nd rfl (Or.inl rfl) (pe_lst (pa_cons pe_int (pa_cons pe_int (pa_cons pe_int pa_nil))))))
    pss_nil)
    (pss_cons (ps_set (i := 7) sc__law_pair.nd rfl (Or.inl rfl) (pe_def D_loop_sums (hr.mono (by decide)) rfl passL (pa_cons (pe_ix ix_seq (pv 1) pe_int (fun _ _ => rfl)) (pa_cons (pe_callTy c_list rfl T.b_list bt_list (pa_cons (pe_ix ix_seq (pv 2) pe_int (fun _ _ => rfl)) pa_nil)) (pa_cons (pe_def D__law_worth (hr.mono (by decide)) rfl passL (pa_cons (pv 6) pa_nil)) pa_nil)))))
    (pss_cons (ps_if (PW.pt (pw_or (pt_c op_ne (pv 7) (pe_def D__law_goes_mod (hr.mono (by decide)) rfl passL (pa_cons (pe_ix ix_seq (pv 1) pe_int (fun _ _ => rfl)) (pa_cons (pe_ix ix_seq (pv 2) pe_int (fun _ _ => rfl)) (pa_cons (pv 6) pa_nil)))) (nomark _)) (pw_or (pt_not (pt_e (pe_callB call_isi rfl T.b_isinstance bt_isinstance (pa_cons (pv 7) (pa_cons (pe_bltn (v := .ty "bool") rfl T.b_bool bt_bool rfl) pa_nil))))) (pw_or1 (PW.pt (pw_and (pt_e (pv 3)) (pw_and1 (pt_not (pt_e (pv 7))))))))))
    (pss_one (ps_ret pe_bl))
    pss_nil)
    (pss_cons (ps_if (PW.pt (pw_and (pt_e (pv 3)) (pw_and1 (pt_not (pt_e (pe_def D__law_hours_go_on (hr.mono (by decide)) rfl passL (pa_cons (pe_ix ix_seq (pv 1) pe_int (fun _ _ => rfl)) (pa_cons (pe_ix ix_seq (pv 2) pe_int (fun _ _ => rfl)) pa_nil))))))))
    (pss_one (ps_ret pe_bl))
    pss_nil)
    (pss_cons (ps_set (i := 8) sc__law_pair.nd rfl (Or.inl rfl) (pe_and (pe_cmpR o_gt (pe_ix ix_seq (pe_ix ix_seq (pv 2) pe_int (fun _ _ => rfl)) pe_int (fun _ _ => rfl)) pe_int (nomark _)) (pe_one (pe_cmpR op_eq (pe_op o_mod (pe_callTy c_int rfl T.b_int bt_int (pa_cons (pe_ix ix_seq (pe_ix ix_seq (pv 1) pe_int (fun _ _ => rfl)) pe_int (fun _ _ => rfl)) pa_nil)) (pe_ix ix_seq (pe_ix ix_seq (pv 2) pe_int (fun _ _ => rfl)) pe_int (fun _ _ => rfl))) pe_int (nomark _)))))
    (pss_cons (ps_if (PW.pt (pw_and (PW.pt (pw_or (pt_c op_eq (pe_ix ix_seq (pe_ix ix_seq (pv 1) pe_int (fun _ _ => rfl)) pe_int (fun _ _ => rfl)) pe_int (nomark _)) (pw_or1 (pt_e (pv 8))))) (pw_and1 (pt_e (pe_def D__law_hours_go_on (hr.mono (by decide)) rfl passL (pa_cons (pe_ix ix_seq (pv 1) pe_int (fun _ _ => rfl)) (pa_cons (pe_ix ix_seq (pv 2) pe_int (fun _ _ => rfl)) pa_nil)))))))
    (pss_one (ps_ret (pv 3)))
    pss_nil)
    (pss_one (ps_ret pe_bl)))))))))))))
set_option maxHeartbeats 4000000 in
theorem ok__law_ends (T : Tx P K mg) (D_alone : Dok P w K mg base 3 "alone" ["kind"] (sp_alone K)) (D_loop_gives : Dok P w K mg base 3 "loop_gives" ["one", "other"] (sp_loop_gives K)) {f : Addr} {fd : FuncData} (F : FunD K "_law_ends" "_law_ends" (defArgs s__law_ends) (defBody s__law_ends) (defScope s__law_ends) [] [] f fd) : FnOk P w K mg base (L2.CX P w) 4 f fd ["_law_kind"] (sp__law_ends K) := by
  refine F.ok sc__law_ends (fun vs H Q E h => len__law_ends h) (fun cdv A outer s H vs Q E hr h => ⟨t__law_ends K, PSs.nox ?_, rd__law_ends vs H Q E h⟩)
  exact (pss_cons (ps_if (PW.pt (pw_or (pt_c op_ne (pe_def D_alone (hr.mono (by decide)) rfl passL (pa_cons (pe_callTy c_list rfl T.b_list bt_list (pa_cons (pv 0) pa_nil)) pa_nil)) (pe_def D_loop_gives (hr.mono (by decide)) rfl passL (pa_cons (pe_tup (pa_cons pe_int (pa_cons pe_int pa_nil))) (pa_cons (pv 0) pa_nil))) (nomark _)) (pw_or (pt_not (pt_e (pe_def D_loop_gives (hr.mono (by decide)) rfl passL (pa_cons (pe_tup (pa_cons pe_int (pa_cons pe_int pa_nil))) (pa_cons (pv 0) pa_nil))))) (pw_or1 (pt_not (pt_e (pe_def D_loop_gives (hr.mono (by decide)) rfl passL (pa_cons (pv 0) (pa_cons (pv 0) pa_nil)))))))))
    (pss_one (ps_ret pe_bl))
    pss_nil)
    (pss_one (ps_ret (pe_or (pe_cmpR op_eq (pe_def D_loop_gives (hr.mono (by decide)) rfl passL (pa_cons (pe_tup (pa_cons pe_int (pa_cons pe_int pa_nil))) (pa_cons (pv 0) pa_nil))) (pe_def D_alone (hr.mono (by decide)) rfl passL (pa_cons (pv 0) pa_nil)) (nomark _)) (pe_one (pe_cmpR op_eq (pe_ix ix_seq (pv 0) pe_int (fun _ _ => rfl)) pe_int (nomark _)))))))
set_option maxHeartbeats 4000000 in
theorem ok__law_told_row (T : Tx P K mg) (D_loop_gives : Dok P w K mg base 3 "loop_gives" ["one", "other"] (sp_loop_gives K)) (D_loop_sums : Dok P w K mg base 3 "loop_sums" ["one", "other", "hours"] (sp_loop_sums K)) (D_alone : Dok P w K mg base 3 "alone" ["kind"] (sp_alone K)) {f : Addr} {fd : FuncData} (F : FunD K "_law_told_row" "_law_told_row" (defArgs s__law_told_row) (defBody s__law_told_row) (defScope s__law_told_row) [] [] f fd) : FnOk P w K mg base (L2.CX P w) 4 f fd ["_law_function", "_law_one", "_law_other"] (sp__law_told_row K) := by
  refine F.ok sc__law_told_row (fun vs H Q E h => len__law_told_row h) (fun cdv A outer s H vs Q E hr h => ⟨t__law_told_row K, PSs.nox ?_, rd__law_told_row T.x_BadRow_BadRow vs H Q E h⟩)
  exact (pss_cons (ps_set (i := 3) sc__law_told_row.nd rfl (Or.inl rfl) pe_str)
    (pss_cons (ps_try_as (i := 4) (tb := fun W => (tIfS (tT (tOp rEq (tVar 0) (tC (.int 0))))
    (tDrop (tCw (sp_loop_gives K) W (tCons (tVar 1) (tCons (tVar 2) tNil))))
    (tIfS (tT (tOp rEq (tVar 0) (tC (.int 1))))
    (tDrop (tCw (sp_loop_sums K) W (tCons (tVar 1) (tCons (tVar 2) (tCons (tC (.int 0)) tNil)))))
    (tDrop (tCw (sp_alone K) W (tCons (tVar 1) tNil)))))) (ts := fun a cls d => (tAsg (tByE (He.ga K "BadRow") "place" a cls d (tVar 4)) (gName 3))) (Wout := fun _ _ _ _ => False) rfl rfl sc__law_told_row.nd rfl rfl ⟨rfl, by decide, Or.inl T.e_BadRow.gC⟩ takes0
    (fun W pn xe tk _ => (pss_one (ps_if (pt_c op_eq (pv 0) pe_int (nomark _))
    (pss_one (ps_expr (pe_defW D_loop_gives (hr.mono (by decide)) rfl tk (pa_cons (pv 1) (pa_cons (pv 2) pa_nil)))))
    (pss_one (ps_if (pt_c op_eq (pv 0) pe_int (nomark _))
    (pss_one (ps_expr (pe_defW D_loop_sums (hr.mono (by decide)) rfl tk (pa_cons (pv 1) (pa_cons (pv 2) (pa_cons pe_int pa_nil))))))
    (pss_one (ps_expr (pe_defW D_alone (hr.mono (by decide)) rfl tk (pa_cons (pv 1) pa_nil)))))))))
    (fun a oe cls d pn hz hf => (pss_one (ps_set (i := 3) sc__law_told_row.nd rfl (Or.inl rfl) (pe_byE T.e_BadRow (T.e_BadRow.hno _ (by unfold ps_BadRow; simp)) hz hf (pv 4))))))
    (pss_one (ps_ret (pv 3)))))
set_option maxHeartbeats 4000000 in
theorem ok__law_told_hours (T : Tx P K mg) (D_loop_sums : Dok P w K mg base 3 "loop_sums" ["one", "other", "hours"] (sp_loop_sums K)) {f : Addr} {fd : FuncData} (F : FunD K "_law_told_hours" "_law_told_hours" (defArgs s__law_told_hours) (defBody s__law_told_hours) (defScope s__law_told_hours) [] [] f fd) : FnOk P w K mg base (L2.CX P w) 4 f fd ["_law_one", "_law_other", "_law_hours"] (sp__law_told_hours K) := by
  refine F.ok sc__law_told_hours (fun vs H Q E h => len__law_told_hours h) (fun cdv A outer s H vs Q E hr h => ⟨t__law_told_hours K, PSs.nox ?_, rd__law_told_hours T.x_BadNumber_BadNumber vs H Q E h⟩)
  exact (pss_cons (ps_set (i := 3) sc__law_told_hours.nd rfl (Or.inl rfl) pe_str)
    (pss_cons (ps_try_as (i := 4) (tb := fun W => (tDrop (tCw (sp_loop_sums K) W (tCons (tVar 0) (tCons (tVar 1) (tCons (tVar 2) tNil)))))) (ts := fun a cls d => (tAsg (tByE (He.ga K "BadNumber") "word" a cls d (tVar 4)) (gName 3))) (Wout := fun _ _ _ _ => False) rfl rfl sc__law_told_hours.nd rfl rfl ⟨rfl, by decide, Or.inl T.e_BadNumber.gC⟩ takes0
    (fun W pn xe tk _ => (pss_one (ps_expr (pe_defW D_loop_sums (hr.mono (by decide)) rfl tk (pa_cons (pv 0) (pa_cons (pv 1) (pa_cons (pv 2) pa_nil)))))))
    (fun a oe cls d pn hz hf => (pss_one (ps_set (i := 3) sc__law_told_hours.nd rfl (Or.inl rfl) (pe_byE T.e_BadNumber (T.e_BadNumber.hno _ (by unfold ps_BadNumber; simp)) hz hf (pv 4))))))
    (pss_one (ps_ret (pv 3)))))
set_option maxHeartbeats 4000000 in
theorem ok__law_refused (T : Tx P K mg) (D__law_take : Dok P w K mg base 1 "_law_take" ["_law_found", "_law_many"] (sp__law_take K)) (D__law_told_row : Dok P w K mg base 4 "_law_told_row" ["_law_function", "_law_one", "_law_other"] (sp__law_told_row K)) (D__law_told_hours : Dok P w K mg base 4 "_law_told_hours" ["_law_one", "_law_other", "_law_hours"] (sp__law_told_hours K)) {f : Addr} {fd : FuncData} (F : FunD K "_law_refused" "_law_refused" (defArgs s__law_refused) (defBody s__law_refused) (defScope s__law_refused) [] [] f fd) : FnOk P w K mg base (L2.CX P w) 5 f fd ["_law_found", "_law_kind"] (sp__law_refused K) := by
  refine F.ok sc__law_refused (fun vs H Q E h => len__law_refused h) (fun cdv A outer s H vs Q E hr h => ⟨t__law_refused K, PSs.nox ?_, rd__law_refused vs H Q E h⟩)
  exact (pss_cons (ps_set (i := 2) sc__law_refused.nd rfl (Or.inl rfl) (pe_lst (pa_cons (pe_lst (pa_cons (pe_un u_neg pe_int) (pa_cons pe_int pa_nil))) (pa_cons (pe_lst (pa_cons pe_int pa_nil)) (pa_cons (pe_tup (pa_cons pe_int (pa_cons pe_int (pa_cons pe_int pa_nil)))) (pa_cons pe_int (pa_cons pe_non (pa_cons (pe_lst (pa_cons pe_bl (pa_cons pe_int pa_nil))) (pa_cons (pe_lst (pa_cons pe_int (pa_cons pe_non pa_nil))) (pa_cons (pe_lst pa_nil) (pa_cons (pe_tup (pa_cons pe_int (pa_cons pe_bl pa_nil))) (pa_cons pe_str (pa_cons (pe_lst (pa_cons (pe_un u_neg pe_int) (pa_cons pe_int pa_nil))) pa_nil)))))))))))))
    (pss_cons (ps_set (i := 3) sc__law_refused.nd rfl (Or.inl rfl) (pe_ix ix_seq (pv 2) (pe_def D__law_take (hr.mono (by decide)) rfl passL (pa_cons (pv 0) (pa_cons pe_int pa_nil))) (fun _ _ => rfl)))
    (pss_cons (ps_set (i := 4) sc__law_refused.nd rfl (Or.inl rfl) (pe_ix ix_seq (pv 2) (pe_def D__law_take (hr.mono (by decide)) rfl passL (pa_cons (pv 0) (pa_cons pe_int pa_nil))) (fun _ _ => rfl)))
    (pss_cons (ps_for PassesOwn.never rfl (pi_range1 rfl T.b_range (pa_cons pe_int pa_nil)) (pg_name (i := 5) sc__law_refused.nd rfl (Or.inl rfl))
    (pss_cons (ps_if (PW.pt (pw_or (pt_c op_ne (pe_def D__law_told_row (hr.mono (by decide)) rfl passL (pa_cons (pv 5) (pa_cons (pv 3) (pa_cons (pv 1) pa_nil)))) pe_int (nomark _)) (pw_or1 (pt_c op_ne (pe_def D__law_told_row (hr.mono (by decide)) rfl passL (pa_cons (pv 5) (pa_cons (pv 1) (pa_cons (pv 3) pa_nil)))) pe_int (nomark _)))))
    (pss_one (ps_ret pe_bl))
    pss_nil)
    (pss_one (ps_if (pt_c op_ne (pe_def D__law_told_row (hr.mono (by decide)) rfl passL (pa_cons (pv 5) (pa_cons (pv 3) (pa_cons (pv 4) pa_nil)))) pe_int (nomark _))
    (pss_one (ps_ret pe_bl))
    pss_nil))))
    (pss_cons (ps_if (PW.pt (pw_or (pt_c op_ne (pe_def D__law_told_row (hr.mono (by decide)) rfl passL (pa_cons pe_int (pa_cons (pv 4) (pa_cons (pv 1) pa_nil)))) pe_int (nomark _)) (pw_or1 (pt_c op_ne (pe_def D__law_told_row (hr.mono (by decide)) rfl passL (pa_cons pe_int (pa_cons (pv 1) (pa_cons (pv 4) pa_nil)))) pe_str (nomark _)))))
    (pss_one (ps_ret pe_bl))
    pss_nil)
    (pss_cons (ps_set (i := 6) sc__law_refused.nd rfl (Or.inl rfl) (pe_ix ix_seq (pe_lst (pa_cons pe_int (pa_cons pe_int (pa_cons (pe_un u_neg pe_int) (pa_cons pe_bl (pa_cons pe_non pa_nil)))))) (pe_def D__law_take (hr.mono (by decide)) rfl passL (pa_cons (pv 0) (pa_cons pe_int pa_nil))) (fun _ _ => rfl)))
    (pss_one (ps_ret (pe_cmpR op_eq (pe_def D__law_told_hours (hr.mono (by decide)) rfl passL (pa_cons (pv 1) (pa_cons (pe_callTy c_list rfl T.b_list bt_list (pa_cons (pv 1) pa_nil)) (pa_cons (pv 6) pa_nil)))) pe_str (nomark _))))))))))
set_option maxHeartbeats 4000000 in
theorem ok_law (T : Tx P K mg) (D__law_drawn : Dok P w K mg base 1 "_law_drawn" ["_law_script"] (sp__law_drawn K)) (D__law_kinds : Dok P w K mg base 3 "_law_kinds" ["_law_found"] (sp__law_kinds K)) (D__law_pair : Dok P w K mg base 4 "_law_pair" ["_law_found", "_law_one", "_law_other"] (sp__law_pair K)) (D__law_ends : Dok P w K mg base 4 "_law_ends" ["_law_kind"] (sp__law_ends K)) (D_loop_gives : Dok P w K mg base 3 "loop_gives" ["one", "other"] (sp_loop_gives K)) (D_alone : Dok P w K mg base 3 "alone" ["kind"] (sp_alone K)) (D__law_refused : Dok P w K mg base 5 "_law_refused" ["_law_found", "_law_kind"] (sp__law_refused K)) {f : Addr} {fd : FuncData} (F : FunD K "law" "law" (defArgs s_law) (defBody s_law) (defScope s_law) [] [] f fd) : FnOk P w K mg base CX0 6 f fd ["_law_script"] (sp_law K) := by
  refine F.ok sc_law (fun vs H Q E h => len_law h) (fun cdv A outer s H vs Q E hr h => ⟨t_law K, PSs.nox ?_, rd_law vs H Q E h⟩)
  exact (pss_cons (ps_set (i := 1) sc_law.nd rfl (Or.inl rfl) (pe_def D__law_drawn (hr.mono (by decide)) rfl passL (pa_cons (pv 0) pa_nil)))
    (pss_cons (ps_set (i := 2) sc_law.nd rfl (Or.inl rfl) (pe_def D__law_kinds (hr.mono (by decide)) rfl passL (pa_cons (pv 1) pa_nil)))
    (pss_cons (ps_for PassesOwn.never rfl (pi_list (pv 2)) (pg_name (i := 3) sc_law.nd rfl (Or.inl rfl))
    (pss_cons (ps_for PassesOwn.never rfl (pi_list (pv 2)) (pg_name (i := 4) sc_law.nd rfl (Or.inl rfl))
    (pss_one (ps_if (pt_not (pt_e (pe_def D__law_pair (hr.mono (by decide)) rfl passL (pa_cons (pv 1) (pa_cons (pv 3) (pa_cons (pv 4) pa_nil))))))
    (pss_one (ps_ret pe_bl))
    pss_nil)))
    (pss_one (ps_if (pt_not (pt_e (pe_def D__law_ends (hr.mono (by decide)) rfl passL (pa_cons (pe_ix ix_seq (pv 3) pe_int (fun _ _ => rfl)) pa_nil))))
    (pss_one (ps_ret pe_bl))
    pss_nil))))
    (pss_cons (ps_setLc (i := 5) (own := [("_law_row", 6)]) (g := gName 6) (tt := tYes) rfl sc_law.nd rfl rfl (sw_true rfl rfl rfl (by decide +kernel)) (pi_list (pv 2)) (blkOk_by (own := [("_law_row", 6)]) (N := N_law) (sc := defScope s_law) (by decide +kernel)) (fun _ _ _ _ _ => pg_name (i := 6) sc_law.nd rfl (Or.inl rfl)) (fun _ _ _ _ _ => pts_nil) (fun _ _ _ _ _ => (pe_ix ix_seq (pv 6) pe_int (fun _ _ => rfl))))
    (pss_cons (ps_if (PW.pt (pw_and (pt_e (pe_def D_loop_gives (hr.mono (by decide)) rfl passL (pa_cons (pe_ix ix_seq (pv 5) pe_int (fun _ _ => rfl)) (pa_cons (pe_ix ix_seq (pv 5) pe_int (fun _ _ => rfl)) pa_nil)))) (pw_and (pt_e (pe_def D_loop_gives (hr.mono (by decide)) rfl passL (pa_cons (pe_ix ix_seq (pv 5) pe_int (fun _ _ => rfl)) (pa_cons (pe_ix ix_seq (pv 5) pe_int (fun _ _ => rfl)) pa_nil)))) (pw_and1 (pt_not (pt_e (pe_def D_loop_gives (hr.mono (by decide)) rfl passL (pa_cons (pe_ix ix_seq (pv 5) pe_int (fun _ _ => rfl)) (pa_cons (pe_ix ix_seq (pv 5) pe_int (fun _ _ => rfl)) pa_nil)))))))))
    (pss_one (ps_ret pe_bl))
    pss_nil)
    (pss_cons (ps_if (PW.pt (pw_and (pt_e (pe_def D_alone (hr.mono (by decide)) rfl passL (pa_cons (pe_ix ix_seq (pv 5) pe_int (fun _ _ => rfl)) pa_nil))) (pw_and1 (pt_not (PW.pt (pw_and (pt_e (pe_def D_loop_gives (hr.mono (by decide)) rfl passL (pa_cons (pe_ix ix_seq (pv 5) pe_int (fun _ _ => rfl)) (pa_cons (pe_ix ix_seq (pv 5) pe_int (fun _ _ => rfl)) pa_nil)))) (pw_and1 (pt_e (pe_def D_loop_gives (hr.mono (by decide)) rfl passL (pa_cons (pe_ix ix_seq (pv 5) pe_int (fun _ _ => rfl)) (pa_cons (pe_ix ix_seq (pv 5) pe_int (fun _ _ => rfl)) pa_nil)))))))))))
    (pss_one (ps_ret pe_bl))
    pss_nil)
    (pss_cons (ps_if (PW.pt (pw_or (pt_e (pe_def D_loop_gives (hr.mono (by decide)) rfl passL (pa_cons (pe_tup (pa_cons pe_int (pa_cons pe_int pa_nil))) (pa_cons (pe_tup (pa_cons pe_int (pa_cons pe_int pa_nil))) pa_nil)))) (pw_or1 (pt_not (pt_e (pe_def D_loop_gives (hr.mono (by decide)) rfl passL (pa_cons (pe_tup (pa_cons pe_int (pa_cons pe_int pa_nil))) (pa_cons (pe_tup (pa_cons pe_int (pa_cons pe_int pa_nil))) pa_nil))))))))
    (pss_one (ps_ret pe_bl))
    pss_nil)
    (pss_one (ps_ret (pe_def D__law_refused (hr.mono (by decide)) rfl passL (pa_cons (pv 1) (pa_cons (pe_ix ix_seq (pv 5) pe_int (fun _ _ => rfl)) pa_nil))))))))))))
end
end K63
end
section
set_option Elab.async false
set_option linter.all false
set_option maxRecDepth 100000
set_option maxHeartbeats 0
/-! the head and the end, printed by gen.py -/
namespace K63
open PySem PySem.Spec PyProof.Rows L2 Nw
def dd_is_int : He.DefD := ⟨("is_int", none), "is_int", "is_int", defArgs s_is_int, defBody s_is_int, defScope s_is_int, [], []⟩
def dd_is_row : He.DefD := ⟨("is_row", none), "is_row", "is_row", defArgs s_is_row, defBody s_is_row, defScope s_is_row, [], []⟩
def dd_check_number : He.DefD := ⟨("check_number", none), "check_number", "check_number", defArgs s_check_number, defBody s_check_number, defScope s_check_number, [], []⟩
def dd__check_kind : He.DefD := ⟨("_check_kind", none), "_check_kind", "_check_kind", defArgs s__check_kind, defBody s__check_kind, defScope s__check_kind, [], []⟩
def dd__goes_into : He.DefD := ⟨("_goes_into", none), "_goes_into", "_goes_into", defArgs s__goes_into, defBody s__goes_into, defScope s__goes_into, [], []⟩
def dd_loop_gives : He.DefD := ⟨("loop_gives", none), "loop_gives", "loop_gives", defArgs s_loop_gives, defBody s_loop_gives, defScope s_loop_gives, [], []⟩
def dd_loop_sums : He.DefD := ⟨("loop_sums", none), "loop_sums", "loop_sums", defArgs s_loop_sums, defBody s_loop_sums, defScope s_loop_sums, [], []⟩
def dd_alone : He.DefD := ⟨("alone", none), "alone", "alone", defArgs s_alone, defBody s_alone, defScope s_alone, [], []⟩
def dd__law_drawn : He.DefD := ⟨("_law_drawn", none), "_law_drawn", "_law_drawn", defArgs s__law_drawn, defBody s__law_drawn, defScope s__law_drawn, [], []⟩
def dd__law_take : He.DefD := ⟨("_law_take", none), "_law_take", "_law_take", defArgs s__law_take, defBody s__law_take, defScope s__law_take, [], []⟩
def dd__law_powers : He.DefD := ⟨("_law_powers", none), "_law_powers", "_law_powers", defArgs s__law_powers, defBody s__law_powers, defScope s__law_powers, [], []⟩
def dd__law_worth : He.DefD := ⟨("_law_worth", none), "_law_worth", "_law_worth", defArgs s__law_worth, defBody s__law_worth, defScope s__law_worth, [], []⟩
def dd__law_power : He.DefD := ⟨("_law_power", none), "_law_power", "_law_power", defArgs s__law_power, defBody s__law_power, defScope s__law_power, [], []⟩
def dd__law_goes : He.DefD := ⟨("_law_goes", none), "_law_goes", "_law_goes", defArgs s__law_goes, defBody s__law_goes, defScope s__law_goes, [], []⟩
def dd__law_goes_mod : He.DefD := ⟨("_law_goes_mod", none), "_law_goes_mod", "_law_goes_mod", defArgs s__law_goes_mod, defBody s__law_goes_mod, defScope s__law_goes_mod, [], []⟩
def dd__law_good : He.DefD := ⟨("_law_good", none), "_law_good", "_law_good", defArgs s__law_good, defBody s__law_good, defScope s__law_good, [], []⟩
def dd__law_hours_go_on : He.DefD := ⟨("_law_hours_go_on", none), "_law_hours_go_on", "_law_hours_go_on", defArgs s__law_hours_go_on, defBody s__law_hours_go_on, defScope s__law_hours_go_on, [], []⟩
def dd__law_kinds : He.DefD := ⟨("_law_kinds", none), "_law_kinds", "_law_kinds", defArgs s__law_kinds, defBody s__law_kinds, defScope s__law_kinds, [], []⟩
def dd__law_pair : He.DefD := ⟨("_law_pair", none), "_law_pair", "_law_pair", defArgs s__law_pair, defBody s__law_pair, defScope s__law_pair, [], []⟩
def dd__law_ends : He.DefD := ⟨("_law_ends", none), "_law_ends", "_law_ends", defArgs s__law_ends, defBody s__law_ends, defScope s__law_ends, [], []⟩
def dd__law_told_row : He.DefD := ⟨("_law_told_row", none), "_law_told_row", "_law_told_row", defArgs s__law_told_row, defBody s__law_told_row, defScope s__law_told_row, [], []⟩
def dd__law_told_hours : He.DefD := ⟨("_law_told_hours", none), "_law_told_hours", "_law_told_hours", defArgs s__law_told_hours, defBody s__law_told_hours, defScope s__law_told_hours, [], []⟩
def dd__law_refused : He.DefD := ⟨("_law_refused", none), "_law_refused", "_law_refused", defArgs s__law_refused, defBody s__law_refused, defScope s__law_refused, [], []⟩
def dd_law : He.DefD := ⟨("law", none), "law", "law", defArgs s_law, defBody s_law, defScope s_law, [], []⟩
abbrev s_BadNumber__init__ : Stmt := inClass (top 3) 0
def de_BadNumber : NwH.ErrD := ⟨"BadNumber", "BadNumber.__init__", defArgs s_BadNumber__init__, defBody s_BadNumber__init__, defScope s_BadNumber__init__, ps_BadNumber⟩
abbrev s_BadRow__init__ : Stmt := inClass (top 4) 0
def de_BadRow : NwH.ErrD := ⟨"BadRow", "BadRow.__init__", defArgs s_BadRow__init__, defBody s_BadRow__init__, defScope s_BadRow__init__, ps_BadRow⟩
def row : NwH.Row := { fb := [fun K => (He.Fa.free "isinstance").ok K, fun K => (He.Fa.free "int").ok K, fun K => (He.Fa.free "bool").ok K, fun K => (He.Fa.free "tuple").ok K, fun K => (He.Fa.free "list").ok K, fun K => (He.Fa.free "len").ok K, fun K => (He.Fa.free "range").ok K, fun K => (He.Fa.free "min").ok K, fun K => (He.Fa.free "all").ok K, fun K => (He.Fa.free "max").ok K, fun K => He.eqO (PySem.W.nsIn K mainGlobals "gcd") (some (some (.builtin "math.gcd"))), fun K => (He.Fa.glo "is_int").ok K, fun K => (He.Fa.glo "is_row").ok K, fun K => (He.Fa.glo "check_number").ok K, fun K => (He.Fa.glo "_check_kind").ok K, fun K => (He.Fa.glo "_goes_into").ok K, fun K => (He.Fa.glo "loop_gives").ok K, fun K => (He.Fa.glo "loop_sums").ok K, fun K => (He.Fa.glo "alone").ok K, fun K => (He.Fa.glo "_law_drawn").ok K, fun K => (He.Fa.glo "_law_take").ok K, fun K => (He.Fa.glo "_law_powers").ok K, fun K => (He.Fa.glo "_law_worth").ok K, fun K => (He.Fa.glo "_law_power").ok K, fun K => (He.Fa.glo "_law_goes").ok K, fun K => (He.Fa.glo "_law_goes_mod").ok K, fun K => (He.Fa.glo "_law_good").ok K, fun K => (He.Fa.glo "_law_hours_go_on").ok K, fun K => (He.Fa.glo "_law_kinds").ok K, fun K => (He.Fa.glo "_law_pair").ok K, fun K => (He.Fa.glo "_law_ends").ok K, fun K => (He.Fa.glo "_law_told_row").ok K, fun K => (He.Fa.glo "_law_told_hours").ok K, fun K => (He.Fa.glo "_law_refused").ok K, fun K => (He.Fa.glo "law").ok K, fun K => (He.Fa.glo "BadNumber").ok K, fun K => (He.Fa.glo "BadRow").ok K, fun K => (He.Fa.free "super").ok K, fun K => decide (PySem.W.exmOne K (.ref (He.ga K "BadRow")) (.ref (He.ga K "BadRow")) = some true), fun K => decide (PySem.W.exmOne K (.ref (He.ga K "BadNumber")) (.ref (He.ga K "BadNumber")) = some true)], fn := [dd_is_int, dd_is_row, dd_check_number, dd__check_kind, dd__goes_into, dd_loop_gives, dd_loop_sums, dd_alone, dd__law_drawn, dd__law_take, dd__law_powers, dd__law_worth, dd__law_power, dd__law_goes, dd__law_goes_mod, dd__law_good, dd__law_hours_go_on, dd__law_kinds, dd__law_pair, dd__law_ends, dd__law_told_row, dd__law_told_hours, dd__law_refused, dd_law], er := [de_BadNumber, de_BadRow], file := "/claim/cut.py" }
abbrev R : PySem.W.OpenRow := PySem.W.OpenLaw.row PySem.Challenge.rw_nowaittasks_k63_order_of_giving
abbrev hk : PySem.W.Hook := row.hook 5
def ob (s : PySem.W.SharedT) : NwH.Al := row.obsG 5 (HandSHeadRun.getT s)
theorem ob_eq (s : PySem.W.SharedT) : ob s = hk.obs s.abs := row.obs_eq (HandSHeadRun.getT_eq s)
def loose : List Str := (["TaskError", "BadNumber", "BadRow", "is_int", "is_row", "check_number", "_check_kind", "_goes_into", "loop_gives", "loop_sums", "alone", "_law_drawn", "_law_take", "_law_powers", "_law_worth", "_law_power", "_law_goes", "_law_goes_mod", "_law_good", "_law_hours_go_on", "_law_kinds", "_law_pair", "_law_ends", "_law_told_row", "_law_told_hours", "_law_refused"] : List Str)
theorem run (w : World) : HandSHeadRun.RunEqI R (PySem.W.view R.prog [0, 31]) hk ob 4000 loose w := by
  unfold HandSHeadRun.RunEqI
  kernel_rfl
theorem es_BadNumber : NwX.ErrS "BadNumber.__init__" (defArgs s_BadNumber__init__) (defBody s_BadNumber__init__) (defScope s_BadNumber__init__) ps_BadNumber := ⟨by decide +kernel, rfl, rfl, rfl, by decide +kernel, by decide +kernel, by decide +kernel, by decide +kernel, ⟨_, rfl, rfl⟩, by decide +kernel, fun _ _ _ _ _ _ _ us hl => match us, hl with | [_, _], _ => rfl⟩
theorem eo_BadNumber {K : PySem.W.Frag} {mg : Str → Option Value} (gC : mg "BadNumber" = some (.ref (He.ga K "BadNumber"))) (gS : mg "super" = none) (h : NwX.ErrK R.prog K (He.ga K "BadNumber") (NwH.initAt K "BadNumber") "BadNumber.__init__" (defArgs s_BadNumber__init__) (defBody s_BadNumber__init__) (defScope s_BadNumber__init__) ∧ ∀ p ∈ ps_BadNumber, PySem.W.findIn K (.ref (He.ga K "BadNumber")) p = some none) :
    ErrOk R.prog K mg "BadNumber" (He.ga K "BadNumber") ps_BadNumber ok_BadNumber := by
  obtain ⟨e, p0, p1, p2, p3, p4, hb, hc, hm⟩ : ∃ e p0 p1 p2 p3 p4, NwX.BodyIs e p0 p1 p2 p3 p4 (defBody s_BadNumber__init__) ps_BadNumber ∧ (∀ fI L cda cc : Addr, NwX.CallOk (PySem.W.envX "BadNumber.__init__" (defScope s_BadNumber__init__) L fI (.ref cda) [("__class__", cc)]) e p0 p1 p2 p3 p4) ∧
      ∃ x j q1 q2 q3, e = .BinOp (.Constant (.str x) j q1) .Add (.Name "word" q2) q3 ∧ x.length ≤ 100 :=
    ⟨_, _, _, _, _, _, ⟨_, _, _, _, rfl⟩, fun fI L cda cc => ⟨⟨_, rfl⟩, rfl, rfl, rfl⟩, _, _, _, _, _, rfl, by decide⟩
  obtain ⟨xm, j, q1, q2, q3, rfl, hx⟩ := hm
  refine ⟨gC, gS, by decide +kernel, h.1.ga, h.1.gg, h.1.kC, h.1.exC, h.1.tyC, h.1.hdC, h.2, by decide +kernel, by decide +kernel, by decide, fun vs h => len_ok_BadNumber h, _, _, _, _, _, _, _, _, _, _, _, h.1, es_BadNumber, hb, fun L cda cc => hc _ L cda cc, fun vs us ho r x L cc cda => ?_⟩
  exact msgAdd_BadNumber ho r hx rfl rfl
theorem es_BadRow : NwX.ErrS "BadRow.__init__" (defArgs s_BadRow__init__) (defBody s_BadRow__init__) (defScope s_BadRow__init__) ps_BadRow := ⟨by decide +kernel, rfl, rfl, rfl, by decide +kernel, by decide +kernel, by decide +kernel, by decide +kernel, ⟨_, rfl, rfl⟩, by decide +kernel, fun _ _ _ _ _ _ _ us hl => match us, hl with | [_, _], _ => rfl⟩
theorem eo_BadRow {K : PySem.W.Frag} {mg : Str → Option Value} (gC : mg "BadRow" = some (.ref (He.ga K "BadRow"))) (gS : mg "super" = none) (h : NwX.ErrK R.prog K (He.ga K "BadRow") (NwH.initAt K "BadRow") "BadRow.__init__" (defArgs s_BadRow__init__) (defBody s_BadRow__init__) (defScope s_BadRow__init__) ∧ ∀ p ∈ ps_BadRow, PySem.W.findIn K (.ref (He.ga K "BadRow")) p = some none) :
    ErrOk R.prog K mg "BadRow" (He.ga K "BadRow") ps_BadRow ok_BadRow := by
  obtain ⟨e, p0, p1, p2, p3, p4, hb, hc, x, j, p, hm⟩ : ∃ e p0 p1 p2 p3 p4, NwX.BodyIs e p0 p1 p2 p3 p4 (defBody s_BadRow__init__) ps_BadRow ∧ (∀ fI L cda cc : Addr, NwX.CallOk (PySem.W.envX "BadRow.__init__" (defScope s_BadRow__init__) L fI (.ref cda) [("__class__", cc)]) e p0 p1 p2 p3 p4) ∧ ∃ x j p, e = .Constant (.str x) j p :=
    ⟨_, _, _, _, _, _, ⟨_, _, _, _, rfl⟩, fun fI L cda cc => ⟨⟨_, rfl⟩, rfl, rfl, rfl⟩, _, _, _, rfl⟩
  refine ⟨gC, gS, by decide +kernel, h.1.ga, h.1.gg, h.1.kC, h.1.exC, h.1.tyC, h.1.hdC, h.2, by decide +kernel, by decide +kernel, by decide, fun vs h => len_ok_BadRow h, _, _, _, _, _, _, _, _, _, _, _, h.1, es_BadRow, hb, fun L cda cc => hc _ L cda cc, fun vs us ho r y L cc cda => ?_⟩
  rw [hm]
  exact NwX.msg_const
theorem facts {w : World} {K : PySem.W.Frag} {h : Heap} {mg : Str → Option Value} {f : Addr} (X : K.In h) (G : h.Ns mainGlobals mg) (hfa : mg ("law" : Str) = some (.ref f)) (c : row.Says K) :
    ∃ fd : FuncData, (∀ (s : Shared) (v : Value), BindsTo s fd ⟨[v], []⟩ [("_law_script", v)]) ∧ ∀ base : Heap, K.In base → base.Ns mainGlobals mg → FnOk R.prog w K mg base CX0 6 f fd ["_law_script"] (sp_law K) := by
  have T : Tx R.prog K mg := ⟨He.free_ok X G (c.fact 0 (f := fun K => (He.Fa.free "isinstance").ok K) rfl), He.free_ok X G (c.fact 1 (f := fun K => (He.Fa.free "int").ok K) rfl), He.free_ok X G (c.fact 2 (f := fun K => (He.Fa.free "bool").ok K) rfl), He.free_ok X G (c.fact 3 (f := fun K => (He.Fa.free "tuple").ok K) rfl), He.free_ok X G (c.fact 4 (f := fun K => (He.Fa.free "list").ok K) rfl), He.free_ok X G (c.fact 5 (f := fun K => (He.Fa.free "len").ok K) rfl), He.free_ok X G (c.fact 6 (f := fun K => (He.Fa.free "range").ok K) rfl), He.free_ok X G (c.fact 7 (f := fun K => (He.Fa.free "min").ok K) rfl), He.free_ok X G (c.fact 8 (f := fun K => (He.Fa.free "all").ok K) rfl), He.free_ok X G (c.fact 9 (f := fun K => (He.Fa.free "max").ok K) rfl), PySem.W.mg_of X G (He.eqO_ok (c.fact 10 (f := fun K => He.eqO (PySem.W.nsIn K mainGlobals "gcd") (some (some (.builtin "math.gcd")))) rfl)), of_decide_eq_true (c.fact 38 (f := fun K => decide (PySem.W.exmOne K (.ref (He.ga K "BadRow")) (.ref (He.ga K "BadRow")) = some true)) rfl), of_decide_eq_true (c.fact 39 (f := fun K => decide (PySem.W.exmOne K (.ref (He.ga K "BadNumber")) (.ref (He.ga K "BadNumber")) = some true)) rfl), eo_BadNumber (He.glo_ok X G (x := "BadNumber") (c.fact 35 (f := fun K => (He.Fa.glo "BadNumber").ok K) rfl)) (He.free_ok X G (c.fact 37 (f := fun K => (He.Fa.free "super").ok K) rfl)) (c.err (P := R.prog) rfl 0 (d := de_BadNumber) rfl), eo_BadRow (He.glo_ok X G (x := "BadRow") (c.fact 36 (f := fun K => (He.Fa.glo "BadRow").ok K) rfl)) (He.free_ok X G (c.fact 37 (f := fun K => (He.Fa.free "super").ok K) rfl)) (c.err (P := R.prog) rfl 1 (d := de_BadRow) rfl)⟩
  obtain ⟨fd_is_int, F_is_int⟩ := c.def_ 0 (d := dd_is_int) rfl
  obtain ⟨fd_is_row, F_is_row⟩ := c.def_ 1 (d := dd_is_row) rfl
  obtain ⟨fd_check_number, F_check_number⟩ := c.def_ 2 (d := dd_check_number) rfl
  obtain ⟨fd__check_kind, F__check_kind⟩ := c.def_ 3 (d := dd__check_kind) rfl
  obtain ⟨fd__goes_into, F__goes_into⟩ := c.def_ 4 (d := dd__goes_into) rfl
  obtain ⟨fd_loop_gives, F_loop_gives⟩ := c.def_ 5 (d := dd_loop_gives) rfl
  obtain ⟨fd_loop_sums, F_loop_sums⟩ := c.def_ 6 (d := dd_loop_sums) rfl
  obtain ⟨fd_alone, F_alone⟩ := c.def_ 7 (d := dd_alone) rfl
  obtain ⟨fd__law_drawn, F__law_drawn⟩ := c.def_ 8 (d := dd__law_drawn) rfl
  obtain ⟨fd__law_take, F__law_take⟩ := c.def_ 9 (d := dd__law_take) rfl
  obtain ⟨fd__law_powers, F__law_powers⟩ := c.def_ 10 (d := dd__law_powers) rfl
  obtain ⟨fd__law_worth, F__law_worth⟩ := c.def_ 11 (d := dd__law_worth) rfl
  obtain ⟨fd__law_power, F__law_power⟩ := c.def_ 12 (d := dd__law_power) rfl
  obtain ⟨fd__law_goes, F__law_goes⟩ := c.def_ 13 (d := dd__law_goes) rfl
  obtain ⟨fd__law_goes_mod, F__law_goes_mod⟩ := c.def_ 14 (d := dd__law_goes_mod) rfl
  obtain ⟨fd__law_good, F__law_good⟩ := c.def_ 15 (d := dd__law_good) rfl
  obtain ⟨fd__law_hours_go_on, F__law_hours_go_on⟩ := c.def_ 16 (d := dd__law_hours_go_on) rfl
  obtain ⟨fd__law_kinds, F__law_kinds⟩ := c.def_ 17 (d := dd__law_kinds) rfl
  obtain ⟨fd__law_pair, F__law_pair⟩ := c.def_ 18 (d := dd__law_pair) rfl
  obtain ⟨fd__law_ends, F__law_ends⟩ := c.def_ 19 (d := dd__law_ends) rfl
  obtain ⟨fd__law_told_row, F__law_told_row⟩ := c.def_ 20 (d := dd__law_told_row) rfl
  obtain ⟨fd__law_told_hours, F__law_told_hours⟩ := c.def_ 21 (d := dd__law_told_hours) rfl
  obtain ⟨fd__law_refused, F__law_refused⟩ := c.def_ 22 (d := dd__law_refused) rfl
  obtain ⟨fd_law, F_law⟩ := c.def_ 23 (d := dd_law) rfl
  have e := hfa.symm.trans (He.glo_ok X G (x := "law") (c.fact 34 (f := fun K => (He.Fa.glo "law").ok K) rfl))
  cases e
  have b := FunD.bindsA (ps := ["_law_script"]) F_law fun _ _ _ _ _ _ us hl => match us, hl with | [_], _ => rfl
  refine ⟨fd_law, fun s v => b s [v] rfl, fun base _ _ => ?_⟩
  have D_is_int : Dok R.prog w K mg base 1 "is_int" ["thing"] (sp_is_int K) := ⟨_, _, ok_is_int (w := w) (base := base) T F_is_int, He.glo_ok X G (x := "is_int") (c.fact 11 (f := fun K => (He.Fa.glo "is_int").ok K) rfl), F_is_int.kp, F_is_int.bindsN fun _ _ _ _ _ _ us hl => match us, hl with | [_], _ => rfl⟩
  have D_is_row : Dok R.prog w K mg base 1 "is_row" ["thing"] (sp_is_row K) := ⟨_, _, ok_is_row (w := w) (base := base) T F_is_row, He.glo_ok X G (x := "is_row") (c.fact 12 (f := fun K => (He.Fa.glo "is_row").ok K) rfl), F_is_row.kp, F_is_row.bindsN fun _ _ _ _ _ _ us hl => match us, hl with | [_], _ => rfl⟩
  have D_check_number : Dok R.prog w K mg base 2 "check_number" ["number", "least", "word"] (sp_check_number K) := ⟨_, _, ok_check_number (w := w) (base := base) T D_is_int F_check_number, He.glo_ok X G (x := "check_number") (c.fact 13 (f := fun K => (He.Fa.glo "check_number").ok K) rfl), F_check_number.kp, F_check_number.bindsN fun _ _ _ _ _ _ us hl => match us, hl with | [_, _, _], _ => rfl⟩
  have D__check_kind : Dok R.prog w K mg base 2 "_check_kind" ["pair", "place"] (sp__check_kind K) := ⟨_, _, ok__check_kind (w := w) (base := base) T D_is_row D_is_int F__check_kind, He.glo_ok X G (x := "_check_kind") (c.fact 14 (f := fun K => (He.Fa.glo "_check_kind").ok K) rfl), F__check_kind.kp, F__check_kind.bindsN fun _ _ _ _ _ _ us hl => match us, hl with | [_, _], _ => rfl⟩
  have D__goes_into : Dok R.prog w K mg base 1 "_goes_into" ["number", "other"] (sp__goes_into K) := ⟨_, _, ok__goes_into (w := w) (base := base) T F__goes_into, He.glo_ok X G (x := "_goes_into") (c.fact 15 (f := fun K => (He.Fa.glo "_goes_into").ok K) rfl), F__goes_into.kp, F__goes_into.bindsN fun _ _ _ _ _ _ us hl => match us, hl with | [_, _], _ => rfl⟩
  have D_loop_gives : Dok R.prog w K mg base 3 "loop_gives" ["one", "other"] (sp_loop_gives K) := ⟨_, _, ok_loop_gives (w := w) (base := base) T D__check_kind D__goes_into F_loop_gives, He.glo_ok X G (x := "loop_gives") (c.fact 16 (f := fun K => (He.Fa.glo "loop_gives").ok K) rfl), F_loop_gives.kp, F_loop_gives.bindsN fun _ _ _ _ _ _ us hl => match us, hl with | [_, _], _ => rfl⟩
  have D_loop_sums : Dok R.prog w K mg base 3 "loop_sums" ["one", "other", "hours"] (sp_loop_sums K) := ⟨_, _, ok_loop_sums (w := w) (base := base) T D__check_kind D_check_number D__goes_into F_loop_sums, He.glo_ok X G (x := "loop_sums") (c.fact 17 (f := fun K => (He.Fa.glo "loop_sums").ok K) rfl), F_loop_sums.kp, F_loop_sums.bindsN fun _ _ _ _ _ _ us hl => match us, hl with | [_, _, _], _ => rfl⟩
  have D_alone : Dok R.prog w K mg base 3 "alone" ["kind"] (sp_alone K) := ⟨_, _, ok_alone (w := w) (base := base) T D__check_kind D__goes_into F_alone, He.glo_ok X G (x := "alone") (c.fact 18 (f := fun K => (He.Fa.glo "alone").ok K) rfl), F_alone.kp, F_alone.bindsN fun _ _ _ _ _ _ us hl => match us, hl with | [_], _ => rfl⟩
  have D__law_drawn : Dok R.prog w K mg base 1 "_law_drawn" ["_law_script"] (sp__law_drawn K) := ⟨_, _, ok__law_drawn (w := w) (base := base) T F__law_drawn, He.glo_ok X G (x := "_law_drawn") (c.fact 19 (f := fun K => (He.Fa.glo "_law_drawn").ok K) rfl), F__law_drawn.kp, F__law_drawn.bindsN fun _ _ _ _ _ _ us hl => match us, hl with | [_], _ => rfl⟩
  have D__law_take : Dok R.prog w K mg base 1 "_law_take" ["_law_found", "_law_many"] (sp__law_take K) := ⟨_, _, ok__law_take (w := w) (base := base) T F__law_take, He.glo_ok X G (x := "_law_take") (c.fact 20 (f := fun K => (He.Fa.glo "_law_take").ok K) rfl), F__law_take.kp, F__law_take.bindsN fun _ _ _ _ _ _ us hl => match us, hl with | [_, _], _ => rfl⟩
  have D__law_powers : Dok R.prog w K mg base 2 "_law_powers" ["_law_found", "_law_least"] (sp__law_powers K) := ⟨_, _, ok__law_powers (w := w) (base := base) T D__law_take F__law_powers, He.glo_ok X G (x := "_law_powers") (c.fact 21 (f := fun K => (He.Fa.glo "_law_powers").ok K) rfl), F__law_powers.kp, F__law_powers.bindsN fun _ _ _ _ _ _ us hl => match us, hl with | [_, _], _ => rfl⟩
  have D__law_worth : Dok R.prog w K mg base 1 "_law_worth" ["_law_powers_here"] (sp__law_worth K) := ⟨_, _, ok__law_worth (w := w) (base := base) T F__law_worth, He.glo_ok X G (x := "_law_worth") (c.fact 22 (f := fun K => (He.Fa.glo "_law_worth").ok K) rfl), F__law_worth.kp, F__law_worth.bindsN fun _ _ _ _ _ _ us hl => match us, hl with | [_], _ => rfl⟩
  have D__law_power : Dok R.prog w K mg base 1 "_law_power" ["_law_powers_here", "_law_k"] (sp__law_power K) := ⟨_, _, ok__law_power (w := w) (base := base) T F__law_power, He.glo_ok X G (x := "_law_power") (c.fact 23 (f := fun K => (He.Fa.glo "_law_power").ok K) rfl), F__law_power.kp, F__law_power.bindsN fun _ _ _ _ _ _ us hl => match us, hl with | [_, _], _ => rfl⟩
  have D__law_goes : Dok R.prog w K mg base 2 "_law_goes" ["_law_one", "_law_other"] (sp__law_goes K) := ⟨_, _, ok__law_goes (w := w) (base := base) T D__law_power F__law_goes, He.glo_ok X G (x := "_law_goes") (c.fact 24 (f := fun K => (He.Fa.glo "_law_goes").ok K) rfl), F__law_goes.kp, F__law_goes.bindsN fun _ _ _ _ _ _ us hl => match us, hl with | [_, _], _ => rfl⟩
  have D__law_goes_mod : Dok R.prog w K mg base 3 "_law_goes_mod" ["_law_one", "_law_other", "_law_hours"] (sp__law_goes_mod K) := ⟨_, _, ok__law_goes_mod (w := w) (base := base) T D__law_power D__law_goes F__law_goes_mod, He.glo_ok X G (x := "_law_goes_mod") (c.fact 25 (f := fun K => (He.Fa.glo "_law_goes_mod").ok K) rfl), F__law_goes_mod.kp, F__law_goes_mod.bindsN fun _ _ _ _ _ _ us hl => match us, hl with | [_, _, _], _ => rfl⟩
  have D__law_good : Dok R.prog w K mg base 2 "_law_good" ["_law_kind", "_law_k", "_law_power_here"] (sp__law_good K) := ⟨_, _, ok__law_good (w := w) (base := base) T D__law_power F__law_good, He.glo_ok X G (x := "_law_good") (c.fact 26 (f := fun K => (He.Fa.glo "_law_good").ok K) rfl), F__law_good.kp, F__law_good.bindsN fun _ _ _ _ _ _ us hl => match us, hl with | [_, _, _], _ => rfl⟩
  have D__law_hours_go_on : Dok R.prog w K mg base 3 "_law_hours_go_on" ["_law_one", "_law_other"] (sp__law_hours_go_on K) := ⟨_, _, ok__law_hours_go_on (w := w) (base := base) T D__law_good F__law_hours_go_on, He.glo_ok X G (x := "_law_hours_go_on") (c.fact 27 (f := fun K => (He.Fa.glo "_law_hours_go_on").ok K) rfl), F__law_hours_go_on.kp, F__law_hours_go_on.bindsN fun _ _ _ _ _ _ us hl => match us, hl with | [_, _], _ => rfl⟩
  have D__law_kinds : Dok R.prog w K mg base 3 "_law_kinds" ["_law_found"] (sp__law_kinds K) := ⟨_, _, ok__law_kinds (w := w) (base := base) T D__law_powers D__law_take D__law_worth F__law_kinds, He.glo_ok X G (x := "_law_kinds") (c.fact 28 (f := fun K => (He.Fa.glo "_law_kinds").ok K) rfl), F__law_kinds.kp, F__law_kinds.bindsN fun _ _ _ _ _ _ us hl => match us, hl with | [_], _ => rfl⟩
  have D__law_pair : Dok R.prog w K mg base 4 "_law_pair" ["_law_found", "_law_one", "_law_other"] (sp__law_pair K) := ⟨_, _, ok__law_pair (w := w) (base := base) T D_loop_gives D__law_goes D__law_powers D_loop_sums D__law_worth D__law_goes_mod D__law_hours_go_on F__law_pair, He.glo_ok X G (x := "_law_pair") (c.fact 29 (f := fun K => (He.Fa.glo "_law_pair").ok K) rfl), F__law_pair.kp, F__law_pair.bindsN fun _ _ _ _ _ _ us hl => match us, hl with | [_, _, _], _ => rfl⟩
  have D__law_ends : Dok R.prog w K mg base 4 "_law_ends" ["_law_kind"] (sp__law_ends K) := ⟨_, _, ok__law_ends (w := w) (base := base) T D_alone D_loop_gives F__law_ends, He.glo_ok X G (x := "_law_ends") (c.fact 30 (f := fun K => (He.Fa.glo "_law_ends").ok K) rfl), F__law_ends.kp, F__law_ends.bindsN fun _ _ _ _ _ _ us hl => match us, hl with | [_], _ => rfl⟩
  have D__law_told_row : Dok R.prog w K mg base 4 "_law_told_row" ["_law_function", "_law_one", "_law_other"] (sp__law_told_row K) := ⟨_, _, ok__law_told_row (w := w) (base := base) T D_loop_gives D_loop_sums D_alone F__law_told_row, He.glo_ok X G (x := "_law_told_row") (c.fact 31 (f := fun K => (He.Fa.glo "_law_told_row").ok K) rfl), F__law_told_row.kp, F__law_told_row.bindsN fun _ _ _ _ _ _ us hl => match us, hl with | [_, _, _], _ => rfl⟩
  have D__law_told_hours : Dok R.prog w K mg base 4 "_law_told_hours" ["_law_one", "_law_other", "_law_hours"] (sp__law_told_hours K) := ⟨_, _, ok__law_told_hours (w := w) (base := base) T D_loop_sums F__law_told_hours, He.glo_ok X G (x := "_law_told_hours") (c.fact 32 (f := fun K => (He.Fa.glo "_law_told_hours").ok K) rfl), F__law_told_hours.kp, F__law_told_hours.bindsN fun _ _ _ _ _ _ us hl => match us, hl with | [_, _, _], _ => rfl⟩
  have D__law_refused : Dok R.prog w K mg base 5 "_law_refused" ["_law_found", "_law_kind"] (sp__law_refused K) := ⟨_, _, ok__law_refused (w := w) (base := base) T D__law_take D__law_told_row D__law_told_hours F__law_refused, He.glo_ok X G (x := "_law_refused") (c.fact 33 (f := fun K => (He.Fa.glo "_law_refused").ok K) rfl), F__law_refused.kp, F__law_refused.bindsN fun _ _ _ _ _ _ us hl => match us, hl with | [_, _], _ => rfl⟩
  exact ok_law (w := w) (base := base) T D__law_drawn D__law_kinds D__law_pair D__law_ends D_loop_gives D_alone D__law_refused F_law
end K63
open PySem PySem.W PySem.Calls PyProof.Rows
theorem PySem.Challenge.cw_nowaittasks_k63_order_of_giving_holds : PySem.Challenge.rw_nowaittasks_k63_order_of_giving.Holds := by
  w_on; o_law
  refine HandSHeadRun.head_imp (r := OpenLaw.row PySem.Challenge.rw_nowaittasks_k63_order_of_giving) (q := view (OpenLaw.row PySem.Challenge.rw_nowaittasks_k63_order_of_giving).prog [0, 31]) (H := K63.hk) (ob := K63.ob) (M := 4000) (loose := K63.loose) (d := HandSHeadRun.topDef (OpenLaw.row PySem.Challenge.rw_nowaittasks_k63_order_of_giving).prog 31) (kwd := []) K63.ob_eq
    K63.run (by kernel_rfl) (by kernel_rfl) (by kernel_rfl) (by rfl) (by first | assumption | decide +kernel) (by decide +kernel) ⟨rfl, rfl, rfl, rfl, rfl, by decide +kernel⟩ ?hw ?hc
  case hw => w_witness2
  case hc =>
    refine L2.walk_ofE (l := PySem.Challenge.rw_nowaittasks_k63_order_of_giving) (n := 63) (k := 6) (x := "_law_script") (CX := L2.CX0) rfl (by decide) (by kernel_rfl) ⟨rfl, by decide, by decide⟩ ?F (fun _ _ _ _ z => z)
    case F =>
      intro w mg fa h Y G hmg0
      obtain ⟨K, KX, c⟩ := Y
      have hmg : mg ("law" : PySem.Str) = some (.ref fa) := by
        have e : (HandSHeadRun.topDef (OpenLaw.row PySem.Challenge.rw_nowaittasks_k63_order_of_giving).prog 31).name = ("law" : PySem.Str) := by kernel_rfl
        rw [← e]
        exact hmg0
      obtain ⟨fd, hb, hF⟩ := K63.facts (w := w) KX G hmg c
      exact ⟨K, fd, K63.sp_law K, KX, hb, fun H a ns hl hO hS => K63.law_end H a ns hl hS, hF⟩
#print axioms PySem.Challenge.cw_nowaittasks_k63_order_of_giving_holds
end
